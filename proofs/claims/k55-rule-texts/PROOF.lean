import PyProof.Rows.All
import Wide.All
import OpenK.AllK
import Wide.FinOn
import KE.KStateDown
import HandS.ForMost
import HandS.Exc
import HandS.ExcOwn
import HandS.TryOnly
import HandS.WordsExc
import HandS.Defaults
import HandS.Wide
import HandS.FStr
import HandS.IsInst
import HandS.More
import HandS.StrMore
import HandS.Property
import OpenK.KOps
import OpenK.KMeth
import PyProof.SumWalkG
import PyProof.WalksMore
import HandS.Flt
import HandS.Star
import KE.KExcSuper
import HandS.ExcInit
import HandS.ClsMeth
import HandS.ExcIs
import HandS.ExcField
import HandS.HotCalls
import KE.GoesEnumKw
import PyProof.Rows.CallKwBuiltin
import HandS.Head0
import HandS.Head1
import HandS.Head2
import HandS.HeadEnd
import HandS.HeadHook1
import HandS.HeadHook2
import HandS.New0
import PyProof.Rows.RegReprOcc
import Wide.Txt
import PyProof.Rows.RegStrFacts
import HandS.Codes
import HandS.Walk
import PySem.Challenge.RW_carrylog_k55_rule_texts
set_option Elab.async false
set_option linter.all false
set_option maxRecDepth 100000
set_option maxHeartbeats 4000000
namespace Cy
open PySem PySem.Spec PyProof.Rows L2
abbrev St := L2.St

theorem PE.imp {X : Cx} {e : Expr} {t t' : TE} (p : PE X e t) (h : ∀ σ H Q, t' σ H Q → t σ H Q) : PE X e t' := ⟨fun pins s σ H Q I q => p.run pins s σ H Q I (h _ _ _ q)⟩
theorem PT.imp {X : Cx} {e : Expr} {t t' : TT} (p : PT X e t) (h : ∀ σ H Q, t' σ H Q → t σ H Q) : PT X e t' := ⟨fun pins s σ H Q I q => p.run pins s σ H Q I (h _ _ _ q)⟩

def sl : St → Nat → Option V
  | [], _ => none
  | o :: _, 0 => o
  | _ :: r, i + 1 => sl r i
theorem sl_get : ∀ {σ : St} {i : Nat} {v : V}, sl σ i = some v → σ[i]? = some (some v)
  | [], _, _, h => nomatch h
  | o :: r, 0, v, h => by
    have h : o = some v := h
    rw [h] <;> rfl
  | o :: r, i + 1, v, h => by
    rw [List.getElem?_cons_succ]
    exact sl_get (σ := r) h
def cV (i : Nat) : TE := fun σ H Q => match sl σ i with
  | some v => Q v H
  | none => False
theorem cv {X : Cx} (i : Nat) {x : Str} {pos : Pos} (hN : X.N[i]? = some x := by rfl) (hv : Vis X.env.scope x := by first | exact Or.inl rfl | exact Or.inr (Or.inl rfl) | exact Or.inr (Or.inr rfl)) (hd : (x == ("__debug__" : Str)) = false := by decide)
    (hcd : (x == ("__classdict__" : Str)) = false := by decide) : PE X (.Name x pos) (cV i) := PE.imp (pe_var hN hv hd hcd) fun σ H Q h => by
  unfold cV at h
  cases e : sl σ i with
  | none => rw [e] at h; exact h.elim
  | some v => rw [e] at h; exact ⟨v, sl_get e, h⟩

section
variable {X : Cx}
/-- + of two objects -/
inductive AddR (K : PySem.W.Frag) (ow : Addr → Addr → Hp → VK → Prop) (p q : Addr) (H : Hp) (Q : VK) : Prop where
  | lst (xs zs : List V) (h1 : H p = some (.lst xs)) (h2 : H q = some (.lst zs)) (hl : xs.length + zs.length ≤ sizeLine) (k : ∀ r, H r = none → Q (.ref r) (upd H r (.lst (xs ++ zs))))
  | tup (xs zs : List V) (h1 : SqT K H p xs) (h2 : SqT K H q zs) (hn : xs ≠ []) (hm : zs ≠ []) (hl : xs.length + zs.length ≤ sizeLine) (k : ∀ r, H r = none → Q (.ref r) (upd H r (.tup (xs ++ zs))))
  | own (h : ow p q H Q)
def noOw : Addr → Addr → Hp → VK → Prop := fun _ _ _ _ => False
def cAdd (K : PySem.W.Frag) (ow : Addr → Addr → Hp → VK → Prop) : R2 := fun x y H Q => match x, y with
  | .int i, .int j => Q (.int (i + j)) H
  | .str a, .str b => a.length + b.length ≤ sizeLine ∧ Q (.str (a ++ b)) H
  | .int i, .bl k => Q (.int (i + b2i k)) H
  | .ref p, .ref q => AddR K ow p q H Q
  | _, _ => False
/-- what an own + is worth -/
def OwOk (X : Cx) (ow : Addr → Addr → Hp → VK → Prop) : Prop := OpR X (binaryOp .Add) fun x y H Q => ∃ p q, x = .ref p ∧ y = .ref q ∧ ow p q H Q
theorem noOw_ok : OwOk X noOw := fun _ _ _ _ _ _ _ _ _ _ _ _ h => by
  obtain ⟨_, _, _, _, z⟩ := h
  exact z.elim
theorem op_cAdd {ow : Addr → Addr → Hp → VK → Prop} (ok : OwOk X ow) : OpR X (binaryOp .Add) (cAdd X.K ow) := by
  intro pins s σ H x y v u Q I rx ry h
  cases x <;> cases y <;> first
    | exact (show False from h).elim
    | exact op_add pins s σ H _ _ v u Q I rx ry ⟨_, _, rfl, rfl, h⟩
    | exact op_add_str pins s σ H _ _ v u Q I rx ry ⟨_, _, rfl, rfl, h.1, h.2⟩
    | exact op_add_ib pins s σ H _ _ v u Q I rx ry ⟨_, _, rfl, rfl, h⟩
    | skip
  rename_i p q
  have h : AddR X.K ow p q H Q := h
  cases h with
  | lst xs zs h1 h2 hl k => exact op_cat pins s σ H _ _ v u Q I rx ry ⟨_, _, _, _, rfl, rfl, h1, h2, hl, k⟩
  | tup xs zs h1 h2 hn hm hl k => exact op_catT pins s σ H _ _ v u Q I rx ry ⟨_, _, _, _, rfl, rfl, h1, h2, hn, hl, fun z => absurd z hm, fun _ => k⟩
  | own h => exact ok pins s σ H _ _ v u Q I rx ry ⟨p, q, rfl, rfl, h⟩
def cI2 (C : Int → Int → Prop) (g : Int → Int → V) : R2 := fun x y H Q => match x, y with
  | .int i, .int j => C i j ∧ Q (g i j) H
  | _, _ => False
def cI0 (g : Int → Int → V) : R2 := fun x y H Q => match x, y with
  | .int i, .int j => Q (g i j) H
  | _, _ => False
theorem op_cI2 {f : Value → Value → Sem Value} {C : Int → Int → Prop} {g : Int → Int → V} (p : OpR X f (rI C g)) : OpR X f (cI2 C g) := by
  intro pins s σ H x y v u Q I rx ry h
  cases x <;> cases y <;> first
    | exact (show False from h).elim
    | exact p pins s σ H _ _ v u Q I rx ry ⟨_, _, rfl, rfl, h.1, h.2⟩
theorem op_cI0 {f : Value → Value → Sem Value} {g : Int → Int → V} (p : OpR X f (rI0 g)) : OpR X f (cI0 g) := by
  intro pins s σ H x y v u Q I rx ry h
  cases x <;> cases y <;> first
    | exact (show False from h).elim
    | exact p pins s σ H _ _ v u Q I rx ry ⟨_, _, rfl, rfl, h⟩
abbrev cSub : R2 := cI0 fun i j => .int (i - j)
theorem op_cSub : OpR X (binaryOp .Sub) cSub := op_cI0 op_sub
abbrev cDiv : R2 := cI2 CDivW fun i j => .int (i / j)
theorem op_cDiv : OpR X (binaryOp .FloorDiv) cDiv := op_cI2 op_fdivW
abbrev cMod : R2 := cI2 (fun _ j => 0 < j) fun i j => .int (i % j)
theorem op_cMod : OpR X (binaryOp .Mod) cMod := op_cI2 op_mod
abbrev cPow : R2 := cI2 CPow fun i j => .int (i ^ j.toNat)
theorem op_cPow : OpR X (binaryOp .Pow) cPow := op_cI2 op_pow
inductive MulR (H : Hp) (Q : VK) (p : Addr) (k : Int) : Prop where
  | lst (xs : List V) (h : H p = some (.lst xs)) (h1 : -(2 ^ 63) ≤ k) (h2 : k < 2 ^ 63) (hl : xs.length * k.toNat ≤ sizeLine) (kk : ∀ q, H q = none → Q (.ref q) (upd H q (.lst (List.replicate k.toNat xs).flatten)))
def cMul : R2 := fun x y H Q => match x, y with
  | .int i, .int j => CMulW i j ∧ Q (.int (i * j)) H
  | .ref p, .int k => MulR H Q p k
  | _, _ => False
theorem op_cMul : OpR X (binaryOp .Mult) cMul := by
  intro pins s σ H x y v u Q I rx ry h
  cases x <;> cases y <;> first
    | exact (show False from h).elim
    | exact op_mulW pins s σ H _ _ v u Q I rx ry ⟨_, _, rfl, rfl, h.1, h.2⟩
    | skip
  rename_i p k
  have h : MulR H Q p k := h
  obtain ⟨xs, h, h1, h2, hl, kk⟩ := h
  exact op_rep pins s σ H _ _ v u Q I rx ry ⟨_, _, _, rfl, rfl, h, h1, h2, hl, kk⟩

abbrev cLt : R2 := cI0 fun i j => .bl (decide (i < j))
abbrev cLe : R2 := cI0 fun i j => .bl (decide (i ≤ j))
abbrev cGt : R2 := cI0 fun i j => .bl (decide (j < i))
abbrev cGe : R2 := cI0 fun i j => .bl (decide (j ≤ i))
theorem op_cLt : OpR X (compareOp .Lt) cLt := op_cI0 op_lt
theorem op_cLe : OpR X (compareOp .LtE) cLe := op_cI0 op_le
theorem op_cGt : OpR X (compareOp .Gt) cGt := op_cI0 op_gt
theorem op_cGe : OpR X (compareOp .GtE) cGe := op_cI0 op_ge
/-- == of two objects -/
inductive EqR (K : PySem.W.Frag) (p q : Addr) (H : Hp) (neg : Bool) (Q : VK) : Prop where
  | dat (d e : PyData) (h1 : Dp K H (.ref p) d) (h2 : Dp K H (.ref q) e) (h3 : SeqAt.shaped d = true) (h4 : SeqAt.shaped e = true) (k : Q (.bl (neg != PyData.eqv d e)) H)
def cEqN (K : PySem.W.Frag) (neg : Bool) : R2 := fun x y H Q => match x, y with
  | .int i, .int j => Q (.bl (neg != decide (i = j))) H
  | .str i, .str j => Q (.bl (neg != decide (i = j))) H
  | .bl i, .bl j => Q (.bl (neg != decide (i = j))) H
  | .non, .non => Q (.bl (neg != true)) H
  | .non, .int _ => Q (.bl neg) H
  | .int _, .non => Q (.bl neg) H
  | .ref p, .ref q => EqR K p q H neg Q
  | _, _ => False
theorem op_cEq (hu : X.A.units + 64 < cLine) : OpR X (compareOp .Eq) (cEqN X.K false) := by
  intro pins s σ H x y v u Q I rx ry h
  cases x <;> cases y <;> first
    | exact (show False from h).elim
    | skip
  case non.non => exact op_eq pins s σ H _ _ v u Q I rx ry ⟨rfl, h⟩
  case non.int j => exact op_eq pins s σ H _ _ v u Q I rx ry ⟨rfl, h⟩
  case int.non j => exact op_eq pins s σ H _ _ v u Q I rx ry ⟨rfl, h⟩
  case bl.bl i j =>
    refine op_eq pins s σ H _ _ v u Q I rx ry ⟨rfl, ?_⟩
    have e : decide (V.bl i = V.bl j) = (false != decide (i = j)) := by by_cases z : i = j <;> simp [z]
    rw [e]; exact h
  case int.int i j =>
    refine op_eq pins s σ H _ _ v u Q I rx ry ⟨rfl, ?_⟩
    have e : decide (V.int i = V.int j) = (false != decide (i = j)) := by by_cases z : i = j <;> simp [z]
    rw [e]; exact h
  case str.str i j =>
    refine op_eq pins s σ H _ _ v u Q I rx ry ⟨rfl, ?_⟩
    have e : decide (V.str i = V.str j) = (false != decide (i = j)) := by by_cases z : i = j <;> simp [z]
    rw [e]; exact h
  case ref.ref p q =>
    obtain ⟨d, e, h1, h2, h3, h4, k⟩ : EqR X.K p q H false Q := h
    refine op_eqD hu pins s σ H _ _ v u Q I rx ry ⟨d, e, h1, h2, h3, h4, ?_⟩
    have z : (false != PyData.eqv d e) = PyData.eqv d e := by cases PyData.eqv d e <;> rfl
    rw [← z]; exact k
theorem op_cNe (hu : X.A.units + 64 < cLine) : OpR X (compareOp .NotEq) (cEqN X.K true) := by
  intro pins s σ H x y v u Q I rx ry h
  cases x <;> cases y <;> first
    | exact (show False from h).elim
    | skip
  case non.non => exact op_ne pins s σ H _ _ v u Q I rx ry ⟨rfl, h⟩
  case non.int j => exact op_ne pins s σ H _ _ v u Q I rx ry ⟨rfl, h⟩
  case int.non j => exact op_ne pins s σ H _ _ v u Q I rx ry ⟨rfl, h⟩
  case bl.bl i j =>
    refine op_ne pins s σ H _ _ v u Q I rx ry ⟨rfl, ?_⟩
    have e : (!decide (V.bl i = V.bl j)) = (true != decide (i = j)) := by by_cases z : i = j <;> simp [z]
    rw [e]; exact h
  case int.int i j =>
    refine op_ne pins s σ H _ _ v u Q I rx ry ⟨rfl, ?_⟩
    have e : (!decide (V.int i = V.int j)) = (true != decide (i = j)) := by by_cases z : i = j <;> simp [z]
    rw [e]; exact h
  case str.str i j =>
    refine op_ne pins s σ H _ _ v u Q I rx ry ⟨rfl, ?_⟩
    have e : (!decide (V.str i = V.str j)) = (true != decide (i = j)) := by by_cases z : i = j <;> simp [z]
    rw [e]; exact h
  case ref.ref p q =>
    obtain ⟨d, e, h1, h2, h3, h4, k⟩ : EqR X.K p q H true Q := h
    refine op_neD hu pins s σ H _ _ v u Q I rx ry ⟨d, e, h1, h2, h3, h4, ?_⟩
    have z : (true != PyData.eqv d e) = !PyData.eqv d e := by cases PyData.eqv d e <;> rfl
    rw [← z]; exact k
/-- in -/
inductive InR (K : PySem.W.Frag) (x : V) (p : Addr) (H : Hp) (neg : Bool) (Q : VK) : Prop where
  | sq (xs : List V) (h : SqL K H p xs ∨ SqT K H p xs) (hx : flatV x = true) (ha : xs.all flatV = true) (k : Q (.bl (neg != inV x xs)) H)
def cIn (K : PySem.W.Frag) (neg : Bool) : R2 := fun x y H Q => match y with
  | .str z => (match x with
    | .str c => Q (.bl (neg != !(Builtin.Str.occurrences z c 0 z.length 1).isEmpty)) H
    | _ => False)
  | .ref p => InR K x p H neg Q
  | _ => False
theorem op_cIn : OpR X (compareOp .In) (cIn X.K false) := by
  intro pins s σ H x y v u Q I rx ry h
  cases y <;> first
    | exact (show False from h).elim
    | skip
  case str z =>
    cases x <;> first
      | exact (show False from h).elim
      | skip
    rename_i c
    refine op_in_str pins s σ H _ _ v u Q I rx ry ⟨_, _, rfl, rfl, ?_⟩
    have e : (false != !(Builtin.Str.occurrences z c 0 z.length 1).isEmpty) = !(Builtin.Str.occurrences z c 0 z.length 1).isEmpty := by cases (Builtin.Str.occurrences z c 0 z.length 1).isEmpty <;> rfl
    rw [← e]; exact h
  case ref p =>
    obtain ⟨xs, h, hx, ha, k⟩ : InR X.K x p H false Q := h
    refine op_in_seq pins s σ H _ _ v u Q I rx ry ⟨p, xs, rfl, h, hx, ha, ?_⟩
    have e : (false != inV x xs) = (if false = true then !inV x xs else inV x xs) := by cases inV x xs <;> rfl
    rw [← e]; exact k
theorem op_cNotIn : OpR X (compareOp .NotIn) (cIn X.K true) := by
  intro pins s σ H x y v u Q I rx ry h
  cases y <;> first
    | exact (show False from h).elim
    | skip
  case str z =>
    cases x <;> first
      | exact (show False from h).elim
      | skip
    rename_i c
    refine op_notIn_str pins s σ H _ _ v u Q I rx ry ⟨_, _, rfl, rfl, ?_⟩
    have e : (true != !(Builtin.Str.occurrences z c 0 z.length 1).isEmpty) = !(!(Builtin.Str.occurrences z c 0 z.length 1).isEmpty) := by cases (Builtin.Str.occurrences z c 0 z.length 1).isEmpty <;> rfl
    rw [← e]; exact h
  case ref p =>
    obtain ⟨xs, h, hx, ha, k⟩ : InR X.K x p H true Q := h
    refine op_notIn_seq pins s σ H _ _ v u Q I rx ry ⟨p, xs, rfl, h, hx, ha, ?_⟩
    have e : (true != inV x xs) = (if true = true then !inV x xs else inV x xs) := by cases inV x xs <;> rfl
    rw [← e]; exact k
/-- is None -/
def isNon : V → Bool
  | .non => true
  | _ => false
theorem isNon_eq (x : V) : decide (x = .non) = isNon x := by cases x <;> simp [isNon]
def cIsN (neg : Bool) : R2 := fun x y H Q => match y with
  | .non => Q (.bl (neg != isNon x)) H
  | _ => False
theorem op_cIs : OpR X (compareOp .Is) (cIsN false) := by
  intro pins s σ H x y v u Q I rx ry h
  cases y <;> first
    | exact (show False from h).elim
    | skip
  refine op_isN pins s σ H _ _ v u Q I rx ry ⟨rfl, ?_⟩
  rw [isNon_eq]
  have e : (false != isNon x) = isNon x := by cases isNon x <;> rfl
  rw [← e]; exact h
theorem op_cIsNot : OpR X (compareOp .IsNot) (cIsN true) := by
  intro pins s σ H x y v u Q I rx ry h
  cases y <;> first
    | exact (show False from h).elim
    | skip
  refine op_notN pins s σ H _ _ v u Q I rx ry ⟨rfl, ?_⟩
  rw [isNon_eq]
  have e : (true != isNon x) = !isNon x := by cases isNon x <;> rfl
  rw [← e]; exact h

def cTest (t : TE) : TT := fun σ H Q => t σ H fun x H' => match x with
  | .bl k => Q k H'
  | _ => False
variable {a b c : Expr} {ta tb tc : TE} {pos : Pos}
theorem ptc {op : CmpOp} {r : R2} (ho : OpR X (compareOp op) r) (ha : PE X a ta) (hb : PE X b tb) (hm : behindInMarks op b = false) : PT X (.Compare a [op] [b] pos) (cTest (tOp r ta tb)) := by
  refine ⟨fun pins s σ H Q I h => ?_⟩
  refine wpAny_isTrue_Compare1 (thn (ha.run pins s σ H _ I h) fun v s1 ⟨x, H1, I1, r1, q1⟩ => thn (hb.run pins s1 σ H1 _ I1 q1) fun u s2 ⟨y, H2, I2, r2, q2⟩ =>
    thn (ho pins s2 σ H2 x y v u _ I2 r1 r2 q2) fun c s3 ⟨z, H3, I3, r3, q3⟩ => ?_) hm
  cases z <;> first
    | exact (show False from q3).elim
    | skip
  cases r3
  exact wpAny_truthy_bool ⟨H3, I3, q3⟩
/-- a op1 b op2 c -/
def cChain (r r' : R2) (ta tb tc : TE) : TE := fun σ H Q => ta σ H fun x H1 => tb σ H1 fun y H2 => r x y H2 fun z H3 => match z with
  | .bl k => if k = true then tc σ H3 fun w' H4 => r' y w' H4 Q else Q (.bl false) H3
  | _ => False
theorem pec {op op' : CmpOp} {r r' : R2} (ho : OpR X (compareOp op) r) (ho' : OpR X (compareOp op') r') (ha : PE X a ta) (hb : PE X b tb) (hc : PE X c tc)
    (hm : lastMarks [op, op'] [b, c] = false := by with_unfolding_all rfl) : PE X (.Compare a [op, op'] [b, c] pos) (cChain r r' ta tb tc) := by
  refine ⟨fun pins s σ H Q I h => ?_⟩
  refine Compare_chain (thn (ha.run pins s σ H _ I h) fun v s1 ⟨x, H1, I1, r1, q1⟩ => chain_link (thn (hb.run pins s1 σ H1 _ I1 q1) fun u s2 ⟨y, H2, I2, r2, q2⟩ =>
    thn (ho pins s2 σ H2 x y v u _ I2 r1 r2 q2) fun d s3 ⟨z, H3, I3, r3, q3⟩ => ?_)) hm
  cases z <;> first
    | exact (show False from q3).elim
    | skip
  rename_i k
  cases r3
  refine wpAny_truthy_bool ?_
  cases k with
  | false => exact ite_ff ⟨.bl false, H3, I3, rfl, q3⟩
  | true => exact ite_tt (chain_last (thn (hc.run pins s3 σ H3 _ I3 q3) fun w' s4 ⟨z', H4, I4, r4, q4⟩ => ho' pins s4 σ H4 y z' u w' Q I4 r2 r4 q4))
theorem ptc2 {op op' : CmpOp} {r r' : R2} (ho : OpR X (compareOp op) r) (ho' : OpR X (compareOp op') r') (ha : PE X a ta) (hb : PE X b tb) (hc : PE X c tc)
    (hm : lastMarks [op, op'] [b, c] = false := by with_unfolding_all rfl) : PT X (.Compare a [op, op'] [b, c] pos) (cTest (cChain r r' ta tb tc)) := by
  refine ⟨fun pins s σ H Q I h => ?_⟩
  refine isTrue_chain (thn (ha.run pins s σ H _ I h) fun v s1 ⟨x, H1, I1, r1, q1⟩ => test_link (thn (hb.run pins s1 σ H1 _ I1 q1) fun u s2 ⟨y, H2, I2, r2, q2⟩ =>
    thn (ho pins s2 σ H2 x y v u _ I2 r1 r2 q2) fun d s3 ⟨z, H3, I3, r3, q3⟩ => ?_)) hm
  cases z <;> first
    | exact (show False from q3).elim
    | skip
  rename_i k
  cases r3
  refine wpAny_truthy_bool ?_
  cases k with
  | false => exact ite_ff ⟨H3, I3, q3⟩
  | true =>
    refine ite_tt (test_last (thn (hc.run pins s3 σ H3 _ I3 q3) fun w' s4 ⟨z', H4, I4, r4, q4⟩ => thn (ho' pins s4 σ H4 y z' u w' _ I4 r2 r4 q4) fun d' s5 ⟨z5, H5, I5, r5, q5⟩ => ?_))
    cases z5 <;> first
      | exact (show False from q5).elim
      | skip
    cases r5
    exact wpAny_truthy_bool ⟨H5, I5, q5⟩
/-- an expression by its truth -/
inductive TruP (K : PySem.W.Frag) (p : Addr) (H : Hp) (Q : Bool → Hp → Prop) : Prop where
  | lst (xs : List V) (h : SqL K H p xs) (k : Q (!xs.isEmpty) H)
  | tup (xs : List V) (h : SqT K H p xs) (k : Q (!xs.isEmpty) H)
  | dic (kvs : List (Key × V)) (h : H p = some (.dK kvs)) (k : Q (!kvs.isEmpty) H)
def cTru (K : PySem.W.Frag) (t : TE) : TT := fun σ H Q => t σ H fun x H' => match x with
  | .bl k => Q k H'
  | .non => Q false H'
  | .int i => Q (i != 0) H'
  | .str y => y.length ≤ sizeLine ∧ Q ((y.length : Int) != 0) H'
  | .ref p => TruP K p H' Q
  | _ => False
theorem ptv {e : Expr} {t : TE} (h : PE X e t) (he : ∀ whole, isTrue e X.env whole = (do let v ← whole; standAt e.pos; holding [v] (truthy v)) := by intro _; rfl) : PT X e (cTru X.K t) := by
  refine ⟨fun pins s σ H Q I hw => ?_⟩
  refine isTrue_plain (thn (h.run pins s σ H _ I hw) fun v s1 ⟨x, H1, I1, r1, q1⟩ => ?_) (he _)
  refine tru_ok pins s1 σ H1 x v Q I1 r1 ?_
  cases x <;> first
    | exact (show False from q1).elim
    | exact ⟨_, rfl, q1⟩
    | exact ⟨_, ⟨q1.1, rfl⟩, q1.2⟩
    | skip
  have q1 : TruP X.K _ H1 Q := q1
  cases q1 with
  | lst xs h k => exact ⟨_, .inl ⟨xs, h, rfl⟩, k⟩
  | tup xs h k => exact ⟨_, .inr (.inl ⟨xs, h, rfl⟩), k⟩
  | dic kvs h k => exact ⟨_, .inr (.inr ⟨kvs, h, rfl⟩), k⟩
variable {rest : List Expr}
def cAndV (ta tb : TE) : TE := fun σ H Q => ta σ H fun x H1 => match x with
  | .bl c => if c = true then tb σ H1 Q else Q (.bl false) H1
  | _ => False
def cOrV (ta tb : TE) : TE := fun σ H Q => ta σ H fun x H1 => match x with
  | .bl c => if c = true then Q (.bl true) H1 else tb σ H1 Q
  | _ => False
def cNotV (ta : TE) : TE := fun σ H Q => ta σ H fun x H1 => match x with
  | .bl c => Q (.bl (!c)) H1
  | _ => False
theorem pe_cAnd (ha : PE X a ta) (hb : PE X (.BoolOp .And (b :: rest) pos) tb) : PE X (.BoolOp .And (a :: b :: rest) pos) (cAndV ta tb) := by
  refine ⟨fun pins s σ H Q I h => ?_⟩
  refine BoolOp_and (thn (ha.run pins s σ H _ I h) fun v s1 ⟨x, H1, I1, r1, q1⟩ => ?_)
  cases x <;> first
    | exact (show False from q1).elim
    | skip
  rename_i c
  cases r1
  refine wpAny_truthy_bool ?_
  cases c with
  | true => exact hb.run pins s1 σ H1 Q I1 q1
  | false => exact ⟨.bl false, H1, I1, rfl, q1⟩
theorem pe_cOr (ha : PE X a ta) (hb : PE X (.BoolOp .Or (b :: rest) pos) tb) : PE X (.BoolOp .Or (a :: b :: rest) pos) (cOrV ta tb) := by
  refine ⟨fun pins s σ H Q I h => ?_⟩
  refine BoolOp_or (thn (ha.run pins s σ H _ I h) fun v s1 ⟨x, H1, I1, r1, q1⟩ => ?_)
  cases x <;> first
    | exact (show False from q1).elim
    | skip
  rename_i c
  cases r1
  refine wpAny_truthy_bool ?_
  cases c with
  | false => exact hb.run pins s1 σ H1 Q I1 q1
  | true => exact ⟨.bl true, H1, I1, rfl, q1⟩
theorem pe_cNot (ha : PE X a ta) : PE X (.UnaryOp .Not a pos) (cNotV ta) := by
  refine ⟨fun pins s σ H Q I h => ?_⟩
  refine UnaryOp_ (thn (ha.run pins s σ H _ I h) fun v s1 ⟨x, H1, I1, r1, q1⟩ => ?_)
  cases x <;> first
    | exact (show False from q1).elim
    | skip
  rename_i c
  cases r1
  exact not_of (wpAny_truthy_bool ⟨.bl (!c), H1, I1, rfl, q1⟩)
def cNeg : V → Hp → VK → Prop := fun x H Q => match x with
  | .int i => Q (.int (-i)) H
  | _ => False
theorem un_cNeg : UnR X (unaryOp .USub) cNeg := by
  intro pins s σ H x v Q I rx h
  cases x <;> first
    | exact (show False from h).elim
    | exact un_neg pins s σ H _ v Q I rx ⟨_, rfl, h⟩
inductive IxR' (K : PySem.W.Frag) (p : Addr) (i : Int) (H : Hp) (Q : VK) : Prop where
  | l {xs : List V} {v : V} (h : SqL K H p xs) (a : atI xs i = some v) (k : Q v H)
  | t {xs : List V} {v : V} (h : SqT K H p xs) (a : atI xs i = some v) (k : Q v H)
def cIx (K : PySem.W.Frag) : R2 := fun x y H Q => match y with
  | .int i => (match x with
    | .str z => z.length ≤ sizeLine ∧ ∃ c, atI z.cps.toList i = some c ∧ Q (.str ⟨#[c]⟩) H
    | .ref p => IxR' K p i H Q
    | _ => False)
  | _ => False
theorem ix_c : IxR X (cIx X.K) := by
  intro value slice pins s σ H x y v u Q I rx ry h hs
  cases y <;> first
    | exact (show False from h).elim
    | skip
  rename_i i
  cases x <;> first
    | exact (show False from h).elim
    | skip
  case str z =>
    obtain ⟨h1, c, h2, h3⟩ : z.length ≤ sizeLine ∧ ∃ c, atI z.cps.toList i = some c ∧ Q (.str ⟨#[c]⟩) H := h
    exact ix_seq value slice pins s σ H _ _ v u Q I rx ry (.inr (.inr ⟨z, i, c, rfl, rfl, h1, h2, h3⟩)) hs
  case ref p =>
    have h : IxR' X.K p i H Q := h
    cases h with
    | l h a k => exact ix_seq value slice pins s σ H _ _ v u Q I rx ry (.inl ⟨p, _, i, _, rfl, rfl, h, a, k⟩) hs
    | t h a k => exact ix_seq value slice pins s σ H _ _ v u Q I rx ry (.inr (.inl ⟨p, _, i, _, rfl, rfl, h, a, k⟩)) hs
def cPart (t : TE) : TO := fun σ H Q => t σ H fun x H1 => match x with
  | .int i => Q (some i) H1
  | _ => False
theorem po_c {te : TE} {e : Expr} (h : PE X e te) : PO X (some e) (cPart te) := by
  refine ⟨fun pins s σ H Q I hw => ?_⟩
  rw [evalPart_some]
  refine thn (h.run pins s σ H _ I hw) fun u s1 ⟨x, H1, I1, r1, q1⟩ => ?_
  cases x <;> first
    | exact (show False from q1).elim
    | skip
  obtain ⟨t, rfl⟩ := r1
  exact ⟨some _, H1, I1, .int _ t, q1⟩
/-- a slice of an object: a new one -/
inductive SlP (K : PySem.W.Frag) (p : Addr) (lo hi : Option Int) (H : Hp) (Q : VK) : Prop where
  | l {xs : List V} (h : SqL K H p xs) (k : ∀ r, H r = none → Q (.ref r) (upd H r (.lst (cutV xs lo hi))))
  | t {xs : List V} (h : SqT K H p xs) (hn : ¬ (HT.sIx xs.length 0 lo = 0 ∧ HT.sIx xs.length xs.length hi = xs.length)) (k : ∀ r, H r = none → Q (.ref r) (upd H r (.tup (cutV xs lo hi))))
def cSl (K : PySem.W.Frag) : V → Option Int → Option Int → Hp → VK → Prop := fun x lo hi H Q => match x with
  | .str z => z.length ≤ sizeLine ∧ Q (.str (cutS z lo hi)) H
  | .ref p => SlP K p lo hi H Q
  | _ => False
theorem sl_c : SlR X (cSl X.K) := by
  intro pins s σ H x v vl vu lo hi sl Q I rx hs pl pu h
  cases x <;> first
    | exact (show False from h).elim
    | skip
  case str z => exact sl_str pins s σ H _ v vl vu lo hi sl Q I rx hs pl pu ⟨z, rfl, h.1, h.2⟩
  case ref p =>
    have h : SlP X.K p lo hi H Q := h
    cases h with
    | l h k => exact sl_list pins s σ H _ v vl vu lo hi sl Q I rx hs pl pu ⟨p, _, rfl, h, k⟩
    | t h hn k => exact sl_tup pins s σ H _ v vl vu lo hi sl Q I rx hs pl pu ⟨p, _, rfl, h, hn, k⟩
end

structure Wd where
  P : Program
  w : World
  K : PySem.W.Frag
  mg : Str → Option Value
  base : Heap
abbrev Wd.of (X : Cx) : Wd := ⟨X.prog, X.w, X.K, X.mg, X.base⟩
/-- the object at f, called with values, keeps the promise -/
abbrev FnG (g : Wd) (k : Nat) (f : Addr) (sp : Sp) : Prop := FnR g.P g.w g.K g.mg g.base (L2.CX g.P g.w) k f sp
/-- the address of what the module's name x holds; of the method m of the class x -/
def gad (K : PySem.W.Frag) (x : Str) : Addr := match PySem.W.nsIn K mainGlobals x with
  | some (some (.ref a)) => a
  | _ => 0
def mad (K : PySem.W.Frag) (C : Addr) (m : Str) : Addr := match PySem.W.findIn K (.ref C) m with
  | some (some (.ref a)) => a
  | _ => 0
/-- the module's name x is the object at its address -/
structure Gf (g : Wd) (x : Str) : Prop where
  mg : g.mg x = some (.ref (gad g.K x))
  kp : PySem.W.keepIn g.K (.ref (gad g.K x)) = true

section
variable {X : Cx} {W : WX} {j : Nat} {x m : Str} {p pos apos : Pos} {e o : Expr} {es : List Expr} {ta : TE} {t : TA}
theorem run_fnR {CX : CXT} {k : Nat} {f : Addr} {sp : Sp} {E : XK} {Q : VK} {us : List Value} {vs : List V} {pins : List (Addr × Obj)} {σ : St} {H : Hp} {s : Shared} (F : FnR X.prog X.w X.K X.mg X.base CX k f sp) (hr : Room k X.A) (hx : PassesAt CX X σ E) (I : Inv X pins σ H s) (r : Vals vs us) (h : sp vs H Q E) :
    wpAny (model X.prog X.w) X.A (call (.ref f) us) (EP X pins σ Q) X.xe s := by
  refine wpAny_call (codeAny_mono (F X.A X.stack s H us vs Q E hr I.env0 r h) fun r s' hq => ?_)
  cases r with
  | error e => exact hx pins H s e s' I hq
  | ok fl =>
    cases fl with
    | ret u => exact I.after hq
    | next => exact False.elim hq
    | brk => exact False.elim hq
    | cont => exact False.elim hq
/-- a call of the object at f, by the promise that the reader brings -/
inductive CallP (g : Wd) (j : Nat) (f : Addr) (vs : List V) (H : Hp) (Q : VK) (E : XK) : Prop where
  | by {k : Nat} {sp : Sp} (c : FnG g k f sp) (hk : k ≤ j) (h : sp vs H Q E)
def cCall (g : Wd) (j : Nat) (W : WX) (f : Addr) (t : TA) : TE := fun σ H Q => t σ H fun vs H1 => CallP g j f vs H1 Q (fun cls d H' => W cls d σ H')
theorem run_callP {f : Addr} {E : XK} {Q : VK} {us : List Value} {vs : List V} {pins : List (Addr × Obj)} {σ : St} {H : Hp} {s : Shared} (hr : Room j X.A) (hx : PassesAt (L2.CX X.prog X.w) X σ E) (I : Inv X pins σ H s) (r : Vals vs us) (h : CallP (.of X) j f vs H Q E) :
    wpAny (model X.prog X.w) X.A (call (.ref f) us) (EP X pins σ Q) X.xe s := by
  obtain ⟨c, hk, h⟩ := h
  exact run_fnR c (hr.mono hk) hx I r h
theorem pe_cCall (tk : Takes X W) (hr : Room j X.A) (hf : Gf (.of X) x) (hg : Gl X x) (ha : PA X (e :: es) t) (hdb : (x == ("__debug__" : Str)) = false := by decide) (he : starEach (e :: es) X.env = (false, eval e X.env) :: starEach es X.env := by rfl)
    (hpl : (backTo pos (starEach es X.env)).any (·.1) = false := by rfl) : PE X (.Call (.Name x p) (e :: es) [] pos) (cCall (.of X) j W (gad X.K x) t) := by
  refine ⟨fun pins s σ H Q I h => ?_⟩
  refine wpAny_Call_Name_kw (ld_glob I hg hf.mg ?_ hdb)
  refine PySem.W.callWith_K (h₀ := X.base) I.ok.mod.kin hf.kp (thn (ha.run pos pins s σ H _ I h) fun us s1 ⟨vs, H1, I1, r, q⟩ => ⟨I1.kIn, ?_⟩) he hpl
  exact run_callP hr (passAt tk σ) I1 r q
theorem pe_cCall0 (tk : Takes X W) (hr : Room j X.A) (hf : Gf (.of X) x) (hg : Gl X x) (hdb : (x == ("__debug__" : Str)) = false := by decide) : PE X (.Call (.Name x p) [] [] pos) (cCall (.of X) j W (gad X.K x) tNil) := by
  refine ⟨fun pins s σ H Q I h => ?_⟩
  refine wpAny_Call_Name_kw (ld_glob I hg hf.mg ?_ hdb)
  exact PySem.W.callWith_K0 I.kIn hf.kp (run_callP (us := []) hr (passAt tk σ) I .nil h)
/-- o.m(..): the receiver -/
inductive MethP (g : Wd) (m : Str) (x : V) (H : Hp) (R : Addr → Addr → Prop) : Prop where
  | own {a C dx f : Addr} {fs : List (Str × V)} (e : x = .ref a) (h : H a = some (.ins C dx fs)) (c : Cls g.K C) (hm : Meth g.K C m f) (l : fs.lookup m = none) (k : R a f)
def cMeth (g : Wd) (j : Nat) (W : WX) (m : Str) (ta : TE) (t : TA) : TE := fun σ H Q => ta σ H fun x H1 => MethP g m x H1 fun a f => t σ H1 fun vs H2 => CallP g j f (.ref a :: vs) H2 Q (fun cls d H' => W cls d σ H')
theorem pe_cMeth {pl : Sem Bool} (tk : Takes X W) (hr : Room j X.A) (he : PE X o ta) (ha : PA X (e :: es) t)
    (hst : starEach (e :: es) X.env = (false, eval e X.env) :: starEach es X.env := by rfl) (hpl : (backTo pos (starEach es X.env)).any (·.1) = false := by rfl)
    (ht : eval (.Call (.Attribute o m apos) (e :: es) [] pos) X.env = (do
      let ov ← eval o X.env
      standAt apos.atName
      let (f, first) ← holding [ov] (getMethod ov m pl)
      callWith pos f first (backTo pos (starEach (e :: es) X.env)) (backToKw pos (keywordEach [] X.env))) := by rfl) :
    PE X (.Call (.Attribute o m apos) (e :: es) [] pos) (cMeth (.of X) j W m ta t) := by
  refine ⟨fun pins s σ H Q I h => ?_⟩
  refine PySem.W.methodCall_KW (pl := pl) (thn (he.run pins s σ H _ I h) fun u s1 ⟨x, H1, I1, rx, q⟩ => ?_) ht
  obtain ⟨ex, ea, c, hm, l, q⟩ := q
  rename_i a C dx f fs
  subst ex
  obtain rfl : u = Value.ref a := rx
  refine getmeth_ok I1 ea c hm l ?_
  refine PySem.W.callWith_K (first := [.ref a]) (h₀ := X.base) I.ok.mod.kin hm.kp (thn (ha.run pos pins s1 σ H1 _ I1 q) fun us s2 ⟨vs, H2, I2, r, q2⟩ => ⟨I2.kIn, ?_⟩) hst hpl
  exact run_callP (us := .ref a :: us) (vs := .ref a :: vs) hr (passAt tk σ) I2 (.cons rfl r) q2
theorem pe_cMeth0 {pl : Sem Bool} (tk : Takes X W) (hr : Room j X.A) (he : PE X o ta)
    (ht : eval (.Call (.Attribute o m apos) [] [] pos) X.env = (do
      let ov ← eval o X.env
      standAt apos.atName
      let (f, first) ← holding [ov] (getMethod ov m pl)
      callWith pos f first (backTo pos (starEach [] X.env)) (backToKw pos (keywordEach [] X.env))) := by rfl) :
    PE X (.Call (.Attribute o m apos) [] [] pos) (cMeth (.of X) j W m ta tNil) := by
  refine ⟨fun pins s σ H Q I h => ?_⟩
  refine PySem.W.methodCall_KW (pl := pl) (thn (he.run pins s σ H _ I h) fun u s1 ⟨x, H1, I1, rx, q⟩ => ?_) ht
  obtain ⟨ex, ea, c, hm, l, q⟩ := q
  rename_i a C dx f fs
  subst ex
  obtain rfl : u = Value.ref a := rx
  refine getmeth_ok I1 ea c hm l ?_
  exact PySem.W.callWith_K0 (first := [.ref a]) I1.kIn hm.kp (run_callP (us := [.ref a]) (vs := [.ref a]) hr (passAt tk σ) I1 (.cons rfl .nil) q)
/-- o.f: a field -/
inductive FldP (K : PySem.W.Frag) (f : Str) (x : V) (H : Hp) (Q : VK) : Prop where
  | by {a C dx : Addr} {fs : List (Str × V)} {v : V} (e : x = .ref a) (h : H a = some (.ins C dx fs)) (c : Cls K C) (n : NoAttr K C f) (l : fs.lookup f = some v) (k : Q v H)
def cFld (K : PySem.W.Frag) (ta : TE) (f : Str) : TE := fun σ H Q => ta σ H fun x H1 => FldP K f x H1 Q
theorem pe_cFld {f : Str} (he : PE X e ta) (hb : attributeBase e f X.env (eval e X.env) = eval e X.env := by rfl) : PE X (.Attribute e f pos) (cFld X.K ta f) := by
  refine ⟨fun pins s σ H Q I h => ?_⟩
  refine attr_of hb (thn (he.run pins s σ H _ I h) fun u s1 ⟨x, H1, I1, rx, q⟩ => ?_)
  obtain ⟨ex, ea, c, n, l, q⟩ := q
  rename_i a C dx fs v
  subst ex
  obtain rfl : u = Value.ref a := rx
  exact getattr_ok I1 ea c n l fun u' s2 I2 ru => ⟨v, H1, I2, ru, q⟩
/-- o.f = v -/
inductive SetP (K : PySem.W.Frag) (f : Str) (x y : V) (H : Hp) (Q : Hp → Prop) : Prop where
  | by {a C dx : Addr} {fs : List (Str × V)} (e : x = .ref a) (h : H a = some (.ins C dx fs)) (c : Cls K C) (n : NoAttr K C f) (l : fs.length < 1000) (k : Q (upd H a (.ins C dx (putF f y fs))))
def cSetF (K : PySem.W.Frag) (ta tv : TE) (f : Str) : TS := fun D σ H => tv σ H fun y H1 => ta σ H1 fun x H2 => SetP K f x y H2 fun H3 => D.nx σ H3
theorem ps_cSetF {f : Str} {value : Expr} {tv : TE} {pos' : Pos} (ha : PE X o ta) (hv : PE X value tv) (hs : swapsWith value (some (.Attribute o f pos')) pos.line X.env = pure false := by rfl) : PS X (.Assign [.Attribute o f pos'] value pos) (cSetF X.K ta tv f) := by
  refine ⟨fun pins s σ H D I h => ?_⟩
  refine plainObj_wpAny_Assign_Attribute (thn (hv.run pins s σ H _ I h) fun u s1 ⟨y, H1, I1, ry, q⟩ => thn (ha.run pins s1 σ H1 _ I1 q) fun ov s2 ⟨x, H2, I2, rx, q2⟩ => ?_) hs
  obtain ⟨ex, ea, c, n, l, q2⟩ := q2
  rename_i a C dx fs
  subst ex
  obtain rfl : ov = Value.ref a := rx
  exact setattr_ok I2 ea c n l ry fun s3 I3 => ⟨σ, _, I3, q2⟩
/-- o.f, a property: its getter lets nothing out -/
inductive PropP (g : Wd) (j : Nat) (f : Str) (x : V) (H : Hp) (Q : VK) : Prop where
  | by {a C dx p gt : Addr} {fs : List (Str × V)} {k : Nat} {sp : Sp} (e : x = .ref a) (h : H a = some (.ins C dx fs)) (c : Cls g.K C) (hp : PropOf g.K C f p gt) (F : FnG g k gt sp) (hk : k ≤ j) (q : sp [.ref a] H Q E0)
def cProp (g : Wd) (j : Nat) (ta : TE) (f : Str) : TE := fun σ H Q => ta σ H fun x H1 => PropP g j f x H1 Q
theorem pe_cProp {f : Str} (hr : Room (j + 1) X.A) (he : PE X e ta) (hb : attributeBase e f X.env (eval e X.env) = eval e X.env := by rfl) : PE X (.Attribute e f pos) (cProp (.of X) j ta f) := by
  refine ⟨fun pins s σ H Q I h => ?_⟩
  refine attr_of hb (thn (he.run pins s σ H _ I h) fun u s1 ⟨x, H1, I1, rx, q⟩ => ?_)
  obtain ⟨ex, ea, c, hp, F, hk, q⟩ := q
  rename_i a C dx p gt fs k sp
  subst ex
  obtain rfl : u = Value.ref a := rx
  obtain ⟨mA, O, _, _, _, _⟩ := ins_get I1.hok ea
  obtain ⟨od, J, _⟩ := O.look
  obtain ⟨rest, hrec⟩ := hp.rec_
  have I2 := I1.tok (s1.toks + 1)
  have hc : (PySem.W.clsIn X.K C).isSome = true := by
    obtain ⟨cd, hc, _⟩ := PySem.W.any_some c.hd
    rw [hc]
    rfl
  refine PySem.W.get_bind I1.kIn J (PySem.W.plainGet_of (c.get f)).1 (PySem.W.findObj_data hc hp.at_ hp.get hp.tak) (PySem.W.plainGet_of (c.get f)).2 (wpAny_call (PySem.W.prop_get (s := { s1 with toks := s1.toks + 1 }) I1.kIn hrec ?_))
  refine codeAny_mono (F X.A.in1 X.stack { s1 with toks := s1.toks + 1 } H1 [.ref a] [.ref a] Q E0 (hr.mono (Nat.succ_le_succ hk)).in1 I2.env0.in1 (.cons rfl .nil) q) fun r s' hq => ?_
  cases r with
  | error er => exact False.elim (passL (X := X) pins σ H1 { s1 with toks := s1.toks + 1 } er s' I2 hq |> fun z => by
      obtain ⟨_, _, _, _, _, _, _, _, _, _, _, _, z⟩ := hq
      exact z)
  | ok fl =>
    cases fl with
    | ret u =>
      obtain ⟨v, H', I3, rv, q3⟩ := I2.after hq
      show wpAny _ _ (handedOut u) _ _ _
      rw [PySem.W.handedOut_of (handed_of rv)]
      exact wpAny_pure ⟨v, H', I3, rv, q3⟩
    | next => exact False.elim hq
    | brk => exact False.elim hq
    | cont => exact False.elim hq
end
end Cy
namespace Cy
open PySem PySem.Spec PyProof.Rows L2
section
variable {prog : Program} {w : World} {A : Around} {E : Value → Shared → Prop} {s : Shared} {l : Addr} {its : List Value} {ns : List Int} {Q : Value → Shared → Prop}
theorem ltS {a b : Nat} (h : b = a ∨ b < a) : b < a + 1 := by omega
theorem sum_tup (hh : A.handled = none) (hl : s.heap.IsTuple l its.toArray) (hi : IntsAre its ns)
    (h : ∀ h' tk t', (∀ b o, s.heap.get? b = some o → h'.get? b = some o) → Q (.int ns.sum t') { s with heap := h', toks := tk }) : wpAny (model prog w) A (call (.builtin "sum") [.ref l]) Q E s := by
  obtain ⟨xs, e⟩ := hi.allInts.items
  have hn : numsOf (intItems xs).toList = ns := by rw [← e]; exact hi.numsOf
  rw [nums_intItems] at hn
  rw [e] at hl
  have hlt : l < s.heap.objs.size := by obtain ⟨_, e, _⟩ := hl; exact Heap.lt_size e
  refine call_sum_walkG (wpAny_pyIter_tuple hl ?_)
  refine ⟨_, _, _, _, _, _, numAt xs, rfl, Walks.tuple (A := A.in1) hh _ l (Nat.ne_of_lt hlt) (intItems xs), ⟨⟨_, Heap.get?_push_size _ rfl, rfl, rfl⟩, hl.push _⟩, ?_, (fun _ _ => intItems_at), fun h' tk t' hk => ?_⟩
  · intro b hb
    show b < (s.heap.push _).objs.size
    rw [Heap.size_push]
    rcases List.mem_cons.mp hb with rfl | hb
    · exact ltS (.inl rfl)
    · rcases List.mem_cons.mp hb with rfl | hb
      · exact ltS (.inr hlt)
      · cases hb
  · have q := h h' tk t' (fun b o e => by
      refine hk b o (fun hm => ?_) (Heap.get?_push_of_some _ e)
      rcases List.mem_cons.mp hm with e1 | hm
      · exact absurd (e1 ▸ Heap.lt_size e) (Nat.lt_irrefl _)
      · cases hm)
    rw [preSum_eq, List.take_of_length_le (by simp [intItems]), hn]
    exact q
end
section
variable {X : Cx} {j : Nat}
/-- sum of ints -/
inductive SumP (K : PySem.W.Frag) (p : Addr) (H : Hp) (Q : VK) : Prop where
  | l {ns : List Int} (h : SqL K H p (ns.map V.int)) (k : Q (.int ns.sum) H)
  | t {ns : List Int} (h : SqT K H p (ns.map V.int)) (k : Q (.int ns.sum) H)
def cSum (K : PySem.W.Frag) : List V → Hp → VK → Prop := fun xs H Q => match xs with
  | [.ref p] => SumP K p H Q
  | _ => False
theorem call_cSum (hc : X.calm = true) : CallR X (.builtin "sum") (cSum X.K) := by
  intro pins s σ H xs us Q I r h
  match xs, r, h with
  | [.ref p], r, h =>
    have h : SumP X.K p H Q := h
    cases h with
    | l h k => exact cr_sum hc pins s σ H _ us Q I r ⟨p, _, rfl, h, k⟩
    | t h k =>
      obtain ⟨its, rv, hl, _⟩ := I.tuple h
      rw [Vals.ref1 r]
      refine sum_tup (I.ok.hd hc) (show s.heap.IsTuple p its.toArray from hl) rv.ints fun h' tk t' hk => ⟨.int _, H, I.kept hk, ⟨_, rfl⟩, k⟩

theorem cr1 {f : Value} {r : List V → Hp → VK → Prop} (h : CallR X f r) : CallR X f r := h
/-- len -/
inductive LenP (g : Wd) (j : Nat) (p : Addr) (H : Hp) (Q : VK) : Prop where
  | l {xs : List V} (h : SqL g.K H p xs) (k : Q (.int xs.length) H)
  | t {xs : List V} (h : SqT g.K H p xs) (k : Q (.int xs.length) H)
  | own {C dx f : Addr} {fs : List (Str × V)} {k : Nat} {sp : Sp} (h : H p = some (.ins C dx fs)) (hs : PySem.W.findIn g.K (.ref C) "__len__" = some (some (.ref f))) (hf : PySem.W.isFn g.K (.ref f) = true) (F : FnG g k f sp) (hk : k ≤ j)
      (q : sp [.ref p] H (fun v H' => ∃ n : Int, v = .int n ∧ 0 ≤ n ∧ n < 2 ^ 63 ∧ Q (.int n) H') E0)
def cLen (g : Wd) (j : Nat) : List V → Hp → VK → Prop := fun xs H Q => match xs with
  | [.str y] => y.length ≤ sizeLine ∧ Q (.int y.length) H
  | [.ref p] => LenP g j p H Q
  | _ => False
theorem call_cLen (hr : Room (j + 1) X.A) : CallR X (.builtin "len") (cLen (.of X) j) := by
  intro pins s σ H xs us Q I r h
  match xs, r, h with
  | [.str y], r, h => exact call_len pins s σ H _ us Q I r ⟨_, _, rfl, ⟨h.1, rfl⟩, h.2⟩
  | [.ref p], r, h =>
    have h : LenP (.of X) j p H Q := h
    cases h with
    | l h k => exact call_len pins s σ H _ us Q I r ⟨_, _, rfl, .inl ⟨_, h, rfl⟩, k⟩
    | t h k => exact call_len pins s σ H _ us Q I r ⟨_, _, rfl, .inr ⟨_, h, rfl⟩, k⟩
    | @own C dx f fs k sp h hs hf F hk q =>
      rw [Vals.ref1 r]
      obtain ⟨mA, O, _, _, _, _⟩ := ins_get I.hok h
      obtain ⟨od, J, _⟩ := O.look
      obtain ⟨m, Fm⟩ := I.fr
      refine PySem.W.len_K Fm I.ok.mod.kin J hs hf (wpAny_call (codeAny_mono (F X.A.in1 X.stack s H [.ref p] [.ref p] _ E0 (hr.mono (Nat.succ_le_succ hk)).in1 I.env0.in1 (.cons rfl .nil) q) fun r s' hq => ?_))
      cases r with
      | error er =>
        obtain ⟨_, _, _, _, _, _, _, _, _, _, _, _, z⟩ := hq
        exact z.elim
      | ok fl =>
        cases fl with
        | ret u =>
          obtain ⟨v, H', I3, rv, n, ev, n1, n2, q3⟩ := I.after hq
          subst ev
          obtain ⟨t, rfl⟩ := rv
          exact ⟨⟨n1, n2⟩, ⟨.int n, H', I3.tok _, ⟨_, rfl⟩, q3⟩⟩
        | next => exact False.elim hq
        | brk => exact False.elim hq
        | cont => exact False.elim hq
/-- int -/
def cInt : List V → Hp → VK → Prop := fun xs H Q => match xs with
  | [.int i] => Q (.int i) H
  | [.bl k] => Q (.int (if k then 1 else 0)) H
  | [.str a] => ∃ n, PySem.intText? a = some n ∧ a.length ≤ 640 ∧ Q (.int n) H
  | _ => False
theorem call_cInt : CallR X (.type "int") cInt := by
  intro pins s σ H xs us Q I r h
  match xs, r, h with
  | [.int i], r, h => exact call_int1 pins s σ H _ us Q I r (.inl ⟨_, rfl, h⟩)
  | [.bl i], r, h => exact call_int1 pins s σ H _ us Q I r (.inr ⟨_, rfl, h⟩)
  | [.str a], r, h =>
    obtain ⟨n, h1, h2, h3⟩ : ∃ n, PySem.intText? a = some n ∧ a.length ≤ 640 ∧ Q (.int n) H := h
    exact call_int_str pins s σ H _ us Q I r ⟨a, n, rfl, h1, h2, h3⟩
/-- str -/
def cStr : List V → Hp → VK → Prop := fun xs H Q => match xs with
  | [.int i] => i.natAbs.log2 < 1920 ∧ Q (.str (toString i)) H
  | _ => False
theorem call_cStr : CallR X (.type "str") cStr := by
  intro pins s σ H xs us Q I r h
  match xs, r, h with
  | [.int i], r, h => exact call_str_int pins s σ H _ us Q I r ⟨_, rfl, h.1, h.2⟩
def cAbs : List V → Hp → VK → Prop := fun xs H Q => match xs with
  | [.int i] => Q (.int (if i < 0 then -i else i)) H
  | _ => False
theorem call_cAbs : CallR X (.builtin "abs") cAbs := by
  intro pins s σ H xs us Q I r h
  match xs, r, h with
  | [.int i], r, h => exact call_abs pins s σ H _ us Q I r ⟨_, rfl, h⟩
/-- the least, the greatest of a list -/
inductive MnP (K : PySem.W.Frag) (p : Addr) (H : Hp) (Q : VK) : Prop where
  | l {ns : List Int} (h : SqL K H p (ns.map V.int)) (hn : 0 < ns.length) (k : ∀ m, m ∈ ns → (∀ y, y ∈ ns → m ≤ y) → Q (.int m) H)
inductive MxP (K : PySem.W.Frag) (p : Addr) (H : Hp) (Q : VK) : Prop where
  | l {ns : List Int} (h : SqL K H p (ns.map V.int)) (hn : 0 < ns.length) (k : ∀ m, m ∈ ns → (∀ y, y ∈ ns → y ≤ m) → Q (.int m) H)
def cMin (K : PySem.W.Frag) : List V → Hp → VK → Prop := fun xs H Q => match xs with
  | [.int i, .int j] => Q (.int (min i j)) H
  | [.int i, .int j, .int k] => Q (.int (min (min i j) k)) H
  | [.ref p] => MnP K p H Q
  | _ => False
def cMax (K : PySem.W.Frag) : List V → Hp → VK → Prop := fun xs H Q => match xs with
  | [.int i, .int j] => Q (.int (max i j)) H
  | [.int i, .int j, .int k] => Q (.int (max (max i j) k)) H
  | [.ref p] => MxP K p H Q
  | _ => False
theorem min2i (i k : Int) : nuMin2 (.int i) (.int k) = some (.int (min i k)) := by
  have e : nuMin2 (.int i) (.int k) = some (if decide (k < i) = true then .int k else .int i) := rfl
  rw [e]
  by_cases h : k < i
  · rw [if_pos (decide_eq_true h), show min i k = k by omega]
  · rw [if_neg (by simpa using h), show min i k = i by omega]
theorem max2i (i k : Int) : nuMax2 (.int i) (.int k) = some (.int (max i k)) := by
  have e : nuMax2 (.int i) (.int k) = some (if decide (i < k) = true then .int k else .int i) := rfl
  rw [e]
  by_cases h : i < k
  · rw [if_pos (decide_eq_true h), show max i k = k by omega]
  · rw [if_neg (by simpa using h), show max i k = i by omega]
theorem call_cMin (hc : X.calm = true) : CallR X (.builtin "min") (cMin X.K) := by
  intro pins s σ H xs us Q I r h
  match xs, r, h with
  | [.int i, .int k], r, h =>
    refine call_min2 hc pins s σ H _ us Q I r ⟨_, _, rfl, ?_⟩
    have e : (if k < i then k else i) = min i k := by split <;> omega
    rw [e]; exact h
  | [.int i, .int k, .int l], r, h =>
    exact call_min3Nu hc pins s σ H _ us Q I r ⟨_, _, _, .int (min (min i k) l), rfl, by unfold nuMin3; rw [min2i, Option.bind_some, min2i], h⟩
  | [.ref p], r, h =>
    obtain ⟨h, hn, k⟩ : MnP X.K p H Q := h
    exact cr_min hc pins s σ H _ us Q I r ⟨p, _, rfl, h, hn, k⟩
theorem call_cMax (hc : X.calm = true) : CallR X (.builtin "max") (cMax X.K) := by
  intro pins s σ H xs us Q I r h
  match xs, r, h with
  | [.int i, .int k], r, h =>
    refine call_max2 hc pins s σ H _ us Q I r ⟨_, _, rfl, ?_⟩
    have e : (if k > i then k else i) = max i k := by split <;> omega
    rw [e]; exact h
  | [.int i, .int k, .int l], r, h =>
    exact call_max3Nu hc pins s σ H _ us Q I r ⟨_, _, _, .int (max (max i k) l), rfl, by unfold nuMax3; rw [max2i, Option.bind_some, max2i], h⟩
  | [.ref p], r, h =>
    obtain ⟨h, hn, k⟩ : MxP X.K p H Q := h
    exact cr_max hc pins s σ H _ us Q I r ⟨p, _, rfl, h, hn, k⟩
/-- list(..), tuple(..) -/
inductive LstP (K : PySem.W.Frag) (p : Addr) (H : Hp) (Q : VK) : Prop where
  | l {xs : List V} (h : SqL K H p xs) (k : ∀ r, H r = none → Q (.ref r) (upd H r (.lst xs)))
  | t {xs : List V} (h : SqT K H p xs) (k : ∀ r, H r = none → Q (.ref r) (upd H r (.lst xs)))
inductive TupP (K : PySem.W.Frag) (p : Addr) (H : Hp) (Q : VK) : Prop where
  | l {xs : List V} (h : SqL K H p xs) (k : ∀ r, H r = none → Q (.ref r) (upd H r (.tup xs)))
  | t {xs : List V} (h : SqT K H p xs) (k : Q (.ref p) H)
def cList (K : PySem.W.Frag) : List V → Hp → VK → Prop := fun xs H Q => match xs with
  | [.ref p] => LstP K p H Q
  | _ => False
def cTuple (K : PySem.W.Frag) : List V → Hp → VK → Prop := fun xs H Q => match xs with
  | [.ref p] => TupP K p H Q
  | _ => False
theorem call_cList : CallR X (.type "list") (cList X.K) := by
  intro pins s σ H xs us Q I r h
  match xs, r, h with
  | [.ref p], r, h =>
    have h : LstP X.K p H Q := h
    cases h with
    | l h k => exact call_list_of pins s σ H _ us Q I r ⟨p, _, rfl, .inl h, k⟩
    | t h k => exact call_list_of pins s σ H _ us Q I r ⟨p, _, rfl, .inr h, k⟩
theorem call_cTuple : CallR X (.type "tuple") (cTuple X.K) := by
  intro pins s σ H xs us Q I r h
  match xs, r, h with
  | [.ref p], r, h =>
    have h : TupP X.K p H Q := h
    cases h with
    | l h k => exact call_tuple_of pins s σ H _ us Q I r ⟨p, _, rfl, .inl ⟨h, k⟩⟩
    | t h k => exact call_tuple_of pins s σ H _ us Q I r ⟨p, _, rfl, .inr ⟨h, k⟩⟩
/-- all(list of bools) -/
inductive AllP (K : PySem.W.Frag) (p : Addr) (H : Hp) (Q : VK) : Prop where
  | l {bs : List Bool} (h : SqL K H p (bs.map V.bl)) (k : Q (.bl (bs.all id)) H)
def cAll (K : PySem.W.Frag) : List V → Hp → VK → Prop := fun xs H Q => match xs with
  | [.ref p] => AllP K p H Q
  | _ => False
theorem call_cAll (hc : X.calm = true) : CallR X (.builtin "all") (cAll X.K) := by
  intro pins s σ H xs us Q I r h
  match xs, r, h with
  | [.ref p], r, h =>
    obtain ⟨h, k⟩ : AllP X.K p H Q := h
    exact cr_all hc pins s σ H _ us Q I r ⟨p, _, rfl, h, k⟩
def cDivmod : List V → Hp → VK → Prop := fun xs H Q => match xs with
  | [.int i, .int j] => CDiv i j ∧ ∀ p, H p = none → Q (.ref p) (upd H p (.tup [.int (i / j), .int (i % j)]))
  | _ => False
theorem call_cDivmod : CallR X (.builtin "divmod") cDivmod := by
  intro pins s σ H xs us Q I r h
  match xs, r, h with
  | [.int i, .int j], r, h => exact call_divmod pins s σ H _ us Q I r ⟨_, _, rfl, h.1, h.2⟩
/-- isinstance: scalars by their types, objects as told -/
def scTy : V → Option String
  | .int _ => some "int"
  | .bl _ => some "bool"
  | .str _ => some "str"
  | .non => some "NoneType"
  | _ => none
theorem scTy_of {K : PySem.W.Frag} {H : Hp} {x : V} {n : String} (h : scTy x = some n) : TyOf K H x (.type n) := by
  cases x <;> first
    | (cases h; first | exact .int _ | exact .bl _ | exact .str _ | exact .non)
    | cases h
inductive IsiP (K : PySem.W.Frag) (x c : V) (H : Hp) (Q : VK) : Prop where
  | sc {n m : String} {b : Bool} (hx : scTy x = some n) (hc : c = .ty m) (hb : kitB n m = some b) (k : Q (.bl b) H)
  | own {C D : Addr} {b : Bool} (ty : TyX K H x (.ref D)) (hc : c = .ref C) (hb : PySem.W.kitOne K (.ref D) (.ref C) = some b) (k : Q (.bl b) H)
  | scOwn {n : String} {C : Addr} {b : Bool} (hx : scTy x = some n) (hc : c = .ref C) (hb : PySem.W.kitOne K (.type n) (.ref C) = some b) (k : Q (.bl b) H)
def cIsi (K : PySem.W.Frag) : List V → Hp → VK → Prop := fun xs H Q => match xs with
  | [x, c] => IsiP K x c H Q
  | _ => False
theorem call_cIsi : CallR X (.builtin "isinstance") (cIsi X.K) := by
  intro pins s σ H xs us Q I r h
  match xs, r, h with
  | [x, c], r, h =>
    have h : IsiP X.K x c H Q := h
    cases h with
    | sc hx hc hb k =>
      subst hc
      exact call_isi pins s σ H _ us Q I r ⟨_, _, _, _, _, rfl, .ty _, .base (scTy_of hx), kit_ty hb, k⟩
    | own ty hc hb k =>
      subst hc
      exact call_isi pins s σ H _ us Q I r ⟨_, _, _, _, _, rfl, .own _, ty, hb, k⟩
    | scOwn hx hc hb k =>
      subst hc
      exact call_isi pins s σ H _ us Q I r ⟨_, _, _, _, _, rfl, .own _, .base (scTy_of hx), hb, k⟩
end
end Cy
namespace Cy
open PySem PySem.Spec PyProof.Rows L2
section
variable {X : Cx} {o e : Expr} {es : List Expr} {to : TE} {t : TA} {name : Str} {apos cpos : Pos} {id : String} {r : Str → List V → Hp → VK → Prop}
def cStrM0 (r : Str → List V → Hp → VK → Prop) (to : TE) : TE := fun σ H Q => to σ H fun x H1 => match x with
  | .str a => r a [] H1 Q
  | _ => False
def cStrM (r : Str → List V → Hp → VK → Prop) (to : TE) (t : TA) : TE := fun σ H Q => to σ H fun x H1 => match x with
  | .str a => t σ H1 fun xs H2 => r a xs H2 Q
  | _ => False
/-- a method of texts by values -/
def MtS' (X : Cx) (id : String) (r : Str → List V → Hp → VK → Prop) : Prop :=
  ∀ (pins : List (Addr × Obj)) (s : Shared) (σ : St) (H : Hp) (a : Str) (xs : List V) (tk : Tok) (us : List Value) (Q : VK), Inv X pins σ H s → Vals xs us → r a xs H Q →
    wpAny (model X.prog X.w) X.A (call (.builtin id) (.str a tk :: us)) (EP X pins σ Q) X.xe s
theorem MtS'.of {r' : V → List V → Hp → VK → Prop} (h : MtR X id r') (hh : ∀ a xs H Q, r a xs H Q → r' (.str a) xs H Q) : MtS' X id r := fun pins s σ H a xs tk us Q I rx q => h pins s σ H (.str a) xs (.str a tk) us Q I (show RelV (.str a) (.str a tk) from ⟨tk, rfl⟩) rx (hh _ _ _ _ q)
theorem pe_sm0 (slot : Slot "str" name id) (hty : typeOf (.builtin id) = pure (.type "method_descriptor")) (hm : MtS' X id r) (ho : PE X o to)
    (hbase : attributeBase o name X.env (eval o X.env) = eval o X.env := by rfl) (hline : (apos.endLine == cpos.line) = true := by rfl) : PE X (.Call (.Attribute o name apos) [] [] cpos) (cStrM0 r to) := by
  refine ⟨fun pins s σ H Q I h => ?_⟩
  refine wpAny_Call_method0_late hbase hline (thn (ho.run pins s σ H _ I h) fun v s1 ⟨x, H1, I1, r1, q1⟩ => ?_)
  cases x <;> first
    | exact (show False from q1).elim
    | skip
  rename_i a
  obtain ⟨h1, h2⟩ := tyV_is (T := "str") I1 r1 rfl
  obtain ⟨tk, rfl⟩ := r1
  exact ⟨"str", id, PySem.F.plainAttrs_str, slot, hty, h1, h2, Calls.callWith_builtin rfl (PySem.evalArgs_none (hm pins s1 σ H1 a [] tk [] Q I1 .nil q1))⟩
theorem pe_sm (slot : Slot "str" name id) (hty : typeOf (.builtin id) = pure (.type "method_descriptor")) (hm : MtS' X id r) (ho : PE X o to) (ha : PA X (e :: es) t)
    (hbase : attributeBase o name X.env (eval o X.env) = eval o X.env := by rfl)
    (hfew : ((backTo cpos (starEach (e :: es) X.env)).all (fun x => !x.1) && (backToKw cpos (keywordEach [] X.env)).all (fun x => x.1.isSome)
      && decide ((e :: es).length + ([] : List Keyword).length + (if ([] : List Keyword).isEmpty then 0 else 1) < 30)) = true := by rfl)
    (hline : (apos.endLine == cpos.line) = true := by rfl) (hs : starEach (e :: es) X.env = (false, eval e X.env) :: starEach es X.env := by rfl) (hplain : (backTo cpos (starEach es X.env)).any (·.1) = false := by rfl) :
    PE X (.Call (.Attribute o name apos) (e :: es) [] cpos) (cStrM r to t) := by
  refine ⟨fun pins s σ H Q I h => ?_⟩
  refine wpAny_Call_method_late hbase hfew hline rfl (thn (ho.run pins s σ H _ I h) fun v s1 ⟨x, H1, I1, r1, q1⟩ => ?_)
  cases x <;> first
    | exact (show False from q1).elim
    | skip
  rename_i a
  obtain ⟨h1, h2⟩ := tyV_is (T := "str") I1 r1 rfl
  obtain ⟨tk, rfl⟩ := r1
  refine ⟨"str", id, PySem.F.plainAttrs_str, slot, hty, h1, h2, ?_⟩
  have hA := ha.run cpos pins s1 σ H1 _ I1 q1
  rw [hs] at hA ⊢
  refine Calls.callWith_builtin (by show (false || (backTo cpos (starEach es X.env)).any (·.1)) = false; rw [hplain] <;> rfl) (Calls.evalArgs_plain ?_)
  exact thn hA fun us s2 ⟨vs, H2, I2, r2, q2⟩ => hm pins s2 σ H2 a vs tk us Q I2 r2 q2
/-- the shapes -/
def sS (C : Str → Str → Prop) (g : Str → Str → V) : Str → List V → Hp → VK → Prop := fun a xs H Q => match xs with
  | [.str b] => C a b ∧ Q (g a b) H
  | _ => False
def sS0 (g : Str → Str → V) : Str → List V → Hp → VK → Prop := fun a xs H Q => match xs with
  | [.str b] => Q (g a b) H
  | _ => False
def sN (C : Str → Prop) (g : Str → V) : Str → List V → Hp → VK → Prop := fun a xs H Q => match xs with
  | [] => C a ∧ Q (g a) H
  | _ => False
abbrev mStartswith := sS0 fun a b => .bl (Txt.startswith a b)
abbrev mCount := sS0 fun a b => .int (Txt.count a b)
abbrev mStrip := sS (fun a _ => a.length ≤ sizeLine) fun a b => .str (Txt.stripChars a b)
abbrev mLstrip := sS (fun a _ => a.length ≤ sizeLine) fun a b => .str (Txt.lstripChars a b)
theorem m_startswith : MtS' X "str.startswith" mStartswith := .of mt_startswith fun a xs H Q h => by
  match xs, h with
  | [.str b], h => exact ⟨a, b, rfl, rfl, h⟩
theorem m_count : MtS' X "str.count" mCount := .of mt_count fun a xs H Q h => by
  match xs, h with
  | [.str b], h => exact ⟨a, b, rfl, rfl, h⟩
theorem m_strip : MtS' X "str.strip" mStrip := .of mt_stripChars fun a xs H Q h => by
  match xs, h with
  | [.str b], h => exact ⟨a, b, rfl, rfl, h.1, h.2⟩
theorem m_lstrip : MtS' X "str.lstrip" mLstrip := .of mt_lstripChars fun a xs H Q h => by
  match xs, h with
  | [.str b], h => exact ⟨a, b, rfl, rfl, h.1, h.2⟩
def mSplit : Str → List V → Hp → VK → Prop := fun a xs H Q => match xs with
  | [.str b] => (b.length == 0) = false ∧ a.length + 2 ≤ sizeLine ∧ ∀ p, H p = none → Q (.ref p) (upd H p (.lst ((Txt.split a b).map V.str)))
  | _ => False
theorem m_split : MtS' X "str.split" mSplit := .of mt_split fun a xs H Q h => by
  match xs, h with
  | [.str b], h => exact ⟨a, b, rfl, rfl, h.1, h.2.1, h.2.2⟩
inductive JoinP (K : PySem.W.Frag) (a : Str) (p : Addr) (H : Hp) (Q : VK) : Prop where
  | l {ys : List Str} (h : SqL K H p (ys.map V.str)) (hl : (Txt.join a ys).length ≤ 16777216) (k : Q (.str (Txt.join a ys)) H)
def mZfill : Str → List V → Hp → VK → Prop := fun a xs H Q => match xs with
  | [.int i] => PadOk i = true ∧ Q (.str (Txt.zfill a i)) H
  | _ => False
theorem m_zfill : MtS' X "str.zfill" mZfill := .of mt_zfill fun a xs H Q h => by
  match xs, h with
  | [.int i], h => exact ⟨a, i, rfl, rfl, h.1, h.2⟩
def mUpper : Str → List V → Hp → VK → Prop := sN (fun a => a.length ≤ 5592405) fun a => .str (Txt.upper a)
theorem m_upper : MtS' X "str.upper" mUpper := .of mt_upper fun a xs H Q h => by
  match xs, h with
  | [], h => exact ⟨a, rfl, rfl, h.1, h.2⟩
end
section
variable {X : Cx} {o e : Expr} {es : List Expr} {to : TE} {t : TA}
inductive AppP (p : Addr) (y : V) (H : Hp) (Q : VK) : Prop where
  | by {xs : List V} (h : H p = some (.lst xs)) (hl : xs.length < sizeLine) (k : Q .non (upd H p (.lst (xs ++ [y]))))
inductive IsLst (K : PySem.W.Frag) (x : V) (H : Hp) (R : Addr → Prop) : Prop where
  | by {p : Addr} {xs : List V} (e : x = .ref p) (h : SqL K H p xs) (k : R p)
def cApp (K : PySem.W.Frag) (to : TE) (t : TA) : TE := fun σ H Q => to σ H fun x H1 => IsLst K x H1 fun p => t σ H1 fun ys H2 => match ys with
  | [y] => AppP p y H2 Q
  | _ => False
theorem pe_cApp {apos cpos : Pos} (ho : PE X o to) (ha : PA X [e] t)
    (hbase : attributeBase o "append" X.env (eval o X.env) = eval o X.env := by rfl)
    (hfew : ((backTo cpos (starEach [e] X.env)).all (fun x => !x.1) && (backToKw cpos (keywordEach [] X.env)).all (fun x => x.1.isSome)
      && decide ([e].length + ([] : List Keyword).length + (if ([] : List Keyword).isEmpty then 0 else 1) < 30)) = true := by rfl)
    (hline : (apos.endLine == cpos.line) = true := by rfl) (hs : starEach [e] X.env = (false, eval e X.env) :: starEach [] X.env := by rfl) (hplain : (backTo cpos (starEach [] X.env)).any (·.1) = false := by rfl) :
    PE X (.Call (.Attribute o "append" apos) [e] [] cpos) (cApp X.K to t) := by
  refine ⟨fun pins s σ H Q I h => ?_⟩
  refine wpAny_Call_method_late hbase hfew hline rfl (thn (ho.run pins s σ H _ I h) fun v s1 ⟨x, H1, I1, r1, q1⟩ => ?_)
  obtain ⟨ex, hx, q1⟩ := q1
  rename_i p xs
  subst ex
  obtain ⟨h1, h2⟩ := tyV_is (T := "list") I1 r1 (.inl ⟨rfl, _, hx⟩)
  refine ⟨"list", "list.append", PySem.F.plainAttrs_list, PySem.F.slot_list_append, PySem.F.type_list_append, h1, h2, ?_⟩
  have hA := ha.run cpos pins s1 σ H1 _ I1 q1
  rw [hs] at hA ⊢
  refine Calls.callWith_builtin (by show (false || (backTo cpos (starEach [] X.env)).any (·.1)) = false; rw [hplain] <;> rfl) (Calls.evalArgs_plain ?_)
  refine thn hA fun us s2 ⟨vs, H2, I2, r2, q2⟩ => ?_
  match vs, r2, q2 with
  | [y], r2, q2 =>
    obtain ⟨h, hl, k⟩ : AppP p y H2 Q := q2
    exact mt_append pins s2 σ H2 _ _ v us Q I2 r1 r2 ⟨p, _, y, rfl, rfl, h, hl, k⟩
end
section
inductive StIx (p : Addr) (k : Int) (v : V) (H : Hp) (Q : Hp → Prop) : Prop where
  | by {xs : List V} {j : Nat} (h : H p = some (.lst xs)) (hj : ixN xs.length k = some j) (q : Q (upd H p (.lst (xs.set j v))))
def cSetIx : V → V → V → Hp → (Hp → Prop) → Prop := fun o i v H Q => match o with
  | .ref p => (match i with
    | .int k => StIx p k v H Q
    | _ => False)
  | _ => False
variable {X : Cx}
theorem set_c : PSet X cSetIx := by
  intro pins s σ H x y v ov iv u Q I rx ry rv h
  cases x <;> first
    | exact (show False from h).elim
    | skip
  cases y <;> first
    | exact (show False from h).elim
    | skip
  obtain ⟨h, hj, q⟩ : StIx _ _ v H Q := h
  exact set_list pins s σ H _ _ v ov iv u Q I rx ry rv ⟨_, _, _, _, rfl, rfl, h, hj, q⟩
end
section
variable {X : Cx} {j : Nat}
/-- p + q by the class's own __add__ -/
inductive OwAdd (g : Wd) (j : Nat) (p q : Addr) (H : Hp) (Q : VK) : Prop where
  | by {C dx dx' f : Addr} {fs fs' : List (Str × V)} {k : Nat} {sp : Sp} (h : H p = some (.ins C dx fs)) (h' : H q = some (.ins C dx' fs')) (hc : PySem.W.selfFirst g.K C = true)
      (hs : PySem.W.findIn g.K (.ref C) (PySem.dunder Operator.Add.info.2) = some (some (.ref f))) (hf : PySem.W.isFn g.K (.ref f) = true) (F : FnG g k f sp) (hk : k ≤ j) (q : sp [.ref p, .ref q] H Q E0)
theorem owAdd_ok (hr : Room j X.A) : OwOk X (OwAdd (.of X) j) := by
  intro pins s σ H x y v u Q I rx ry h
  obtain ⟨p, q, rfl, rfl, h⟩ := h
  obtain ⟨h, h', hc, hs, hf, F, hk, q⟩ := h
  rename_i C dx dx' f fs fs' k sp
  cases rx
  cases ry
  obtain ⟨mA, O, _, _, _, _⟩ := ins_get I.hok h
  obtain ⟨od, J, _⟩ := O.look
  obtain ⟨mA', O', _, _, _, _⟩ := ins_get I.hok h'
  obtain ⟨od', J', _⟩ := O'.look
  obtain ⟨m, Fm⟩ := I.fr
  refine PySem.W.binop_K Fm I.ok.mod.kin J J'.type hc hs hf (wpAny_call (codeAny_mono (F X.A X.stack s H [.ref p, .ref _] [.ref p, .ref _] _ E0 (hr.mono hk) I.env0 (.cons rfl (.cons rfl .nil)) q) fun r s' hq => ?_))
  cases r with
  | error er =>
    obtain ⟨_, _, _, _, _, _, _, _, _, _, _, _, z⟩ := hq
    exact z.elim
  | ok fl =>
    cases fl with
    | ret u =>
      obtain ⟨v, H', I3, rv, q3⟩ := I.after hq
      have z : EP X pins σ Q u s' := ⟨v, H', I3, rv, q3⟩
      cases v with
      | non => cases rv; exact z
      | bl _ => cases rv; exact z
      | int _ => obtain ⟨t, rfl⟩ := rv; exact z
      | str _ => obtain ⟨t, rfl⟩ := rv; exact z
      | byt _ => obtain ⟨t, rfl⟩ := rv; exact z
      | flt _ => obtain ⟨t, rfl⟩ := rv; exact z
      | ref _ => cases rv; exact z
      | ty _ => cases rv; exact z
    | next => exact False.elim hq
    | brk => exact False.elim hq
    | cont => exact False.elim hq
end
section
variable {X : Cx} {W : WX} {j : Nat} {x : Str} {p pos : Pos} {e : Expr} {es : List Expr} {t : TA}
/-- C(..): __init__'s promise at the new instance -/
inductive MakeP (g : Wd) (j : Nat) (C : Addr) (vs : List V) (H : Hp) (Q : VK) (E : XK) : Prop where
  | by {f : Addr} {k : Nat} {sp : Sp} (M : Mk g.K C f) (F : FnG g k f sp) (hk : k + 1 ≤ j) (h : ∀ x dx, H x = none → H dx = none → dx ≠ x → sp (.ref x :: vs) (upd (upd H dx (.own x)) x (.ins C dx [])) (fun v H2 => v = .non ∧ Q (.ref x) H2) E)
def cMake (g : Wd) (j : Nat) (W : WX) (C : Addr) (t : TA) : TE := fun σ H Q => t σ H fun vs H1 => MakeP g j C vs H1 Q (fun cls d H' => W cls d σ H')
theorem run_makeP {C : Addr} {E : XK} {pins : List (Addr × Obj)} {σ : St} {H : Hp} {s : Shared} {Q : VK} {us : List Value} {vs : List V} (hr : Room j X.A) (hx : PassesAt (L2.CX X.prog X.w) X σ E) (I : Inv X pins σ H s) (r : Vals vs us) (h : MakeP (.of X) j C vs H Q E) :
    wpAny (model X.prog X.w) X.A (call (.ref C) us) (EP X pins σ Q) X.xe s := by
  obtain ⟨M, F, hk, h⟩ := h
  have hq := h (s.heap.objs.size + 1) s.heap.objs.size (I.hok.fresh (Nat.le_succ _)) (I.hok.fresh (Nat.le_refl _)) (Nat.ne_of_lt (Nat.lt_succ_self _))
  have I2 := Inv.made (C := C) I
  refine wpAny_call (make_map I.kIn M.makes M.init (beq_iff_eq.mp M.fn) (codeAny_mono (F _ X.stack _ _ (Value.ref (s.heap.objs.size + 1) :: us) (V.ref (s.heap.objs.size + 1) :: vs) _ E ((hr.mono hk).make C us [])
    (I2.env0.make C us []) (.cons rfl r) hq) fun r s' hq' => ?_))
  cases r with
  | error e => exact hx pins _ _ e s' I2 hq'
  | ok fl =>
    cases fl with
    | ret u =>
      obtain ⟨v, H', I3, rv, ev, q3⟩ := I2.after hq'
      subst ev
      exact ⟨rv, ⟨V.ref (s.heap.objs.size + 1), H', I3, rfl, q3⟩⟩
    | next => exact False.elim hq'
    | brk => exact False.elim hq'
    | cont => exact False.elim hq'
theorem pe_cMake (tk : Takes X W) (hr : Room j X.A) (hf : Gf (.of X) x) (hg : Gl X x) (ha : PA X (e :: es) t) (hdb : (x == ("__debug__" : Str)) = false := by decide) (he : starEach (e :: es) X.env = (false, eval e X.env) :: starEach es X.env := by rfl)
    (hpl : (backTo pos (starEach es X.env)).any (·.1) = false := by rfl) : PE X (.Call (.Name x p) (e :: es) [] pos) (cMake (.of X) j W (gad X.K x) t) := by
  refine ⟨fun pins s σ H Q I h => ?_⟩
  refine wpAny_Call_Name_kw (ld_glob I hg hf.mg ?_ hdb)
  refine PySem.W.callWith_K (h₀ := X.base) I.ok.mod.kin hf.kp (thn (ha.run pos pins s σ H _ I h) fun us s1 ⟨vs, H1, I1, r, q⟩ => ⟨I1.kIn, ?_⟩) he hpl
  exact run_makeP hr (passAt tk σ) I1 r q
theorem pe_cMake0 (tk : Takes X W) (hr : Room j X.A) (hf : Gf (.of X) x) (hg : Gl X x) (hdb : (x == ("__debug__" : Str)) = false := by decide) : PE X (.Call (.Name x p) [] [] pos) (cMake (.of X) j W (gad X.K x) tNil) := by
  refine ⟨fun pins s σ H Q I h => ?_⟩
  refine wpAny_Call_Name_kw (ld_glob I hg hf.mg ?_ hdb)
  exact PySem.W.callWith_K0 I.kIn hf.kp (run_makeP (us := []) hr (passAt tk σ) I .nil h)
/-- C(*e): what is spread -/
inductive StarP (g : Wd) (y : V) (H : Hp) (R : List V → Prop) : Prop where
  | t {a : Addr} {xs : List V} (e : y = .ref a) (h : SqT g.K H a xs) (k : R xs)
  | l {a : Addr} {xs : List V} (e : y = .ref a) (h : SqL g.K H a xs) (k : R xs)
def cMakeS (g : Wd) (j : Nat) (W : WX) (C : Addr) (te : TE) : TE := fun σ H Q => te σ H fun y H1 => StarP g y H1 fun xs => MakeP g j C xs H1 Q (fun cls d H' => W cls d σ H')
theorem pe_cMakeS {te : TE} {sp_ : Pos} (tk : Takes X W) (hr : Room j X.A) (hf : Gf (.of X) x) (hg : Gl X x) (he : PE X e te) (hdb : (x == ("__debug__" : Str)) = false := by decide)
    (hst : starEach [.Starred e sp_] X.env = [(true, eval e X.env)] := by rfl) : PE X (.Call (.Name x p) [.Starred e sp_] [] pos) (cMakeS (.of X) j W (gad X.K x) te) := by
  refine ⟨fun pins s σ H Q I h => ?_⟩
  refine wpAny_Call_Name_kw (ld_glob I hg hf.mg ?_ hdb)
  refine PySem.W.callWith_S (h₀ := X.base) I.ok.mod.kin hf.kp (thn (he.run pins s σ H _ I h) fun v s1 ⟨y, H1, I1, ry, q⟩ => ?_) hst
  cases q with
  | t ey hxs q =>
    subst ey
    obtain rfl : v = Value.ref _ := ry
    exact StX.star_any I1 (.inl hxs) fun us s2 I2 rv => ⟨I2.kIn, run_makeP hr (passAt tk σ) I2 rv q⟩
  | l ey hxs q =>
    subst ey
    obtain rfl : v = Value.ref _ := ry
    exact StX.star_any I1 (.inr hxs) fun us s2 I2 rv => ⟨I2.kIn, run_makeP hr (passAt tk σ) I2 rv q⟩
end
end Cy
namespace Cy
open PySem PySem.Spec PyProof.Rows L2
open PySem.W (fnX envX ksFn ksEnv ks_superObj kxs_mw KxsAt)
section
variable {prog : Program} {w : World} {A : Around} {E : Value → Shared → Prop} {h : Heap} {g : Array GenState} {d : Drawn} {t : Nat} {os : OsState}
variable {nm q : Str} {C N : Addr} {bs bm : List Value} {hdct : Bool} {sn : List Str} {sub : List Value} {ab : Bool} {col : Option Bool} {dd : Option Addr} {k0 k1 k2 k3 k5 : Option Value}
theorem call_bwV {u e t0 : Addr} {rest : List Value} {Q : Value → Shared → Prop} (hbm : HandSPX.refsVE bm = true)
    (hC : h.get? C = some (excClassObj nm q C N bs bm hdct sn sub ab col dd k0 k1 k2 k3 k5 "ValueError.__new__")) (he : h.get? e = some (HandSPX.excO C t0)) (hu : h.get? u = some (kxs_mw "ValueError.__init__" e)) (hrest : rest.length ≤ sizeLine)
    (hq : ∀ h' t1, (∀ b o, b ≠ e → h.get? b = some o → h'.get? b = some o) → h'.get? e = some (HandSPX.excO C t1) → Q .none ⟨h', g, d, t, os⟩) :
    wpAny (model prog w) A (call (.ref u) rest) Q E ⟨h, g, d, t, os⟩ := by
  refine wpAny_call (codeAny_of_tree ?_)
  show wpAny _ A.in1 (callAny (.ref u) ⟨rest, []⟩) _ _ _
  simp only [callAny]
  refine wpAny_bind (wpAny_load hu ?_)
  simp only [kxs_mw, show (Value.type "method-wrapper" == Value.type "method" || Value.type "method-wrapper" == Value.type "builtin_function_or_method" || Value.type "method-wrapper" == Value.type "method-wrapper") = true by decide, if_true]
  refine W.KFB.if_so (by decide) ?_
  refine wpAny_bind (PySem.W.check_bound_init F.excBase_ValueError.toExcCallFacts hC he rfl ?_)
  refine wpAny_bind (wpAny_pure (wpAny_pure ?_))
  refine ⟨Code.quiet_builtin _ (by decide +kernel), codeAny_builtin F.excBase_ValueError.initEntry ?_⟩
  rw [Around.under_plainId F.excBase_ValueError.init.plain _]
  wp_walk
  refine hq _ h.objs.size (fun b o hb ho => ?_) ?_
  · rw [Heap.get?_update_other _ _ (Ne.symm hb)]
    exact Heap.get?_push_of_some _ ho
  · rw [Heap.get?_update_self _ (Heap.get?_push_of_some _ he) rfl]
    rfl
end
/-- the context of such an __init__ -/
def cxS (CX : CXT) (P : Program) (w : World) (K : PySem.W.Frag) (mg : Str → Option Value) (base : Heap) (N : List Str) (qual : Str) (scope : Scope) (f : Addr) (cd : Value) (cc : Addr) (A : Around) (outer : List Env) (s : Shared) (H : Hp) (E : XK) : Cx :=
  { cxOf CX P w K mg base N qual scope f cd A outer s H E with
    A := A.deeper (ksEnv qual scope s.heap.objs.size f cd cc)
    env := ksEnv qual scope s.heap.objs.size f cd cc
    stack := ksEnv qual scope s.heap.objs.size f cd cc :: outer
    fn := fun _ => false
    xe := fun e s' => wpAny (model P w) (A.deeper (ksEnv qual scope s.heap.objs.size f cd cc)) (leaving (ksEnv qual scope s.heap.objs.size f cd cc) e) (fun _ s'' => CX outer H s E e s'') (fun e' s'' => CX outer H s E e' s'') s' }
/-- its scope -/
def supScope (fld : Str) : Scope := { kind := .function, names := [(PySem.Str.ofString "self", .local), (fld, .local), (PySem.Str.ofString "__class__", .free), (PySem.Str.ofString "super", .globalImplicit)], isGenerator := false, isCoroutine := false, more := [] }
def supParams (fld : Str) (q1 q2 : Pos) : Arguments := { posonlyargs := [], args := [{ arg := "self", annotation := none, pos := q1 }, { arg := fld, annotation := none, pos := q2 }], vararg := none, kwonlyargs := [], kw_defaults := [], kwarg := none, defaults := [] }
/-- what the written part says of such an __init__ (at f, of the class at C) -/
structure SupD (P : Program) (K : PySem.W.Frag) (C f : Addr) (name qual : Str) (params : Arguments) (body : List Stmt) (scope : Scope) (cc : Addr) (cdv : Value) : Prop where
  fn : ∃ oc od kV doc pm an ct osl, K.lookup f = some ⟨oc, od, .func (ksFn name qual params body scope .none kV doc pm an cdv ct cc), osl⟩
  code : PySem.W.codeIn K cdv qual = true
  rec_ : ∃ cda ccl cdd vs ccs file tf, cdv = .ref cda ∧ K.lookup cda = some ⟨ccl, cdd, .fields vs, ccs⟩ ∧ vs[2]? = some (.str file tf) ∧ ((P.main.file : Str) == file) = true
  cell : ∃ cl cld csl, K.lookup cc = some ⟨cl, cld, .cell (some (.ref C)), csl⟩
  sup : PySem.W.nsIn K mainGlobals "super" = some none
  opq : PySem.W.nsIn K cStatics "thirdparty.any" = some none
  mro : PySem.W.mroIn K C (.ref C) = some true
  along : PySem.W.ks_superIn K C C "__init__" = some (some (.builtin "ValueError.__init__"))
  subV : PySem.W.subIn K (.ref C) (.type "ValueError") = some true
  top : (P.main.scope.names.lookup ("super" : Str)).isSome = false
structure FldN (fld : Str) : Prop where
  n1 : fld ≠ "self"
  n2 : fld ≠ "__class__"
  n3 : fld ≠ "super"
/-- the exception's promise: self a new exception, v its field; its dict is new -/
def spSup (C : Addr) (fld : Str) (ok : V → Prop) : Sp := fun vs H Q _ => ∃ (a : Addr) (v : V), vs = [.ref a, v] ∧ H a = some (exo a C none) ∧ ok v ∧ ∀ dx, H dx = none → dx ≠ a → Q .non (upd (upd H dx (exd dx [(fld, v)])) a (exo a C (some dx)))
theorem lk_one {β : Type} {y k : Str} {c c0 : β} (h : List.lookup y [(k, c0)] = some c) : y = k ∧ c0 = c := by
  by_cases e : y = k
  · subst e
    simp [List.lookup] at h
    exact ⟨rfl, h⟩
  · have b : (y == k) = false := by simpa using e
    simp [List.lookup, b] at h
theorem sup_fn {P : Program} {w : World} {K : PySem.W.Frag} {mg : Str → Option Value} {base : Heap} {C f cc : Addr} {name qual fld : Str} {cdv : Value} {je : Expr} {tj : TE} {q1 q2 p0 p1 p2 p3 p4 p5 p6 p7 p8 : Pos} {k : Nat} {ok : V → Prop}
    (S : SupD P K C f name qual (supParams fld q1 q2) [.Expr (.Call (.Attribute (.Call (.Name "super" p0) [] [] p1) "__init__" p2) [je] [] p3) p4, .Assign [.Attribute (.Name "self" p5) fld p6] (.Name fld p7) p8] (supScope fld) cc cdv) (T : OexC K C) (hno : PySem.W.findIn K (.ref C) fld = some none) (hf : FldN fld)
    (hb0 : ∀ (body : List Stmt) (kV doc pm : Value) (an : Option Addr) (cdv ct : Value) (cc : Addr) (x y : Value), bindArgs (ksFn name qual (supParams fld q1 q2) body (supScope fld) .none kV doc pm an cdv ct cc) ⟨[x, y], []⟩ = pure [(("self" : Str), x), (fld, y)])
    (hse : ∀ env : Env, starEach [je] env = (false, eval je env) :: starEach [] env)
    (hev : ∀ (L : Addr), ∃ pl : Sem Bool, eval (.Call (.Attribute (.Call (.Name "super" p0) [] [] p1) "__init__" p2) [je] [] p3) (ksEnv qual (supScope fld) L f cdv cc) = (do
        let ov ← attributeBase (.Call (.Name "super" p0) [] [] p1) "__init__" (ksEnv qual (supScope fld) L f cdv cc) (eval (.Call (.Name "super" p0) [] [] p1) (ksEnv qual (supScope fld) L f cdv cc))
        standAt p2.atName
        let (f', first) ← holding [ov] (getMethod ov "__init__" pl)
        callWith p3 f' first (backTo p3 (starEach [je] (ksEnv qual (supScope fld) L f cdv cc))) []))
    (hsw : ∀ L : Addr, swapsWith (.Call (.Attribute (.Call (.Name "super" p0) [] [] p1) "__init__" p2) [je] [] p3) none p4.line (ksEnv qual (supScope fld) L f cdv cc) = pure false)
    (hsw2 : ∀ L : Addr, swapsWith (.Name fld p7) (some (.Attribute (.Name "self" p5) fld p6)) p8.line (ksEnv qual (supScope fld) L f cdv cc) = pure false)
    (hd : (fld == ("__debug__" : Str)) = false) (hcd : (fld == ("__classdict__" : Str)) = false)
    (hj : ∀ (A : Around) (outer : List Env) (s : Shared) (H : Hp) (E : XK), PE (cxS (L2.CX P w) P w K mg base ["self", fld] qual (supScope fld) f cdv cc A outer s H E) je tj)
    (htj : ∀ (a v : V) (H : Hp) (Q : VK), ok v → (∀ z : Str, Q (.str z) H) → tj [some a, some v] H Q) :
    FnG ⟨P, w, K, mg, base⟩ (k + 1) f (spSup C fld ok) := by
  intro A outer s H us vs Q E hr e0 r hsp
  obtain ⟨a, v, rfl, ha, okv, kq⟩ := hsp
  obtain ⟨u1, u, rfl, ru1, ru⟩ := vals2 r
  obtain rfl : u1 = Value.ref a := ru1
  obtain ⟨oc, od, kV, doc, pm, an, ct, osl, lk⟩ := S.fn
  have KX : K.In s.heap := e0.mod.kin.keeps fun b o e => (e0.bs b o e).1
  have lim : s.heap.NoLimit := e0.mod.nolimit.keeps fun b o e => (e0.bs b o e).1
  have n1 : (fld == ("self" : Str)) = false := by simpa using hf.n1
  have n2 : (fld == ("__class__" : Str)) = false := by simpa using hf.n2
  have n3 : (fld == ("super" : Str)) = false := by simpa using hf.n3
  have ls : (supScope fld).names.lookup ("self" : Str) = some .local := rfl
  have lf : (supScope fld).names.lookup fld = some .local := by
    show List.lookup fld [(PySem.Str.ofString "self", NameKind.local), (fld, .local), (PySem.Str.ofString "__class__", .free), (PySem.Str.ofString "super", .globalImplicit)] = _
    simp [List.lookup, n1]
  have m2 : (("__class__" : Str) == fld) = false := by simpa using fun z => hf.n2 z.symm
  have m3 : (("super" : Str) == fld) = false := by simpa using fun z => hf.n3 z.symm
  have lc : (supScope fld).names.lookup ("__class__" : Str) = some .free := by
    show List.lookup ("__class__" : Str) [(PySem.Str.ofString "self", NameKind.local), (fld, .local), (PySem.Str.ofString "__class__", .free), (PySem.Str.ofString "super", .globalImplicit)] = _
    have e : (("__class__" : Str) == PySem.Str.ofString "self") = false := by decide +kernel
    simp only [List.lookup, e, m2]
    rfl
  have lp : (supScope fld).names.lookup ("super" : Str) = some .globalImplicit := by
    show List.lookup ("super" : Str) [(PySem.Str.ofString "self", NameKind.local), (fld, .local), (PySem.Str.ofString "__class__", .free), (PySem.Str.ofString "super", .globalImplicit)] = _
    have e : (("super" : Str) == PySem.Str.ofString "self") = false := by decide +kernel
    have e2 : (("super" : Str) == PySem.Str.ofString "__class__") = false := by decide +kernel
    simp only [List.lookup, e, m3, e2]
    rfl
  have free1 : ∀ x k, (supScope fld).names.lookup x = some k → (k = .cell ∨ k = .free) → x = ("__class__" : Str) := by
    intro x k hx hk
    by_cases e1 : x = PySem.Str.ofString "self"
    · subst e1; rw [show (supScope fld).names.lookup (PySem.Str.ofString "self") = some .local from ls] at hx; cases hx; rcases hk with h | h <;> cases h
    by_cases e2 : x = fld
    · subst e2; rw [lf] at hx; cases hx; rcases hk with h | h <;> cases h
    by_cases e3 : x = PySem.Str.ofString "__class__"
    · exact e3
    by_cases e4 : x = PySem.Str.ofString "super"
    · subst e4; rw [show (supScope fld).names.lookup (PySem.Str.ofString "super") = some .globalImplicit from lp] at hx; cases hx; rcases hk with h | h <;> cases h
    · have z : (supScope fld).names.lookup x = none := by
        show List.lookup x [(PySem.Str.ofString "self", NameKind.local), (fld, .local), (PySem.Str.ofString "__class__", .free), (PySem.Str.ofString "super", .globalImplicit)] = none
        have b1 : (x == PySem.Str.ofString "self") = false := by simpa using e1
        have b2 : (x == fld) = false := by simpa using e2
        have b3 : (x == PySem.Str.ofString "__class__") = false := by simpa using e3
        have b4 : (x == PySem.Str.ofString "super") = false := by simpa using e4
        simp [List.lookup, b1, b2, b3, b4]
      rw [z] at hx; cases hx
  have bnd : ∀ z : Str, (([(("self" : Str), Value.ref a), (fld, u)] : List (Str × Value)).reverse.lookup z) = if z = fld then some u else if z = "self" then some (.ref a) else none := by
    intro z
    show (([(fld, u), (("self" : Str), Value.ref a)] : List (Str × Value)).lookup z) = _
    by_cases h1 : z = fld
    · subst h1; simp [List.lookup]
    · have e1 : (z == fld) = false := by simpa using h1
      by_cases h2 : z = ("self" : Str)
      · subst h2; simp [List.lookup, e1, h1]
      · have e2 : (z == ("self" : Str)) = false := by simpa using h2
        simp [List.lookup, e1, e2, h1, h2]
  refine ks_codeAny_call_defAt (fd := ksFn name qual (supParams fld q1 q2) _ (supScope fld) .none kV doc pm an cdv ct cc) (binds := [("self", .ref a), (fld, u)]) hr.depth (KX _ _ lk) rfl lim (PySem.W.codeRec_of KX S.code) rfl ?hb ?hc ?hl ?h rfl rfl rfl
  case hb => exact BindsTo.of_eq (hb0 _ _ _ _ _ _ _ _ _ _)
  case hc =>
    intro x hx
    simp only [supScope, List.mem_cons, List.not_mem_nil, or_false] at hx
    rcases hx with rfl | rfl | rfl | rfl <;> exact fun z => nomatch z
  case hl =>
    intro x hx
    simp only [List.mem_cons, List.not_mem_nil, or_false] at hx
    rcases hx with rfl | rfl
    · exact ls
    · exact lf
  case h =>
    intro h0 hns hk
    let X : Cx := cxS (L2.CX P w) P w K mg base ["self", fld] qual (supScope fld) f cdv cc A outer s H E
    have hcc : ∃ o, K.lookup cc = some o ∧ o.data = .cell (some (.ref C)) := by
      obtain ⟨cl, cld, csl, e⟩ := S.cell
      exact ⟨_, e, rfl⟩
    obtain ⟨occ, ecc, dcc⟩ := hcc
    have bcc : base.get? cc = some occ := e0.mod.kin _ _ ecc
    have hL : s.heap.objs.size ≤ s.heap.objs.size := Nat.le_refl _
    have noA : ∀ b : Addr, b ∉ X.ex := fun b z => absurd (show b ∈ ([] : List Addr) from z) (by simp)
    have I : L2.Inv X [] [some (.ref a), some v] H { s with heap := h0, toks := s.toks + 2 } := by
      refine ⟨⟨e0.mod, rfl, rfl, rfl, Nat.le_refl _, fun y z c h1 h2 => ?_, fun y hy => ?_, fun y c q h => (nomatch q), fun _ => hr.hd, Around.frames_deeper e0.frames, .inr ⟨rfl, rfl⟩, fun b z => absurd z (noA b), e0.bs, e0.bsz, fun b _ _ => noA b, fun b z => absurd z (noA b), e0.funs, e0.frf⟩,
        rfl, e0.bare, Un.kept hk, ⟨_, hns, fun i y v' h1 h2 h3 => ?_⟩, fun y c h => ?_, e0.hok.fresh (Nat.le_refl _), fun y c h => ?_, fun p hp => absurd (show p ∈ ([] : List (Addr × Obj)) from hp) (by simp), e0.hok.kept hk, rfl⟩
      · exact (lk_one (show List.lookup y [(("__class__" : Str), cc)] = some c from h1)).1.trans (lk_one (show List.lookup z [(("__class__" : Str), cc)] = some c from h2)).1.symm
      · have hy : (supScope fld).names.lookup y = some .cell ∨ (supScope fld).names.lookup y = some .free := hy
        have e : y = ("__class__" : Str) := by
          rcases hy with hy | hy
          · exact free1 y _ hy (.inl rfl)
          · exact free1 y _ hy (.inr rfl)
        subst e
        exact ⟨cc, rfl⟩
      · have hv : (supScope fld).names.lookup y = some .local := by
          rcases h3 with q | q | q
          · exact q
          · have e := free1 y _ q (.inl rfl)
            subst e
            exact absurd (lc.symm.trans q) (by decide)
          · have e := free1 y _ q (.inr rfl)
            subst e
            match i, h1 with
            | 0, h1 => exact absurd (Option.some.inj h1) (by decide +kernel)
            | 1, h1 => exact absurd (Option.some.inj h1) hf.n2
        match i, h1, h2 with
        | 0, h1, h2 =>
          obtain rfl : (PySem.Str.ofString "self") = y := Option.some.inj h1
          obtain rfl : V.ref a = v' := Option.some.inj (Option.some.inj h2)
          refine ⟨.ref a, rfl, .inl ⟨hv, ?_⟩⟩
          exact (bnd "self").trans ((if_neg (fun z => hf.n1 z.symm)).trans (if_pos rfl))
        | 1, h1, h2 =>
          obtain rfl : fld = y := Option.some.inj h1
          obtain rfl : v = v' := Option.some.inj (Option.some.inj h2)
          refine ⟨u, ru, .inl ⟨hv, ?_⟩⟩
          exact (bnd fld).trans (if_pos rfl)
      · obtain ⟨_, rfl⟩ := lk_one (show List.lookup y [(("__class__" : Str), cc)] = some c from h)
        exact ⟨_, occ, hk _ _ (e0.bs _ _ bcc).1, dcc⟩
      · obtain ⟨_, rfl⟩ := lk_one (show List.lookup y [(("__class__" : Str), cc)] = some c from h)
        exact (e0.bs _ _ bcc).2
    obtain ⟨cda, ccl, cdd, vs, ccs, file, tf, rfl, lcd, hvs, hfile⟩ := S.rec_
    have KX0 : K.In h0 := KX.keeps hk
    obtain ⟨cd, hcl⟩ : ∃ cd, PySem.W.clsIn K C = some cd := by
      cases e : PySem.W.clsIn K C with
      | some cd => exact ⟨cd, rfl⟩
      | none =>
        have z := S.along
        unfold PySem.W.ks_superIn at z
        rw [e] at z
        cases z
    obtain ⟨oD, hD0, hDd⟩ : ∃ oD, K.lookup C = some oD ∧ oD.data = .cls cd := by
      have q := hcl
      unfold PySem.W.clsIn at q
      split at q
      · rename_i c d cd' sl ho
        cases q
        exact ⟨_, ho, rfl⟩
      · cases q
    obtain ⟨mb, hbl, hbb⟩ := e0.mod.blt
    obtain ⟨pl, hev⟩ := hev s.heap.objs.size
    refine PySem.ks_wpAt_execs_cons (PySem.ks_wpAt_Expr_any (PySem.ks_wpAt_MethodCall (pl := pl) ?_ hev) rfl (hsw _))
    refine PySem.ks_wpAt_super_base (env := ksEnv qual (supScope fld) s.heap.objs.size f (.ref cda) cc) lp lc (by decide +kernel) rfl (KX0 _ _ lk) rfl rfl rfl (KX0 _ _ lcd) rfl hvs hfile S.top ?_
    refine PySem.W.ks_loadName_global rfl lp (Calls.loadGlobal_builtin (env := ksEnv qual (supScope fld) s.heap.objs.size f (.ref cda) cc) (e0.mod.glob.keeps I.bk) (PySem.W.mg_none_of e0.mod.kin e0.mod.glob S.sup) (hbl.keeps I.bk) ((hbb _ (by decide +kernel)).trans (show bootBuiltins "super" = some (.type "super") by kernel_rfl)) ⟨rfl, ?_⟩)
    refine wpAny_loadName_free rfl lc rfl ⟨_, KX0 _ _ ecc, dcc⟩ ?_
    refine wpAny_loadName_local rfl ls hns ((bnd "self").trans ((if_neg (fun z => hf.n1 z.symm)).trans (if_pos rfl))) ?_
    refine PySem.ks_wpAny_isType_cls (KX0 _ _ hD0) hDd ⟨rfl, ?_⟩
    obtain ⟨t1, hao⟩ := exo_at I.hok ha
    have IA : PySem.W.InstAt h0 a { cls := .ref C, dict := none, data := .fields #[.ref t1, .none, .none, .none, .bool false, .none] } C none := ⟨hao, rfl, rfl, trivial⟩
    refine PySem.ks_wpAny_call_super (KX0 _ _ hD0) hDd hao rfl (fun c e => nomatch e) (PySem.W.looks_mroIn KX0 S.mro) (fun h1 hso k1 => ?_)
    have I1 : L2.Inv X [] [some (.ref a), some v] H { s with heap := h1, toks := s.toks + 2 } := I.kept (t' := s.toks + 2) k1
    have KX1 : K.In h1 := KX0.keeps k1
    have hm : PySem.W.alongIn K "__init__" ((cd.mro.dropWhile (· != .ref C)).drop 1) = some (some (.builtin "ValueError.__init__")) := by
      have z := S.along
      unfold PySem.W.ks_superIn at z
      rw [hcl] at z
      exact z
    have IA1 : PySem.W.InstAt h1 a { cls := .ref C, dict := none, data := .fields #[.ref t1, .none, .none, .none, .bool false, .none] } C none := ⟨k1 _ _ hao, rfl, rfl, trivial⟩
    refine PySem.W.kxs_getMethod PySem.W.kxs_ValueError hso (PySem.W.looks_opaque KX1 S.opq) (l₀ := cd.mro) (fun A Q E s k q => wpAny_bind ((PySem.W.looks_clsIn KX1 hcl) A _ E s k (wpAny_pure q))) rfl KX1 hm (IA1.type.andThen (PySem.W.looks_subIn KX1 S.subV)) (PySem.W.ks_ne KX1 IA1 hcl) (by decide +kernel) ?_
    let mw : Addr × Obj := (h1.objs.size, kxs_mw "ValueError.__init__" a)
    have I2 : L2.Inv X [mw] [some (.ref a), some v] H { s with heap := h1.push (kxs_mw "ValueError.__init__" a), toks := s.toks + 2 + 1 } :=
      ClX.pin_new (s := { s with heap := h1, toks := s.toks + 2 }) I1 (fun b o e => Heap.get?_push_of_some _ e) (Nat.le_refl _) (Heap.get?_push_size _ rfl) (fun v z => nomatch z)
    show wpAny _ _ (callWith p3 (.ref h1.objs.size) [] (backTo p3 (starEach [je] (ksEnv qual (supScope fld) s.heap.objs.size f (.ref cda) cc))) []) _ _ _
    rw [hse]
    refine PySem.W.kxs_callWith (i := "ValueError.__init__") (x := a) rfl (Calls.evalArgs_plain ?_)
    have PA1 : PA X [je] (tCons tj tNil) := pa_cons (hj A outer s H E) pa_nil (hse _)
    have hA := PA1.run p3 [mw] _ [some (.ref a), some v] H (fun vs H' => H' = H ∧ ∃ z : Str, vs = [.str z]) I2 (htj _ _ _ _ okv fun z => ⟨rfl, z, rfl⟩)
    rw [show starEach [je] X.env = (false, eval je X.env) :: starEach [] X.env from hse _] at hA
    refine wpAny_mono hA (fun us3 s3 h3 => ?_) fun _ _ z => z
    obtain ⟨vs3, H3, I3, r3, eH, z, rfl⟩ := h3
    have eH' := eH.symm
    subst eH'
    refine ⟨ClX.pin_at I3, ?_⟩
    have hmw : s3.heap.get? h1.objs.size = some (kxs_mw "ValueError.__init__" a) := ClX.pin_at I3
    have I3' : L2.Inv X [] [some (.ref a), some v] H s3 := ClX.unpin I3
    obtain ⟨nm, q, Nn, bs, bm, sn, sub, ab, col, dd, k0, k1', k2, k3, k5, hC, hbm⟩ := T.cls
    obtain ⟨t3, ha3⟩ := exo_at I3'.hok ha
    obtain ⟨hp3, g3, d3, tk3, os3⟩ := s3
    have hl3 : us3.length ≤ sizeLine := by
      rw [← Paired.length r3, sizeLine_eq]
      exact (by decide : 1 ≤ 16777216)
    refine call_bwV hbm (I3'.kIn _ _ hC) ha3 hmw hl3 (fun h4 t4 k4 hx4 => ?_)
    have J := I3'.write (t' := tk3) (x := a) (e := a) (o := exo a C none) (by rw [ha]; exact True.intro) (.inl rfl) k4 ⟨_, hx4⟩ (exo_ok hx4)
    have eu : upd H a (exo a C none) = H := by
      funext b
      by_cases hb : b = a
      · rw [hb, upd_same, ha]
      · rw [upd_ne hb]
    rw [eu] at J
    refine wpAt_of_wpAny ?_
    have B : PSs X [.Assign [.Attribute (.Name "self" p5) fld p6] (.Name fld p7) p8] (tOst K fld (tVar 0) (tVar 1)) :=
      pss_one (ps_ost (pe_var (i := 0) rfl (.inl ls)) (pe_var (i := 1) rfl (.inl lf) hd hcd) (hsw2 _))
    have R := B.run [] _ [some (.ref a), some v] H { nx := fun _ H' => Q .non H', rt := Q } J ⟨v, rfl, .ref a, rfl, a, C, rfl, T, hno, .inl ⟨ha, fun dx n ne => kq dx n ne⟩⟩
    refine wpAny_mono R (fun fl s' hs => ?_) fun e s' hs => hs
    cases fl with
    | ret u' =>
      obtain ⟨v', σ', H', J', rv, q'⟩ := hs
      exact ⟨v', H', J'.os, J'.bare, J'.base, J'.hok, rv, q'⟩
    | next =>
      obtain ⟨σ', H', J', q'⟩ := hs
      exact ⟨.non, H', J'.os, J'.bare, J'.base, J'.hok, rfl, q'⟩
    | brk =>
      obtain ⟨_, _, _, q'⟩ := hs
      exact False.elim q'
    | cont =>
      obtain ⟨_, _, _, q'⟩ := hs
      exact False.elim q'
end Cy
namespace Cy
open PySem PySem.Spec PyProof.Rows L2
open L2H (RoomH PinOk cxH inv_startH)
section
variable {X : Cx} {W : WX} {j : Nat} {x : Str} {p pos : Pos} {e : Expr} {es : List Expr} {t : TA}
inductive RaisP (g : Wd) (j : Nat) (C : Addr) (vs : List V) (H : Hp) (Q : XK) : Prop where
  | by {f : Addr} {k : Nat} {fld : Str} {ok : V → Prop} {v : V} (T : OexC g.K C) (iC : PySem.W.findIn g.K (.ref C) "__init__" = some (some (.ref f))) (tI : PySem.W.typeIn g.K (.ref f) = some (.type "function"))
      (F : FnG g k f (spSup C fld ok)) (hk : k + 1 ≤ j) (hv : vs = [v]) (okv : ok v) (q : ∀ d, H d = none → Q (.ref C) (some d) (upd H d (.xd [(fld, v)])))
def cRais (g : Wd) (j : Nat) (C : Addr) (t : TA) : St → Hp → XK → Prop := fun σ H Q => t σ H fun vs H1 => RaisP g j C vs H1 Q
theorem pmk_c (hr : Room j X.A) (hf : Gf (.of X) x) (hg : Gl X x) (ha : PA X (e :: es) t) (hdb : (x == ("__debug__" : Str)) = false := by decide) (he : starEach (e :: es) X.env = (false, eval e X.env) :: starEach es X.env := by rfl)
    (hpl : (backTo pos (starEach es X.env)).any (·.1) = false := by rfl) : PMk X (.Call (.Name x p) (e :: es) [] pos) (cRais (.of X) j (gad X.K x) t) := by
  intro pins s σ H Q I h
  refine wpAny_Call_Name_kw (ld_glob I hg hf.mg ?_ hdb)
  refine PySem.W.callWith_K (h₀ := X.base) I.ok.mod.kin hf.kp (thn (ha.run pos pins s σ H _ I h) fun us s1 ⟨vs, H1, I1, r1, q1⟩ => ⟨I1.kIn, ?_⟩) he hpl
  obtain ⟨T, iC, tI, F, hk, hv, okv, q⟩ := q1
  rename_i f k fld ok v
  subst hv
  have Fn := F
  revert T iC tI Fn q
  show ∀ _ _ _ _ _, wpAny _ _ (call (.ref (gad X.K x)) us) _ _ _
  generalize gad X.K x = C
  intro T iC tI q Fn
  clear F
  obtain ⟨nm, qn, N, bs, bm, sn, sub, ab, col, dd, k0, k1, k2, k3, k5, hC, hbm⟩ := T.cls
  obtain ⟨hp, g, dr, tk, os⟩ := s1
  have hsz : hp.objs.size ≤ hp.objs.size + 1 := Nat.le_succ _
  have hn : H1 (hp.objs.size + 1) = none := I1.hok.fresh hsz
  have kk : ∀ b o, hp.get? b = some o → ((hp.push (PySem.W.kdv_tup us)).push (PySem.HandSPX.excO C hp.objs.size)).get? b = some o := fun b o e => Heap.get?_push_of_some _ (Heap.get?_push_of_some _ e)
  have hget : ((hp.push (PySem.W.kdv_tup us)).push (PySem.HandSPX.excO C hp.objs.size)).get? (hp.objs.size + 1) = some (PySem.HandSPX.excO C hp.objs.size) := by heap_get
  have I2 : L2.Inv X pins σ (upd H1 (hp.objs.size + 1) (exo (hp.objs.size + 1) C none)) ⟨(hp.push (PySem.W.kdv_tup us)).push (PySem.HandSPX.excO C hp.objs.size), g, dr, tk, os⟩ :=
    I1.laid (t' := tk) (a := hp.objs.size + 1) (o := exo (hp.objs.size + 1) C none) (h' := (hp.push (PySem.W.kdv_tup us)).push (PySem.HandSPX.excO C hp.objs.size)) kk hsz (exo_ok hget)
  have hus : us.length ≤ sizeLine := by
    rw [← Paired.length r1, sizeLine_eq]
    exact (by decide : 1 ≤ 16777216)
  have r2 : Vals [V.ref (hp.objs.size + 1), v] (Value.ref (hp.objs.size + 1) :: us) := .cons rfl r1
  have hr' : Room (k + 1) X.A := hr.mono hk
  have hq : spSup C fld ok [V.ref (hp.objs.size + 1), v] (upd H1 (hp.objs.size + 1) (exo (hp.objs.size + 1) C none))
      (fun v' H2 => v' = .non ∧ ∃ (d : Addr) (fs : List (Str × V)), H2 (hp.objs.size + 1) = some (exo (hp.objs.size + 1) C (some d)) ∧ H2 d = some (exd d fs) ∧ H1 d = none ∧ Q (.ref C) (some d) (upd (del H2 (hp.objs.size + 1)) d (.xd fs))) (fun _ _ _ => False) := by
    refine ⟨_, _, rfl, upd_same, okv, fun dx hdx ne => ⟨rfl, dx, [(fld, v)], upd_same, ?_, ?_, ?_⟩⟩
    · rw [upd_ne ne, upd_same]
    · rw [upd_ne ne] at hdx; exact hdx
    · have hdx' : H1 dx = none := by rw [upd_ne ne] at hdx; exact hdx
      have e : upd (del (upd (upd (upd H1 (hp.objs.size + 1) (exo (hp.objs.size + 1) C none)) dx (exd dx [(fld, v)])) (hp.objs.size + 1) (exo (hp.objs.size + 1) C (some dx))) (hp.objs.size + 1)) dx (.xd [(fld, v)]) = upd H1 dx (.xd [(fld, v)]) := by
        funext b
        by_cases hb : b = dx
        · subst hb; rw [upd_same, upd_same]
        · rw [upd_ne hb, upd_ne hb]
          by_cases hb2 : b = hp.objs.size + 1
          · subst hb2; rw [del_same, hn]
          · rw [del_ne hb2, upd_ne hb2, upd_ne hb, upd_ne hb2]
      rw [e]
      exact q dx hdx'
  refine wpAny_call (PySem.HandSPX.call_own F.excBase_ValueError (fun Y => PySem.HandSPX.refsVE_contains Y bm hbm) (I1.kIn _ _ hC) (PySem.W.looks_findIn I1.kIn iC) (fun self => PySem.W.bind_fn I1.kIn self tI) hus
    (codeAny_mono (Fn _ X.stack _ _ (Value.ref (hp.objs.size + 1) :: us) _ _ (fun _ _ _ => False) (hr'.make C us []) (I2.env0.make C us []) r2 hq) fun r s' hq' => ?_))
  cases r with
  | error er => exact passL (X := X) pins σ _ _ er s' I2 hq'
  | ok fl =>
    cases fl with
    | ret u =>
      obtain ⟨v', H2, os2, bare2, un2, hok2, rv, ev, d, fs, ea, ed, hd1, q2⟩ := hq'
      subst ev
      obtain ⟨h2, g2, d2, t2, os'⟩ := s'
      exact ⟨rv, mk_end (raises_own T.exC T.tyC) I1 hsz kk un2 hok2 os2 bare2 ea ed hd1 q2⟩
    | next => exact False.elim hq'
    | brk => exact False.elim hq'
    | cont => exact False.elim hq'
def cRaise (t : St → Hp → XK → Prop) (W : WX) : TS := fun _ σ H => t σ H fun cls d H' => W cls d σ H'
theorem ps_cRaise (hc : X.calm = true) (tk : Takes X W) (hr : Room j X.A) (hf : Gf (.of X) x) (hg : Gl X x) (ha : PA X (e :: es) t) {rpos : Pos} (hdb : (x == ("__debug__" : Str)) = false := by decide) (he : starEach (e :: es) X.env = (false, eval e X.env) :: starEach es X.env := by rfl)
    (hpl : (backTo pos (starEach es X.env)).any (·.1) = false := by rfl) : PS X (.Raise (some (.Call (.Name x p) (e :: es) [] pos)) none rpos) (cRaise (cRais (.of X) j (gad X.K x) t) W) :=
  ps_raise hc tk (pmk_c hr hf hg ha hdb he hpl)
end
/-- the promise: the exception, its class, its dict -/
abbrev SpX := Addr → Value → Option Addr → List V → Hp → VK → Prop
def FnP (g : Wd) (k : Nat) (f : Addr) (sp : SpX) : Prop :=
  ∀ (A : Around) (outer : List Env) (s : Shared) (H : Hp) (us : List Value) (vs : List V) (Q : VK) (p : Addr × Obj) (cls : Value) (d : Option Addr), RoomH k A → PinOk outer H s p → Zc cls d p.2 → (∃ fv, p.2.data = .fields fv) → Env0 g.P g.w g.K g.mg g.base A outer s H → Vals vs us →
    sp p.1 cls d vs H Q → codeAny (model g.P g.w) A (.call (.ref f) ⟨us, []⟩) (CR (L2.CX g.P g.w) outer g.P g.w H s Q E0) s
theorem fn_ofP {g : Wd} {k : Nat} {f : Addr} {name qual : Str} {params : Arguments} {body : List Stmt} {scope : Scope} {dV kV doc pm cdv ct oc : Value} {an od : Option Addr}
    {osl : Array (Option Value)} {N ps : List Str} {sp : SpX} (lk : g.K.lookup f = some ⟨oc, od, .func (PySem.W.fnOf name qual params body scope dV kV doc pm an cdv ct), osl⟩) (hcd : PySem.W.codeIn g.K cdv qual = true) (S : FnScope N ps scope)
    (hb : Binds g.K (PySem.W.fnOf name qual params body scope dV kV doc pm an cdv ct) ps []) (len : ∀ a c d vs H Q, sp a c d vs H Q → vs.length = ps.length)
    (hbody : ∀ (A : Around) (outer : List Env) (s : Shared) (H : Hp) (vs : List V) (Q : VK) (p : Addr × Obj) (cls : Value) (d : Option Addr), RoomH k (A.deeper (envOfC qual scope s.heap.objs.size f cdv)) → Zc cls d p.2 → (∃ fv, p.2.data = .fields fv) → sp p.1 cls d vs H Q →
      ∃ t, PSs (cxH (L2.CX g.P g.w) g.P g.w g.K g.mg g.base N qual scope f cdv A outer s H E0 p) body t ∧ t { nx := fun _ H' => Q .non H', rt := Q } (L2.start N vs) H) :
    FnP g (k + 1) f sp := by
  intro A outer s H us vs Q p cls d hr hpin hz hfv e0 r hsp
  have hl := len _ _ _ _ _ _ hsp
  have KX : g.K.In s.heap := e0.mod.kin.keeps fun b o e => (e0.bs b o e).1
  have lim : s.heap.NoLimit := e0.mod.nolimit.keeps fun b o e => (e0.bs b o e).1
  have hkind : ∀ y ∈ ps.zip us, scope.names.lookup y.1 = some .local ∨ (scope.names.lookup y.1 = some .cell ∧ ((cellsFrom (s.heap.objs.size + 1) scope.names []).lookup y.1).isSome = true) := fun ⟨n, v⟩ hy => by
    rcases S.par n (List.of_mem_zip hy).1 with q | q
    · exact .inl q
    · exact .inr ⟨q, PySem.W.cellsFrom_some _ _ _ (.inl q)⟩
  have hlu : us.length = ps.length := by rw [← r.length]; exact hl
  have b := hb s us KX (by rw [List.append_nil]; exact hlu)
  rw [List.append_nil] at b
  refine codeAny_call_function hr.depth (KX _ _ lk) rfl S.co S.gen rfl (PySem.W.codeRec_of KX hcd) (b _ _ _ _ ?_)
  refine wpAny_newFunctionEnv_cells S.kind hkind fun env he s1 x => ?_
  subst he
  refine ⟨lim.keeps x.toInCall.keep, codeAny_func ?_⟩
  obtain ⟨t, ht, hq⟩ := hbody A outer s H vs Q p cls d (hr.deeper _) hz hfv hsp
  have I : Inv (cxH (L2.CX g.P g.w) g.P g.w g.K g.mg g.base N qual scope f cdv A outer s H E0 p) [] (L2.start N vs) H s1 := inv_startH S hpin e0 hl r x
  refine wpAny_mono (ht.run [] s1 (L2.start N vs) H _ I hq) (fun fl s' hs => ?_) fun e s' hs => hs
  have fin : ∀ {σ' : St} {H' : Hp} {v : V} {u : Value}, Inv (cxH (L2.CX g.P g.w) g.P g.w g.K g.mg g.base N qual scope f cdv A outer s H E0 p) [] σ' H' s' → RelV v u → Q v H' → CE outer g.P g.w H s Q u s' :=
    fun {σ' H' v u} J rv q => ⟨v, H', J.os, J.bare, J.base, J.hok, rv, q⟩
  cases fl with
  | ret u =>
    obtain ⟨v, σ', H', J, rv, q⟩ := hs
    exact fin J rv q
  | next =>
    obtain ⟨σ', H', J, q⟩ := hs
    exact fin (v := V.non) (u := Value.none) J rfl q
  | brk =>
    obtain ⟨_, _, _, q⟩ := hs
    exact False.elim q
  | cont =>
    obtain ⟨_, _, _, q⟩ := hs
    exact False.elim q
section
variable {X : Cx} {j : Nat} {x : Str} {pp pos : Pos} {e : Expr} {es : List Expr} {t : TA} {p : Addr × Obj} {cls : Value} {d : Option Addr}
inductive CallX (g : Wd) (j : Nat) (a : Addr) (cls : Value) (d : Option Addr) (f : Addr) (vs : List V) (H : Hp) (Q : VK) : Prop where
  | by {k : Nat} {sp : SpX} (c : FnP g k f sp) (hk : k ≤ j) (h : sp a cls d vs H Q)
def cCallX (g : Wd) (j : Nat) (a : Addr) (cls : Value) (d : Option Addr) (f : Addr) (t : TA) : TE := fun σ H Q => t σ H fun vs H1 => CallX g j a cls d f vs H1 Q
theorem pe_cCallX (hr : RoomH j X.A) (hp : p ∈ X.pn) (hz : Zc cls d p.2) (hfv : ∃ fv, p.2.data = .fields fv) (hf : Gf (.of X) x) (hg : Gl X x) (ha : PA X (e :: es) t) (hdb : (x == ("__debug__" : Str)) = false := by decide) (he : starEach (e :: es) X.env = (false, eval e X.env) :: starEach es X.env := by rfl)
    (hpl : (backTo pos (starEach es X.env)).any (·.1) = false := by rfl) : PE X (.Call (.Name x pp) (e :: es) [] pos) (cCallX (.of X) j p.1 cls d (gad X.K x) t) := by
  refine ⟨fun pins s σ H Q I h => ?_⟩
  refine wpAny_Call_Name_kw (ld_glob I hg hf.mg ?_ hdb)
  refine PySem.W.callWith_K (h₀ := X.base) I.ok.mod.kin hf.kp (thn (ha.run pos pins s σ H _ I h) fun us s1 ⟨vs, H1, I1, r, q⟩ => ⟨I1.kIn, ?_⟩) he hpl
  obtain ⟨c, hk, h⟩ := q
  have P1 := I1.pin p (List.mem_append_left _ hp)
  have hpin : PinOk X.stack H1 s1 p := ⟨P1.1, P1.2.1, fun hm => (List.mem_cons.mp (I1.stkSub p.1 hm)).elim P1.2.2.1 P1.2.2.2.1, P1.2.2.2.2⟩
  refine wpAny_call (codeAny_mono (c X.A X.stack s1 H1 us vs Q p cls d (hr.mono hk) hpin hz hfv I1.env0 r h) fun r s' hq => ?_)
  cases r with
  | error e => exact passL (X := X) pins σ H1 s1 e s' I1 hq
  | ok fl =>
    cases fl with
    | ret u => exact I1.after hq
    | next => exact False.elim hq
    | brk => exact False.elim hq
    | cont => exact False.elim hq
/-- the field n of the exception p -/
inductive XfP (K : PySem.W.Frag) (a : Addr) (cls : Value) (d : Option Addr) (n : Str) (x : V) (H : Hp) (Q : VK) : Prop where
  | by {C dd : Addr} {fs : List (Str × V)} {v : V} (ex : x = .ref a) (ec : cls = .ref C) (T : XfC K C) (hno : PySem.W.findIn K (.ref C) n = some none) (ed : d = some dd) (eh : H dd = some (.xd fs)) (l : fs.lookup n = some v) (k : Q v H)
def cXf (K : PySem.W.Frag) (a : Addr) (cls : Value) (d : Option Addr) (te : TE) (n : Str) : TE := fun σ H Q => te σ H fun x H1 => XfP K a cls d n x H1 Q
theorem pe_cXf {te : TE} {n : Str} (hp : p ∈ X.pn) (hz : Zc cls d p.2) (hfv : ∃ fv, p.2.data = .fields fv) (he : PE X e te) (hb : attributeBase e n X.env (eval e X.env) = eval e X.env := by rfl) : PE X (.Attribute e n pos) (cXf X.K p.1 cls d te n) := by
  refine ⟨fun pins s σ H Q I h => ?_⟩
  refine attr_of hb (thn (he.run pins s σ H _ I h) fun u s1 hh => ?_)
  obtain ⟨x, H1, I1, rx, ex, ec, T, hno, ed, ea, l, q⟩ := hh
  rename_i C dd fs v
  subst ex
  obtain rfl : u = Value.ref p.1 := rx
  subst ec
  subst ed
  obtain ⟨ha, _⟩ := I1.pin p (List.mem_append_left _ hp)
  obtain ⟨vs, hd⟩ := hfv
  have hx : ObjOk X.prog X.w H1 s1.heap dd (.xd fs) := I1.hok dd _ ea
  obtain ⟨mA, hns, hr⟩ := hx
  obtain ⟨od, ho, hl⟩ := lookIn_ns hns
  obtain ⟨u, hu, ru⟩ := RelO.some_of (v := v) (o := mA n) (by rw [← l]; exact hr n)
  have J : PySem.W.InstAt s1.heap p.1 p.2 C (some od) := ⟨ha, hz.1, by unfold PySem.W.notCls; rw [hd] <;> rfl, by rw [hz.2]; exact ho⟩
  exact HandSPX.exc_get I1.kIn J T.ga T.gg T.exC (PySem.W.findObj_own T.hdC hno rfl (by rw [hl, hu])) (handed_of ru) ⟨v, H1, I1.tok _, ru, q⟩
end
section
variable {prog : Program} {w : World} {A : Around} {E : Value → Shared → Prop} {s : Shared} {K : PySem.W.Frag} {x D : Addr} {ox od : Obj}
open PySem.W in
theorem kin_classD {Q : Option Value → Shared → Prop} (C : ExcC K D) (X : K.In s.heap) (I : InstAt s.heap x ox D (some od)) (h : Q (some (.ref D)) { s with toks := s.toks + 1 }) : wpAny (model prog w) A (getAttr? (.ref x) "__class__") Q E s := by
  obtain ⟨hga, hgt, hsub, hdct, ha, hn, htk, hm⟩ := C
  have hf : findObj K D (some od) "__class__" = some (.bind (.builtin "getset_descriptor.__get__") (.builtin "object.__class__")) := findObj_data (by obtain ⟨cd, hc, _⟩ := any_some hdct; rw [hc]; rfl) ha hn htk
  obtain ⟨hp, g, d, t, os⟩ := s
  have L0 := I.type (M := model prog w)
  have L1 := looks_findIn (M := model prog w) X hga
  have L2 := looks_findIn (M := model prog w) X hgt
  have L3 := looks_find (M := model prog w) X I hf
  have sub : Looks (model prog w) hp (isInstance (.ref x) (.type "BaseException")) true := L0.andThen (looks_subIn X hsub)
  have hx0 : (false && onTheHeap (Value.builtin "BaseException.__getattribute__")) = false := rfl
  have hx2 : (Value.builtin "BaseException.__getattribute__" == Value.builtin "object.__getattribute__") = false := by decide +kernel
  have hx1 : (onTheHeap (Value.ref D) && Value.builtin "BaseException.__getattribute__" == Value.builtin "object.__getattribute__") = false := by rw [hx2]; rfl
  unfold getAttr? getAttrBy? getAttrBy
  refine wpAny_bind (wpAny_mkText (wpAny_bind (wpAny_attempt (wpAny_holding (wpAny_bind (L0.at (wpAny_bind (L1.at ?_))))))))
  show wpAny _ _ (if (onTheHeap (Value.ref D) && Value.builtin "BaseException.__getattribute__" == Value.builtin "object.__getattribute__") = true then _ else _) _ _ _
  rw [hx1, if_neg Bool.false_ne_true]
  unfold getAttrByItsOwn hookBefore
  refine wpAny_bind ?_
  rw [if_pos (show onTheHeap (Value.ref D) = true from rfl)]
  refine L2.at ?_
  refine wpAny_bind (wpAny_attempt (wpAny_holding ?_))
  unfold callGetattribute
  rw [hx0, if_neg Bool.false_ne_true]
  unfold boundAndCalled
  rw [PySem.F.excAttr_ValueError.ga.bind (.ref x)]
  refine wpAny_bind (wpAny_pure ?_)
  show wpAny _ _ (call (.builtin "BaseException.__getattribute__") [.ref x, .str "__class__" t]) _ _ _
  refine wpAny_call (codeAny_call_builtin PySem.F.excAttr_ValueError.ga.plain PySem.F.entry_bexc_ga ?_)
  refine @check_slot (model prog w) _ _ ⟨hp, g, d, t + 1, os⟩ "BaseException.__getattribute__" "BaseException" "__getattribute__" (.ref x) [.str "__class__" t] [] _ (by decide +kernel) (by decide +kernel) sub (PySem.F.args_bexc_ga (.ref x) (.str "__class__" t)) ?_
  unfold Builtin.«object.__getattribute__»
  refine wpAny_bind (wpAny_of_eq (a := ((Value.ref x : Value), [Value.str "__class__" t])) (by first | rfl | (simp only [slotArgs]; rfl)) ?_)
  refine wpAny_bind (wpAny_pure (wpAny_bind (L0.at (wpAny_bind (L3.at ?_)))))
  show wpAny _ _ (holding [Value.builtin "object.__class__"] (call (.builtin "getset_descriptor.__get__") [.builtin "object.__class__", .ref x, .ref D]) >>= ret) _ _ _
  refine wpAny_bind (wpAny_holding (wpAny_call (class_get (s := ⟨hp, g, d, t + 1, os⟩) (ox := ox) (od := some od) X I hm ?_)))
  refine wpAny_pure ?_
  show wpAny _ _ (handedOut (.ref D)) _ _ _
  rw [handedOut_of (v := .ref D) rfl]
  first
    | exact wpAny_pure (wpAny_pure h)
    | exact wpAny_pure h
    | exact wpAny_pure (wpAny_bind (wpAny_pure (wpAny_pure h)))
open PySem.W in
theorem kitx_excD (C : ExcC K D) : KitX K (.ref x) (.ref D) (fun h => ∃ ox od, InstAt h x ox D (some od)) where
  ty := fun _ _ _ ⟨_, _, I⟩ => I.type
  it := fun _ _ X _ => by
    obtain ⟨cdD, hcD, _⟩ := any_some C.hd
    unfold clsIn at hcD
    split at hcD
    · rename_i c' d' cd' sl' ho
      intro A' Q' E' s' k q
      unfold isType loadHead
      exact wpAny_bind (wpAny_loadPart (k _ _ (X _ _ ho)) (wpAny_pure q))
    · cases hcD
  ne := fun h tp dd its n sl X htp => by
    obtain ⟨cdD, hcD, _⟩ := any_some C.hd
    refine Bool.eq_false_iff.mpr fun q => ?_
    have e : D = tp := Value.ref.inj (beq_iff_eq.mp q)
    subst e
    unfold clsIn at hcD
    split at hcD
    · rename_i c' d' cd' sl' ho
      have z := (X _ _ ho).symm.trans htp
      cases z
    · cases hcD
  ca := fun X ⟨_, _, I⟩ k => kin_classD C X I k
end
section
variable {X : Cx} {p : Addr × Obj} {cls : Value} {d : Option Addr}
inductive IsxP (K : PySem.W.Frag) (a : Addr) (cls : Value) (d : Option Addr) (x c : V) (H : Hp) (Q : VK) : Prop where
  | ty {D dd : Addr} {fs : List (Str × V)} {n : String} {b : Bool} (ex : x = .ref a) (ec : cls = .ref D) (C : ExcC K D) (ed : d = some dd) (eh : H dd = some (.xd fs)) (hc : c = .ty n) (hb : PySem.W.kitOne K (.ref D) (.type n) = some b) (k : Q (.bl b) H)
  | own {D E dd : Addr} {fs : List (Str × V)} {b : Bool} (ex : x = .ref a) (ec : cls = .ref D) (C : ExcC K D) (ed : d = some dd) (eh : H dd = some (.xd fs)) (hc : c = .ref E) (hb : PySem.W.kitOne K (.ref D) (.ref E) = some b) (k : Q (.bl b) H)
def cIsx (K : PySem.W.Frag) (a : Addr) (cls : Value) (d : Option Addr) : List V → Hp → VK → Prop := fun xs H Q => match xs with
  | [x, c] => IsxP K a cls d x c H Q
  | _ => False
theorem call_cIsx (hp : p ∈ X.pn) (hz : Zc cls d p.2) (hfv : ∃ fv, p.2.data = .fields fv) : CallR X (.builtin "isinstance") (cIsx X.K p.1 cls d) := by
  intro pins s σ H xs us Q I r h
  match xs, r, h with
  | [x, c], r, h =>
    have key : ∀ {D dd : Addr} {fs : List (Str × V)} {cv : Value} {b : Bool}, us = [.ref p.1, cv] → cls = .ref D → ExcC X.K D → d = some dd → H dd = some (.xd fs) → PySem.W.kitOne X.K (.ref D) cv = some b → Q (.bl b) H →
        wpAny (model X.prog X.w) X.A (call (.builtin "isinstance") us) (EP X pins σ Q) X.xe s := by
      intro D dd fs cv b eu ec C ed eh hb k
      subst eu ec ed
      obtain ⟨ha, _⟩ := I.pin p (List.mem_append_left _ hp)
      obtain ⟨vs, hd⟩ := hfv
      have hx : ObjOk X.prog X.w H s.heap dd (.xd fs) := I.hok dd _ eh
      obtain ⟨mA, hns, hr⟩ := hx
      obtain ⟨od, ho, hl⟩ := lookIn_ns hns
      have J : PySem.W.InstAt s.heap p.1 p.2 D (some od) := ⟨ha, hz.1, by unfold PySem.W.notCls; rw [hd] <;> rfl, by rw [hz.2]; exact ho⟩
      exact PySem.W.kia_one (kitx_excD C) I.kIn ⟨_, _, J⟩ hb (fun z => nomatch z) fun tk => ⟨.bl b, H, I.kept (t' := tk) fun _ _ z => z, rfl, k⟩
    have h : IsxP X.K p.1 cls d x c H Q := h
    cases r with
    | cons rx rr =>
      cases rr with
      | cons rt rr =>
        cases rr
        cases h with
        | ty ex ec C ed eh hc hb k =>
          subst ex hc
          cases rx
          cases rt
          exact key rfl ec C ed eh hb k
        | own ex ec C ed eh hc hb k =>
          subst ex hc
          cases rx
          cases rt
          exact key rfl ec C ed eh hb k
end
end Cy
namespace Cy
open PySem PySem.Spec PyProof.Rows L2
/-- a text's signs, each in a new pair with its number from k0 on -/
def Ies (k0 : Int) (x : Str) : It :=
  ⟨fun i _ => i < x.cps.size, fun i H v H' => ∃ T c, v = .ref T ∧ H T = none ∧ H' = upd H T (.tup [.int (k0 + (i : Nat)), .str ⟨#[c]⟩]) ∧ x.cps[i]? = some c, fun i _ => i = x.cps.size⟩
theorem turn_es {P : Program} {w : World} {K : PySem.W.Frag} {elts : List Expr} {kk : Nat} {tpos : Pos} (k0 : Int) (x : Str) (t : Tok) (e it : Addr) :
    Turn P w K (.Tuple elts kk tpos) (Ies k0 x) [e, it] e (fun i h => (∃ old, IsEnum h e it (k0 + ((i : Nat) : Int)) old) ∧ h.IsStrIter it (strIterType x) x t i ∧ e ≠ it) where
  mem := by simp
  obj := fun i h st b hb => by
    obtain ⟨⟨old, he⟩, ⟨o, ho, hc, hd⟩, _⟩ := st
    have e' : b = e ∨ b = it := by simpa using hb
    rcases e' with z | z
    · rw [z]; exact ⟨_, he, fun v q => nomatch q⟩
    · rw [z]; exact ⟨o, ho, fun v q => by rw [hd] at q; cases q⟩
  keep := fun i h h' st k => let ⟨⟨old, he⟩, ⟨o, ho, r⟩, hne⟩ := st; ⟨⟨old, k e (by simp) _ he⟩, ⟨o, k it (by simp) o ho, r⟩, hne⟩
  item := by
    intro X hP hw hK hc i pins s σ H E I hf st hg
    subst hP hw hK
    obtain ⟨⟨old, he⟩, hit, hne⟩ := st
    have hel : e < s.heap.objs.size := Heap.lt_size he
    have hil : it < s.heap.objs.size := by obtain ⟨_, q, _⟩ := hit; exact Heap.lt_size q
    have DD := Draws.text (prog := X.prog) (w := X.w) (A := X.A.in1) (I.ok.hd hc) it x t
    refine wpAny_pyNext_enum_itemC DD he hit hg hne (by simpa using hne) fun v h' tk hP ho hit' hT hsz hk => ?_
    obtain ⟨c, u, hcx, rfl⟩ := hP
    refine ⟨_, rfl, wpAny_letOwnedTupleGo_enum (s := { s with heap := h', toks := tk + 1 }) ho fun h'' he' sb => ?_⟩
    have hT2 : h''.get? s.heap.objs.size = some { cls := .type "tuple", data := .seq #[.int (k0 + (i : Nat)) tk, .str ⟨#[c]⟩ u] } := (sb.2 _ (Nat.ne_of_gt hel)).trans hT
    have new : ObjOk X.prog X.w (upd H s.heap.objs.size (.tup [.int (k0 + (i : Nat)), .str ⟨#[c]⟩])) h'' s.heap.objs.size (.tup [.int (k0 + (i : Nat)), .str ⟨#[c]⟩]) :=
      ⟨by show 2 ≤ sizeLine; decide, [.int (k0 + (i : Nat)) tk, .str ⟨#[c]⟩ u], .cons ⟨_, rfl⟩ (.cons ⟨_, rfl⟩ .nil), ⟨_, hT2, rfl, _, rfl⟩⟩
    have I1 : Inv X pins σ (upd H s.heap.objs.size (.tup [.int (k0 + (i : Nat)), .str ⟨#[c]⟩])) { s with heap := h'', toks := tk + 1 } :=
      I.turnedNew (ch := [e, it]) (fun b ob hb q => (sb.2 b (fun z => hb (by simp [z]))).trans (hk b ob (fun z => hb (by simp [z])) (fun z => hb (by simp [z])) q)) hf (Nat.le_refl _) new
    refine ⟨.ref s.heap.objs.size, _, I1, rfl, ⟨_, c, rfl, I.hok.fresh (Nat.le_refl _), rfl, hcx⟩, ⟨⟨.str ⟨#[c]⟩ u, ?_⟩, ?_, hne⟩, fun b hb => ?_⟩
    · have e1 : k0 + ((i + 1 : Nat) : Int) = k0 + (i : Int) + 1 := by omega
      rw [e1]; exact he'
    · obtain ⟨o, ho', r⟩ := hit'
      exact ⟨o, (sb.2 it (Ne.symm hne)).trans ho', r⟩
    · have hb' : b < s.heap.objs.size := by
        have e' : b = e ∨ b = it := by simpa using hb
        rcases e' with z | z
        · rw [z]; exact hel
        · rw [z]; exact hil
      rw [upd_ne (Nat.ne_of_lt hb')]
      exact (hf b hb).1
  done := by
    intro X hP hw hK hc i pins s σ H E I hf st hg
    subst hP hw hK
    obtain ⟨⟨old, he⟩, hit, hne⟩ := st
    obtain ⟨f0, f1, f2, f3, f4, f5⟩ := hf it (by simp)
    have hg' : i = x.cps.size := hg
    subst hg'
    have DD := Draws.text (prog := X.prog) (w := X.w) (A := X.A.in1) (I.ok.hd hc) it x t
    exact wpAny_pyNext_enum_endD DD he hit fun h' eb => ⟨rfl, I.turned (t' := s.toks) (fun b o hb q => eb b o hb q) f0 f1 f3 f4 f5⟩
  self := fun A i s Q E st h => let ⟨⟨_, he⟩, _⟩ := st; wpAny_pyIter_enum he h
def iEs (ta : TA) : TI := fun σ H R => ta σ H fun vs H1 => match vs with
  | [.str x] => R (Ies 0 x) H1
  | _ => False
theorem pi_es {X : Cx} {e : Expr} {ta : TA} {p pos tpos : Pos} {elts : List Expr} {kk : Nat} (hg : Gl X "enumerate") (hm : X.mg "enumerate" = none) (ha : PA X [e] ta) (hs : starEach [e] X.env = [(false, eval e X.env)] := by rfl) :
    PI X (.Tuple elts kk tpos) (.Call (.Name "enumerate" p) [e] [] pos) (iEs ta) := by
  refine ⟨fun pins s σ H R I h => ?_⟩
  refine Call_ (ld_blt I hg hm boot_enumerate (PyProof.Rows.callWith_type1 (thn (ha.run pos pins s σ H _ I h) fun us s1 ⟨vs, H1, I1, r1, q1⟩ => ?_) hs rfl))
  match vs, r1, q1 with
  | [.str x], r1, q =>
    cases r1 with
    | cons r rr =>
      cases rr
      obtain ⟨t, rfl⟩ := r
      refine call_enumerate_str fun h' he hit hsz hk => wpAny_pyIter_enum he ?_
      have I2 : Inv X pins σ H1 { s1 with heap := h' } := I1.kept (t' := s1.toks) hk
      refine ⟨s1.heap.objs.size + 1, [s1.heap.objs.size + 1, s1.heap.objs.size], _, _, H1, rfl, I2, turn_es 0 x t (s1.heap.objs.size + 1) s1.heap.objs.size, ⟨⟨.none, by simpa using he⟩, hit, Nat.succ_ne_self _⟩, fun b hb => ?_, q⟩
      have e' : b = s1.heap.objs.size + 1 ∨ b = s1.heap.objs.size := by simpa using hb
      have hle : s1.heap.objs.size ≤ b := by
        rcases e' with z | z
        · rw [z]; exact Nat.le_add_right _ _
        · rw [z]; exact Nat.le_refl _
      exact I1.fpOk hle (I1.hok.fresh hle)
def Iek (K : PySem.W.Frag) (k0 : Int) (a : Addr) : It :=
  ⟨fun i H => ∃ (xs : List V) (x : V), SqL K H a xs ∧ xs[i]? = some x, fun i H v H' => ∃ T x, v = .ref T ∧ H T = none ∧ H' = upd H T (.tup [.int (k0 + (i : Nat)), x]) ∧ ∀ xs, SqL K H a xs → xs[i]? = some x, fun i H => ∃ xs : List V, SqL K H a xs ∧ xs.length = i⟩
theorem turn_ek {P : Program} {w : World} {K : PySem.W.Frag} {elts : List Expr} {kk : Nat} {tpos : Pos} (k0 : Int) (a e it : Addr) :
    Turn P w K (.Tuple elts kk tpos) (Iek K k0 a) [e, it] e (fun i h => (∃ old, IsEnum h e it (k0 + ((i : Nat) : Int)) old) ∧ h.IsListIter it a i ∧ e ≠ it ∧ a ≠ it ∧ a ≠ e) where
  mem := by simp
  obj := fun i h st b hb => by
    obtain ⟨⟨old, he⟩, ⟨o, ho, hc, hd⟩, _⟩ := st
    have e' : b = e ∨ b = it := by simpa using hb
    rcases e' with z | z
    · rw [z]; exact ⟨_, he, fun v q => nomatch q⟩
    · rw [z]; exact ⟨o, ho, fun v q => by rw [hd] at q; cases q⟩
  keep := fun i h h' st k => let ⟨⟨old, he⟩, hi, hne⟩ := st; ⟨⟨old, k e (by simp) _ he⟩, hi.at fun o q => k it (by simp) o q, hne⟩
  item := by
    intro X hP hw hK hc i pins s σ H E I hf st hg
    subst hP hw hK
    obtain ⟨⟨old, he⟩, hit, hne, hai, hae⟩ := st
    obtain ⟨xs, x, hq, hx⟩ := hg
    obtain ⟨its, rv, p, hz⟩ := I.list hq
    obtain ⟨u, hu, ru⟩ := rv.get hx
    have hel : e < s.heap.objs.size := Heap.lt_size he
    have hil : it < s.heap.objs.size := by obtain ⟨_, q, _⟩ := hit; exact Heap.lt_size q
    have hlt : i < its.toArray.size := by
      have z := (List.getElem?_eq_some_iff.mp hu).1
      simpa using z
    have DD := Draws.list (prog := X.prog) (w := X.w) (A := X.A.in1) (I.ok.hd hc) it a hai its.toArray
    refine wpAny_pyNext_enum_itemC DD he ⟨hit, p.isList⟩ hlt hne (by simpa using ⟨hne, Ne.symm hae⟩) fun v h' tk hP ho hit' hT hsz hk => ?_
    have ev : u = v := by
      have z : its.toArray[i]? = some v := hP
      rw [List.getElem?_toArray, hu] at z
      exact Option.some.inj z
    subst ev
    refine ⟨_, rfl, wpAny_letOwnedTupleGo_enum (s := { s with heap := h', toks := tk + 1 }) ho fun h'' he' sb => ?_⟩
    have hT2 : h''.get? s.heap.objs.size = some { cls := .type "tuple", data := .seq #[.int (k0 + (i : Nat)) tk, u] } := (sb.2 _ (Nat.ne_of_gt hel)).trans hT
    have new : ObjOk X.prog X.w (upd H s.heap.objs.size (.tup [.int (k0 + (i : Nat)), x])) h'' s.heap.objs.size (.tup [.int (k0 + (i : Nat)), x]) :=
      ⟨by show 2 ≤ sizeLine; decide, [.int (k0 + (i : Nat)) tk, u], .cons ⟨_, rfl⟩ (.cons ru .nil), ⟨_, hT2, rfl, _, rfl⟩⟩
    have I1 : Inv X pins σ (upd H s.heap.objs.size (.tup [.int (k0 + (i : Nat)), x])) { s with heap := h'', toks := tk + 1 } :=
      I.turnedNew (ch := [e, it]) (fun b ob hb q => (sb.2 b (fun z => hb (by simp [z]))).trans (hk b ob (fun z => hb (by simp [z])) (fun z => hb (by simp [z])) q)) hf (Nat.le_refl _) new
    refine ⟨.ref s.heap.objs.size, _, I1, rfl, ⟨_, x, rfl, I.hok.fresh (Nat.le_refl _), rfl, fun ys hy => by rw [I.list_inj hy hq]; exact hx⟩, ⟨⟨u, ?_⟩, hit'.1.at fun o q => (sb.2 it (Ne.symm hne)).trans q, hne, hai, hae⟩, fun b hb => ?_⟩
    · have e1 : k0 + ((i + 1 : Nat) : Int) = k0 + (i : Int) + 1 := by omega
      rw [e1]; exact he'
    · have hb' : b < s.heap.objs.size := by
        have e' : b = e ∨ b = it := by simpa using hb
        rcases e' with z | z
        · rw [z]; exact hel
        · rw [z]; exact hil
      rw [upd_ne (Nat.ne_of_lt hb')]
      exact (hf b hb).1
  done := by
    intro X hP hw hK hc i pins s σ H E I hf st hg
    subst hP hw hK
    obtain ⟨⟨old, he⟩, hit, hne, hai, hae⟩ := st
    obtain ⟨xs, hq, hx⟩ := hg
    obtain ⟨its, rv, p, hz⟩ := I.list hq
    obtain ⟨f0, f1, f2, f3, f4, f5⟩ := hf it (by simp)
    have hl := rv.length
    have hi : i = its.toArray.size := by simp; omega
    subst hi
    have DD := Draws.list (prog := X.prog) (w := X.w) (A := X.A.in1) (I.ok.hd hc) it a hai its.toArray
    exact wpAny_pyNext_enum_endD DD he ⟨hit, p.isList⟩ fun h' eb => ⟨rfl, I.turned (t' := s.toks) (fun b o hb q => eb b o hb q) f0 f1 f3 f4 f5⟩
  self := fun A i s Q E st h => let ⟨⟨_, he⟩, _⟩ := st; wpAny_pyIter_enum he h
end Cy
namespace Cy
open PySem PySem.Spec PyProof.Rows L2
theorem callWith_typeKw {M : Model} {A : Around} {E : Value → Shared → Prop} {s : Shared} {pos : Pos} {id : String} {args : List (Bool × Sem Value)} {keywords : List (Option Str × Sem Value)} {Q : Value → Shared → Prop}
    (hplain : args.any (·.1) = false) (hkw : keywords.any (·.1.isNone) = false)
    (h : wpAny M A (evalArgs (.type id) true args keywords) (fun a s₁ => wpAny M A (call (.type id) a.pos a.kw) Q E s₁) E s) :
    wpAny M A (callWith pos (.type id) [] args keywords) Q E s := by
  unfold callWith
  refine wpAny_bind (wpAny_holding (wpAny_mono h (fun a s₁ h₁ => wpAny_bind (wpAny_standAt ?_)) fun _ _ x => x))
  simp only [hplain, hkw, Bool.or_false]
  refine wpAny_bind (wpAny_pure ?_)
  exact wpAny_bind (wpAny_mono h₁ (fun r s₂ hr => wpAny_bind (wpAny_holding (wpAny_point (wpAny_pure hr)))) fun _ _ x => x)
/-- the keywords' values -/
def tPK := @L2.tNil
def iEk (K : PySem.W.Frag) (ta : TA) (k0 : Int) : TI := fun σ H R => ta σ H fun vs H1 => match vs with
  | [.ref a] => (∃ xs, SqL K H1 a xs) ∧ R (Iek K k0 a) H1
  | _ => False
theorem pi_ek {X : Cx} {e : Expr} {ta : TA} {p pos tpos kpos p2 : Pos} {elts : List Expr} {kk j : Nat} {k0 : Int} (hg : Gl X "enumerate") (hm : X.mg "enumerate" = none) (ha : PA X [e] ta) (h0 : -(2 ^ 63) ≤ k0) (h1 : k0 < 2 ^ 63) (hs : starEach [e] X.env = [(false, eval e X.env)] := by rfl)
    (hk : backToKw pos (keywordEach [{ arg := some (PySem.Str.ofString "start"), value := .Constant (.int k0) j p2, pos := kpos }] X.env) = [(some (PySem.Str.ofString "start"), do let v ← eval (.Constant (.int k0) j p2) X.env; standAt pos; pure v)] := by rfl) :
    PI X (.Tuple elts kk tpos) (.Call (.Name "enumerate" p) [e] [{ arg := some (PySem.Str.ofString "start"), value := .Constant (.int k0) j p2, pos := kpos }] pos) (iEk X.K ta k0) := by
  refine ⟨fun pins s σ H R I h => ?_⟩
  refine wpAny_Call_Name_kw (ld_blt I hg hm boot_enumerate ?_)
  rw [hk]
  refine callWith_typeKw (by rw [hs] <;> rfl) rfl ?_
  have hA := ha.run pos pins s σ H _ I h
  rw [hs] at hA ⊢
  refine evalArgs_kwB rfl (thn hA fun us s1 ⟨vs, H1, I1, r1, q1⟩ => ?_)
  show wpAny _ _ (evalAll [_]) _ _ _
  match vs, r1, q1 with
  | [.ref a], r1, q =>
    obtain ⟨⟨xs, hq⟩, q⟩ := q
    cases r1 with
    | cons r rr =>
      cases rr
      cases r
      refine evalAll_cons (wpAny_bind (wpAny_Constant_int (wpAny_bind (wpAny_standAt (wpAny_pure ?_)))))
      refine evalAll_nil ?_
      have I2 : Inv X pins σ H1 { s1 with toks := s1.toks + 1 } := I1.tok _
      obtain ⟨its, rv, p', hz⟩ := I2.list hq
      refine enum_begins_start (begins_list a its.toArray) p'.isList h0 h1 fun h' he hit hsz hk => wpAny_pyIter_enum he ?_
      have hal : a < s1.heap.objs.size := by obtain ⟨_, e, _⟩ := p'.isList; exact Heap.lt_size e
      have I3 : Inv X pins σ H1 { s1 with heap := h', toks := s1.toks + 1 } := I1.kept (t' := s1.toks + 1) hk
      refine ⟨s1.heap.objs.size + 1, [s1.heap.objs.size + 1, s1.heap.objs.size], _, _, H1, rfl, I3, turn_ek k0 a (s1.heap.objs.size + 1) s1.heap.objs.size,
        ⟨⟨.none, by simpa using he⟩, ⟨_, hit, rfl, rfl⟩, Nat.succ_ne_self _, Nat.ne_of_lt hal, Nat.ne_of_lt (Nat.lt_succ_of_lt hal)⟩, fun b hb => ?_, q⟩
      have e' : b = s1.heap.objs.size + 1 ∨ b = s1.heap.objs.size := by simpa using hb
      have hle : s1.heap.objs.size ≤ b := by
        rcases e' with z | z
        · rw [z]; exact Nat.le_add_right _ _
        · rw [z]; exact Nat.le_refl _
      exact I1.fpOk hle (I1.hok.fresh hle)
end Cy
namespace Cy
open PySem PySem.Spec PyProof.Rows L2
/-- the promise of a call with keywords named ks -/
abbrev SpK := List V → List V → Hp → VK → XK → Prop
def FnK (g : Wd) (k : Nat) (f : Addr) (ks : List Str) (sp : SpK) : Prop :=
  ∀ (A : Around) (outer : List Env) (s : Shared) (H : Hp) (us ws : List Value) (vs zs : List V) (Q : VK) (E : XK), Room k A → Env0 g.P g.w g.K g.mg g.base A outer s H → Vals vs us → Vals zs ws → sp vs zs H Q E →
    codeAny (model g.P g.w) A (.call (.ref f) ⟨us, ks.zip ws⟩) (CR (L2.CX g.P g.w) outer g.P g.w H s Q E) s
theorem FnK.of {g : Wd} {k n : Nat} {f : Addr} {fd : FuncData} {ps ks : List Str} {sp : Sp} {gg : List Value → List Value → List Value} {gV : List V → List V → List V} (F : FnOk g.P g.w g.K g.mg g.base (L2.CX g.P g.w) k f fd ps sp) (hb : KBn g.K fd ps n ks gg gV) :
    FnK g k f ks (fun vs zs H Q E => vs.length = n ∧ zs.length = ks.length ∧ sp (gV vs zs) H Q E) := by
  intro A outer s H us ws vs zs Q E hr e0 r rz h
  obtain ⟨l1, l2, h⟩ := h
  have KX : g.K.In s.heap := e0.mod.kin.keeps fun b o e => (e0.bs b o e).1
  exact F.run A outer s H ⟨us, ks.zip ws⟩ (gg us ws) (gV vs zs) Q E hr e0 (hb.to s us ws KX (r.length.symm.trans l1) (rz.length.symm.trans l2)) (hb.rel r rz) h
section
variable {X : Cx} {W : WX} {j : Nat} {x : Str} {p pos : Pos} {e : Expr} {es : List Expr} {kws : List Keyword} {t tk : TA}
inductive CallKP (g : Wd) (j : Nat) (f : Addr) (ks : List Str) (vs zs : List V) (H : Hp) (Q : VK) (E : XK) : Prop where
  | by {k : Nat} {sp : SpK} (c : FnK g k f ks sp) (hk : k ≤ j) (h : sp vs zs H Q E)
def cCallK (g : Wd) (j : Nat) (W : WX) (f : Addr) (ks : List Str) (t tk : TA) : TE := fun σ H Q => t σ H fun vs H1 => tk σ H1 fun zs H2 => CallKP g j f ks vs zs H2 Q (fun cls d H' => W cls d σ H')
theorem pe_cCallK {ks : List Str} (tk' : Takes X W) (hr : Room j X.A) (hf : Gf (.of X) x) (hg : Gl X x) (ha : PA X (e :: es) t) (hkw : PK X kws tk) (hall : (backToKw pos (keywordEach kws X.env)).all (·.1.isSome) = true := by rfl)
    (hks : (backToKw pos (keywordEach kws X.env)).filterMap (·.1) = ks := by rfl)
    (hdb : (x == ("__debug__" : Str)) = false := by decide) (he : starEach (e :: es) X.env = (false, eval e X.env) :: starEach es X.env := by rfl)
    (hpl : ((backTo pos (starEach (e :: es) X.env)).any (·.1) || (backToKw pos (keywordEach kws X.env)).any (·.1.isNone)) = false := by rfl) :
    PE X (.Call (.Name x p) (e :: es) kws pos) (cCallK (.of X) j W (gad X.K x) ks t tk) := by
  refine ⟨fun pins s σ H Q I h => ?_⟩
  refine wpAny_Call_Name_kw (ld_glob I hg hf.mg ?_ hdb)
  refine PySem.W.callWith_KW (h₀ := X.base) I.ok.mod.kin hf.kp hall (thn (ha.run pos pins s σ H _ I h) fun us s1 ⟨vs, H1, I1, r, q⟩ => ?_) hpl he
  refine thn (hkw.run pos pins s1 σ H1 _ I1 q) fun ws s2 ⟨zs, H2, I2, rz, q2⟩ => ⟨I2.kIn, ?_⟩
  rw [hks]
  obtain ⟨c, hk, h⟩ := q2
  refine wpAny_call (codeAny_mono (c X.A X.stack s2 H2 us ws vs zs Q _ (hr.mono hk) I2.env0 r rz h) fun r s' hq => ?_)
  cases r with
  | error e => exact passAt tk' σ pins H2 s2 e s' I2 hq
  | ok fl =>
    cases fl with
    | ret u => exact I2.after hq
    | next => exact False.elim hq
    | brk => exact False.elim hq
    | cont => exact False.elim hq
end
section
variable {X : Cx} {x : Str} {pos : Pos}
inductive GvP (g : Wd) (x : Str) (H : Hp) (Q : VK) : Prop where
  | by {v : V} (h : ∃ u, g.mg x = some u ∧ RelV v u) (k : Q v H)
def cGv (g : Wd) (x : Str) : TE := fun _ H Q => GvP g x H Q
theorem pe_cGv (hg : Gl X x) (hd : (x == ("__debug__" : Str)) = false := by decide) : PE X (.Name x pos) (cGv (.of X) x) := by
  refine ⟨fun pins s σ H Q I h => ?_⟩
  obtain ⟨⟨u, hm, r⟩, k⟩ := h
  exact ld_glob I hg hm ⟨_, H, I, r, k⟩ hd
/-- C.f, a class's constant -/
inductive CvP (K : PySem.W.Frag) (f : Str) (x : V) (H : Hp) (Q : VK) : Prop where
  | by {C : Addr} {mc u : Value} {v : V} (ex : x = .ref C) (r : ClX.CRead K C mc) (k : ClX.CVal K C mc f v u) (q : Q v H)
def cCv (K : PySem.W.Frag) (ta : TE) (f : Str) : TE := fun σ H Q => ta σ H fun x H1 => CvP K f x H1 Q
theorem pe_cCv {e : Expr} {ta : TE} {f : Str} (he : PE X e ta) (hb : attributeBase e f X.env (eval e X.env) = eval e X.env := by rfl) : PE X (.Attribute e f pos) (cCv X.K ta f) := by
  refine ⟨fun pins s σ H Q I h => ?_⟩
  refine attr_of hb (thn (he.run pins s σ H _ I h) fun u s1 ⟨x, H1, I1, rx, q⟩ => ?_)
  obtain ⟨ex, r, k, q⟩ := q
  rename_i C mc w v
  subst ex
  obtain rfl : u = Value.ref C := rx
  exact ClX.getcval_ok I1 r k fun s2 I2 => ⟨v, H1, I2, k.rel, q⟩
end
end Cy
namespace Cy
open PySem PySem.Spec PyProof.Rows L2
abbrev Chk := PySem.W.Frag → Bool
/-- the __init__ with super() of the own error x -/
abbrev FnS : Type := Option (Str × Str × Arguments × FuncBody × Scope × Addr × List Str × Value × Addr)
def fnS (K : PySem.W.Frag) (x : Str) : FnS := match K.lookup (mad K (gad K x) "__init__") with
  | some ⟨_, _, .func fd, _⟩ => some (fd.name, fd.qualname, fd.params, fd.body, fd.scope, fd.globals, fd.closure.map (·.1), fd.defaults, fd.builtins)
  | _ => none
structure SupX where
  x : Str
  qual : Str
  params : Arguments
  body : List Stmt
  scope : Scope
def SupX.val (d : SupX) : FnS := some ("__init__", d.qual, d.params, .stmts d.body, d.scope, mainGlobals, ["__class__"], .none, builtinsNs)
/-- the getter of the property f of the class x -/
structure GetX where
  x : Str
  f : Str
  qual : Str
  params : Arguments
  body : List Stmt
  scope : Scope
def pad (K : PySem.W.Frag) (x f : Str) : Addr := mad K (gad K x) f
def pgt (K : PySem.W.Frag) (x f : Str) : Addr := match PySem.W.recIn K (pad K x f) "property" with
  | some (.ref a :: _) => a
  | _ => 0
def fnGx (K : PySem.W.Frag) (d : GetX) : He.FnW := match K.lookup (pgt K d.x d.f) with
  | some ⟨_, _, .func fd, _⟩ => some (fd.name, fd.qualname, fd.params, fd.body, fd.scope, fd.globals, fd.closure, fd.builtins)
  | _ => none
def GetX.val (d : GetX) : He.FnW := some (d.f, d.qual, d.params, .stmts d.body, d.scope, mainGlobals, [], builtinsNs)
abbrev AlC : Type := He.AlD × List Bool × List FnS × List He.FnW
def obsC (fa : List He.Fa) (fn : List He.DefD) (fc : List Chk) (fs : List SupX) (gs : List GetX) (K : PySem.W.Frag) : AlC := (He.obsD fa fn K, fc.map (fun c => c K), fs.map (fun d => fnS K d.x), gs.map (fnGx K))
def valC (fn : List He.DefD) (fc : List Chk) (fs : List SupX) (gs : List GetX) : AlC := (He.valD fn, fc.map (fun _ => true), fs.map SupX.val, gs.map GetX.val)
def SaysC (fa : List He.Fa) (fn : List He.DefD) (fc : List Chk) (fs : List SupX) (gs : List GetX) (K : PySem.W.Frag) : Prop := obsC fa fn fc fs gs K = valC fn fc fs gs
def obsCG (n : Nat) (fa : List He.Fa) (fn : List He.DefD) (fc : List Chk) (fs : List SupX) (gs : List GetX) (g : Addr → Option Obj) : AlC := obsC fa fn fc fs gs (He.frG g (He.asD g n ++ [cStatics]))
def hookC (n : Nat) (fa : List He.Fa) (fn : List He.DefD) (fc : List Chk) (fs : List SupX) (gs : List GetX) : PySem.W.Hook where
  α := AlC
  obs := fun s => obsCG n fa fn fc fs gs s.heap.get?
  val := fun _ => valC fn fc fs gs
  says := fun _ h => ∃ K : PySem.W.Frag, K.In h ∧ SaysC fa fn fc fs gs K
  of := fun _ _ e => ⟨_, He.frG_in, e⟩
  keeps := fun _ _ _ ⟨K, hK, c⟩ k => ⟨K, PySem.W.Frag.In.keeps hK k, c⟩
theorem obsCG_eq {n : Nat} {fa : List He.Fa} {fn : List He.DefD} {fc : List Chk} {fs : List SupX} {gs : List GetX} {g : Addr → Option Obj} {s : Shared} (h : ∀ a, g a = s.heap.get? a) : obsCG n fa fn fc fs gs g = (hookC n fa fn fc fs gs).obs s := by
  have e : g = s.heap.get? := funext h
  rw [e] <;> rfl
def TopOf (fa : List He.Fa) (fn : List He.DefD) (fc : List Chk) (fs : List SupX) (gs : List GetX) (P : Program) (g : Wd) : Prop := g.P = P ∧ ∃ h : Heap, g.K.In h ∧ h.Ns mainGlobals g.mg ∧ SaysC fa fn fc fs gs g.K
/-- what is asked of such an __init__ beside its text -/
def supB (x qual file : Str) : Chk := fun K => (match K.lookup (mad K (gad K x) "__init__") with
    | some ⟨_, _, .func fd, _⟩ => PySem.W.codeIn K fd.code qual && ((match fd.closure with
      | [(_, cc)] => (match K.lookup cc with
        | some ⟨_, _, .cell (some (.ref C)), _⟩ => decide (C = gad K x)
        | _ => false)
      | _ => false) && (match fd.code with
      | .ref cda => (match K.lookup cda with
        | some ⟨_, _, .fields vs, _⟩ => (match (vs[2]? : Option Value) with
          | some (Value.str f _) => decide (f = file)
          | _ => false)
        | _ => false)
      | _ => false))
    | _ => false) && (He.eqO (PySem.W.nsIn K mainGlobals "super") (some none) && (He.eqO (PySem.W.nsIn K cStatics "thirdparty.any") (some none) && (decide (PySem.W.mroIn K (gad K x) (.ref (gad K x)) = some true) &&
      (He.eqO (PySem.W.ks_superIn K (gad K x) (gad K x) "__init__") (some (some (.builtin "ValueError.__init__"))) && decide (PySem.W.subIn K (.ref (gad K x)) (.type "ValueError") = some true)))))
theorem supB_ok {P : Program} {K : PySem.W.Frag} {d : SupX} {file : Str} (e : fnS K d.x = d.val) (h : supB d.x d.qual file K = true) (hP : ((P.main.file : Str) == file) = true) (ht : (P.main.scope.names.lookup ("super" : Str)).isSome = false) :
    ∃ cc cdv, SupD P K (gad K d.x) (mad K (gad K d.x) "__init__") "__init__" d.qual d.params d.body d.scope cc cdv := by
  obtain ⟨h0, h⟩ := He.ba h
  obtain ⟨h1, h⟩ := He.ba h
  obtain ⟨h2, h⟩ := He.ba h
  obtain ⟨h3, h⟩ := He.ba h
  obtain ⟨h4, h5⟩ := He.ba h
  unfold fnS at e
  cases q : K.lookup (mad K (gad K d.x) "__init__") with
  | none => rw [q] at h0; cases h0
  | some o =>
    obtain ⟨oc, od, dt, osl⟩ := o
    rw [q] at h0 e
    cases dt with
    | func fd =>
      obtain ⟨n1, n2, n3, n4, n5, n6, n7, n8, n9, n10, n11, n12, n13, n14, n15⟩ := fd
      have e2 : (some (n1, n2, n3, n4, n5, n6, n7.map (·.1), n8, n15) : FnS) = some (("__init__" : Str), d.qual, d.params, .stmts d.body, d.scope, mainGlobals, [("__class__" : Str)], .none, builtinsNs) := e
      simp only [Option.some.injEq, Prod.mk.injEq] at e2
      obtain ⟨e1, e2, e3, e4, e5, e6, e7, e8, e9⟩ := e2
      obtain ⟨c1, h0⟩ := He.ba h0
      obtain ⟨c2, c3⟩ := He.ba h0
      dsimp only at c1 c2 c3
      match n7, e7, c2 with
      | [(y, cc)], e7, c2 =>
        have ey : y = "__class__" := by simpa using e7
        subst e1 e2 e3 e4 e5 e6 e8 e9 ey
        refine ⟨cc, n13, ⟨oc, od, n9, n10, n11, n12, n14, osl, q⟩, c1, ?_, ?_, He.eqO_ok h1, He.eqO_ok h2, of_decide_eq_true h3, He.eqO_ok h4, of_decide_eq_true h5, ht⟩
        · cases n13 with
          | ref cda =>
            dsimp only at c3
            split at c3
            · rename_i ccl cdd vs ccs el
              split at c3
              · rename_i f tf ev
                have ef : f = file := of_decide_eq_true c3
                exact ⟨cda, ccl, cdd, vs, ccs, f, tf, rfl, el, ev, by rw [ef]; exact hP⟩
              · cases c3
            · cases c3
          | _ => cases c3
        · dsimp only at c2
          split at c2
          · rename_i cl cld C csl el
            have eC : C = gad K d.x := of_decide_eq_true c2
            rw [eC] at el
            exact ⟨_, _, _, el⟩
          · cases c2
    | _ => cases h0
def getB (x f qual : Str) : Chk := fun K => PySem.W.keepIn K (.ref (pgt K x f)) && (match K.lookup (pgt K x f) with
  | some ⟨_, _, .func fd, _⟩ => PySem.W.codeIn K fd.code qual && He.dflB K fd.defaults []
  | _ => false)
theorem getB_ok {K : PySem.W.Frag} {d : GetX} (e : fnGx K d = d.val) (c : getB d.x d.f d.qual K = true) : ∃ fd, FunD K d.f d.qual d.params d.body d.scope [] [] (pgt K d.x d.f) fd := by
  obtain ⟨kp, c2⟩ := He.ba c
  unfold fnGx at e
  cases q : K.lookup (pgt K d.x d.f) with
  | none =>
    rw [q] at c2
    cases c2
  | some o =>
    obtain ⟨oc, od, dt, osl⟩ := o
    rw [q] at c2 e
    cases dt with
    | func fd =>
      obtain ⟨n1, n2, n3, n4, n5, n6, n7, n8, n9, n10, n11, n12, n13, n14, n15⟩ := fd
      have e2 : (some (n1, n2, n3, n4, n5, n6, n7, n15) : He.FnW) = some (d.f, d.qual, d.params, .stmts d.body, d.scope, mainGlobals, [], builtinsNs) := e
      simp only [Option.some.injEq, Prod.mk.injEq] at e2
      obtain ⟨h1, h2, h3, h4, h5, h6, h7, h8⟩ := e2
      subst h1 h2 h3 h4 h5 h6 h7 h8
      obtain ⟨k1, k2⟩ := He.ba c2
      exact ⟨_, ⟨oc, od, n8, n9, n10, n11, n12, n13, n14, osl, rfl, q, k1, He.dflB_ok k2, .inl rfl⟩, kp⟩
    | _ => cases c2
section
variable {fa : List He.Fa} {fn : List He.DefD} {fc : List Chk} {fs : List SupX} {gs : List GetX} {P : Program} {g : Wd}
theorem SaysC.d {K : PySem.W.Frag} (c : SaysC fa fn fc fs gs K) : He.SaysD fa fn K := congrArg (fun z : AlC => z.1) c
theorem TopOf.chk (T : TopOf fa fn fc fs gs P g) (i : Nat) {c : Chk} (h : fc[i]? = some c := by rfl) : c g.K = true := by
  obtain ⟨_, _, _, _, c0⟩ := T
  have e : (fc.map fun c => c g.K) = fc.map fun _ => true := congrArg (fun z : AlC => z.2.1) c0
  have e2 : (fc.map fun c => c g.K)[i]? = (fc.map fun _ => true)[i]? := by rw [e]
  rw [List.getElem?_map, List.getElem?_map, h] at e2
  exact Option.some.inj e2
theorem TopOf.sup (T : TopOf fa fn fc fs gs P g) (i j : Nat) {d : SupX} {file : Str} (h : fs[i]? = some d := by rfl) (h2 : fc[j]? = some (supB d.x d.qual file) := by rfl) (hP : ((P.main.file : Str) == file) = true := by decide +kernel)
    (ht : (P.main.scope.names.lookup ("super" : Str)).isSome = false := by decide +kernel) : ∃ cc cdv, SupD g.P g.K (gad g.K d.x) (mad g.K (gad g.K d.x) "__init__") "__init__" d.qual d.params d.body d.scope cc cdv := by
  have c := T.chk j h2
  obtain ⟨rfl, _, _, _, c0⟩ := T
  have e : (fs.map fun d => fnS g.K d.x) = fs.map SupX.val := congrArg (fun z : AlC => z.2.2.1) c0
  have e2 : (fs.map fun d => fnS g.K d.x)[i]? = (fs.map SupX.val)[i]? := by rw [e]
  rw [List.getElem?_map, List.getElem?_map, h] at e2
  exact supB_ok (Option.some.inj e2) c hP ht
theorem TopOf.get (T : TopOf fa fn fc fs gs P g) (i j : Nat) {d : GetX} (h : gs[i]? = some d := by rfl) (h2 : fc[j]? = some (getB d.x d.f d.qual) := by rfl) : ∃ fd, FunD g.K d.f d.qual d.params d.body d.scope [] [] (pgt g.K d.x d.f) fd := by
  have c := T.chk j h2
  obtain ⟨rfl, _, _, _, c0⟩ := T
  have e : gs.map (fnGx g.K) = gs.map GetX.val := congrArg (fun z : AlC => z.2.2.2) c0
  have e2 : (gs.map (fnGx g.K))[i]? = (gs.map GetX.val)[i]? := by rw [e]
  rw [List.getElem?_map, List.getElem?_map, h] at e2
  exact getB_ok (Option.some.inj e2) c
theorem TopOf.fact (T : TopOf fa fn fc fs gs P g) (i : Nat) {f : He.Fa} (h : fa[i]? = some f := by rfl) : f.ok g.K = true := by
  obtain ⟨_, _, _, _, c⟩ := T
  exact c.d.fact i h
theorem TopOf.gf (T : TopOf fa fn fc fs gs P g) (i j : Nat) {x : Str} (h : fa[i]? = some (.glo x) := by rfl) (h2 : fa[j]? = some (.keep x) := by rfl) : Gf g x :=
  ⟨by obtain ⟨_, _, X, G, c⟩ := T; exact He.glo_ok X G (c.d.fact i h), He.keep_ok (T.fact j h2)⟩
theorem TopOf.gv (T : TopOf fa fn fc fs gs P g) (i : Nat) {x : Str} (h : fa[i]? = some (.glo x) := by rfl) : ∃ u, g.mg x = some u ∧ RelV (.ref (gad g.K x)) u := by
  obtain ⟨_, _, X, G, c⟩ := T
  exact ⟨_, He.glo_ok X G (c.d.fact i h), rfl⟩
theorem TopOf.gi (T : TopOf fa fn fc fs gs P g) (i : Nat) {x : Str} {n : Int} (h : fa[i]? = some (.int x n) := by rfl) : ∃ u, g.mg x = some u ∧ RelV (.int n) u := by
  obtain ⟨_, _, X, G, c⟩ := T
  obtain ⟨t, e⟩ := He.int_ok X G (c.d.fact i h)
  exact ⟨_, e, t, rfl⟩
theorem TopOf.gst (T : TopOf fa fn fc fs gs P g) (i : Nat) {x z : Str} (h : fa[i]? = some (.str x z) := by rfl) : ∃ u, g.mg x = some u ∧ RelV (.str z) u := by
  obtain ⟨_, _, X, G, c⟩ := T
  obtain ⟨t, e⟩ := He.str_ok X G (c.d.fact i h)
  exact ⟨_, e, t, rfl⟩
theorem TopOf.blt (T : TopOf fa fn fc fs gs P g) (i : Nat) {x : Str} (h : fa[i]? = some (.free x) := by rfl) : g.mg x = none := by
  obtain ⟨_, _, X, G, c⟩ := T
  exact He.free_ok X G (c.d.fact i h)
theorem TopOf.cls (T : TopOf fa fn fc fs gs P g) (i : Nat) {x : Str} (h : fa[i]? = some (.cls x) := by rfl) : Cls g.K (gad g.K x) := He.cls_ok (T.fact i h)
theorem TopOf.noat (T : TopOf fa fn fc fs gs P g) (i : Nat) {x f : Str} (h : fa[i]? = some (.noat x f) := by rfl) : NoAttr g.K (gad g.K x) f := He.noat_ok (T.fact i h)
theorem TopOf.meth (T : TopOf fa fn fc fs gs P g) (i : Nat) {x m : Str} (h : fa[i]? = some (.meth x m) := by rfl) : Meth g.K (gad g.K x) m (mad g.K (gad g.K x) m) := He.meth_ok (T.fact i h)
theorem TopOf.mkr (T : TopOf fa fn fc fs gs P g) (i : Nat) {x : Str} (h : fa[i]? = some (.mkr x) := by rfl) : Mk g.K (gad g.K x) (mad g.K (gad g.K x) "__init__") := He.mkr_ok (T.fact i h)
theorem TopOf.exm (T : TopOf fa fn fc fs gs P g) (i : Nat) {x y : Str} {b : Bool} (h : fa[i]? = some (.exm x y b) := by rfl) : PySem.W.exmOne g.K (.ref (gad g.K x)) (.ref (gad g.K y)) = some b := He.exm_ok (T.fact i h)
theorem TopOf.dat (T : TopOf fa fn fc fs gs P g) (i : Nat) {d : He.DefD} (h : fn[i]? = some d := by rfl) : ∃ fd, FunD g.K d.name d.qual d.params d.body d.scope (d.dvs g.K) (d.kws g.K) (He.fAd g.K d.at_) fd := by
  obtain ⟨_, _, X, G, c⟩ := T
  exact c.d.def_ i h
end
def propB (x f : Str) : Chk := fun K => He.eqO (PySem.W.findIn K (.ref (gad K x)) f) (some (some (.ref (pad K x f)))) && (He.eqO (PySem.W.specialIn K (.ref (pad K x f)) "__get__") (some (some (.builtin "property.__get__"))) &&
  (decide (PySem.W.takesIn K (.ref (pad K x f)) = some true) && (match PySem.W.recIn K (pad K x f) "property" with
    | some (.ref a :: _) => true
    | _ => false)))
theorem propB_ok {K : PySem.W.Frag} {x f : Str} (h : propB x f K = true) : PropOf K (gad K x) f (pad K x f) (pgt K x f) := by
  obtain ⟨h1, h⟩ := He.ba h
  obtain ⟨h2, h⟩ := He.ba h
  obtain ⟨h3, h4⟩ := He.ba h
  refine ⟨He.eqO_ok h1, He.eqO_ok h2, of_decide_eq_true h3, ?_⟩
  unfold pgt
  split at h4
  · rename_i a r e
    rw [e]
    exact ⟨r, rfl⟩
  · cases h4
/-- a function at a found place: what it is -/
def fnAtB (ad : PySem.W.Frag → Addr) (name qual : Str) (params : Arguments) (body : List Stmt) (scope : Scope) : PySem.W.Frag → He.FnW := fun K => match K.lookup (ad K) with
  | some ⟨_, _, .func fd, _⟩ => some (fd.name, fd.qualname, fd.params, fd.body, fd.scope, fd.globals, fd.closure, fd.builtins)
  | _ => none
/-- isinstance answers b -/
def kitC (x y : Str) (b : Bool) : Chk := fun K => decide (PySem.W.kitOne K (.ref (gad K x)) (.ref (gad K y)) = some b)
theorem kitC_ok {K : PySem.W.Frag} {x y : Str} {b : Bool} (h : kitC x y b K = true) : PySem.W.kitOne K (.ref (gad K x)) (.ref (gad K y)) = some b := of_decide_eq_true h
def kitT (x : Str) (n : String) (b : Bool) : Chk := fun K => decide (PySem.W.kitOne K (.ref (gad K x)) (.type n) = some b)
theorem kitT_ok {K : PySem.W.Frag} {x : Str} {n : String} {b : Bool} (h : kitT x n b K = true) : PySem.W.kitOne K (.ref (gad K x)) (.type n) = some b := of_decide_eq_true h
/-- an own error -/
def oexB (x : Str) : Chk := fun K => (match K.lookup (gad K x) with
    | some ⟨.type "type", dd, .cls cd, ⟨[k0, k1, k2, k3, some (.builtin n), k5]⟩⟩ => (match cd.mro with
      | .ref C' :: bm => decide (C' = gad K x) && (decide (n = "ValueError.__new__") && (cd.hasDict && (!cd.hasDel && PySem.HandSPX.refsVE bm)))
      | _ => false)
    | _ => false) && (He.eqO (PySem.W.findIn K (.ref (gad K x)) "__setattr__") (some (some (.builtin "object.__setattr__"))) && (decide (PySem.W.subIn K (.ref (gad K x)) (.type "BaseException") = some true) &&
      (decide (PySem.W.typeIn K (.ref (gad K x)) = some (.type "type")) && PySem.W.keepIn K (.ref (gad K x)))))
theorem oexB_ok {K : PySem.W.Frag} {x : Str} (h : oexB x K = true) : OexC K (gad K x) := by
  obtain ⟨h0, h⟩ := He.ba h
  obtain ⟨h1, h⟩ := He.ba h
  obtain ⟨h2, h⟩ := He.ba h
  obtain ⟨h3, h4⟩ := He.ba h
  refine ⟨?_, He.eqO_ok h1, of_decide_eq_true h2, of_decide_eq_true h3, h4⟩
  split at h0
  · rename_i dd cd k0 k1 k2 k3 n k5 e
    split at h0
    · rename_i C' bm em
      obtain ⟨a1, h0⟩ := He.ba h0
      obtain ⟨a2, h0⟩ := He.ba h0
      obtain ⟨a3, h0⟩ := He.ba h0
      obtain ⟨a4, a5⟩ := He.ba h0
      have e1 : C' = gad K x := of_decide_eq_true a1
      have e2 : n = "ValueError.__new__" := of_decide_eq_true a2
      obtain ⟨nm, bs, mro, ns, qn, hd, sn, sub, ab, col, del⟩ := cd
      dsimp only at em a3 a4
      subst em a3
      have a4 : del = false := by simpa using a4
      subst a4 e2
      rw [e1] at e
      exact ⟨nm, qn, ns, bs, bm, sn, sub, ab, col, dd, k0, k1, k2, k3, k5, e, a5⟩
    · cases h0
  · cases h0
/-- the __init__ of an own error -/
def einB (x : Str) : Chk := fun K => He.eqO (PySem.W.findIn K (.ref (gad K x)) "__init__") (some (some (.ref (mad K (gad K x) "__init__")))) && decide (PySem.W.typeIn K (.ref (mad K (gad K x) "__init__")) = some (.type "function"))
theorem einB_ok {K : PySem.W.Frag} {x : Str} (h : einB x K = true) : PySem.W.findIn K (.ref (gad K x)) "__init__" = some (some (.ref (mad K (gad K x) "__init__"))) ∧ PySem.W.typeIn K (.ref (mad K (gad K x) "__init__")) = some (.type "function") :=
  ⟨He.eqO_ok (He.ba h).1, of_decide_eq_true (He.ba h).2⟩
def xfC (x : Str) : Chk := fun K => xfB K (gad K x)
theorem xfC_ok {K : PySem.W.Frag} {x : Str} (h : xfC x K = true) : XfC K (gad K x) := xfB_ok h
def excB (x : Str) : Chk := fun K => He.eqO (PySem.W.findIn K (.ref (gad K x)) "__getattribute__") (some (some (.builtin "BaseException.__getattribute__"))) && (He.eqO (PySem.W.findIn K (.ref (gad K x)) "__getattr__") (some none) &&
  (decide (PySem.W.subIn K (.ref (gad K x)) (.type "BaseException") = some true) && (PySem.W.hasDictIn K (gad K x) && (He.eqO (PySem.W.findIn K (.ref (gad K x)) "__class__") (some (some (.builtin "object.__class__"))) &&
    (He.eqO (PySem.W.specialIn K (.builtin "object.__class__") "__get__") (some (some (.builtin "getset_descriptor.__get__"))) && (decide (PySem.W.takesIn K (.builtin "object.__class__") = some true) && decide (PySem.W.mroIn K (gad K x) (.type "object") = some true)))))))
theorem excB_ok {K : PySem.W.Frag} {x : Str} (h : excB x K = true) : ExcC K (gad K x) := by
  obtain ⟨h1, h⟩ := He.ba h
  obtain ⟨h2, h⟩ := He.ba h
  obtain ⟨h3, h⟩ := He.ba h
  obtain ⟨h4, h⟩ := He.ba h
  obtain ⟨h5, h⟩ := He.ba h
  obtain ⟨h6, h⟩ := He.ba h
  obtain ⟨h7, h8⟩ := He.ba h
  exact ⟨He.eqO_ok h1, He.eqO_ok h2, of_decide_eq_true h3, h4, He.eqO_ok h5, He.eqO_ok h6, of_decide_eq_true h7, of_decide_eq_true h8⟩
/-- a class's constant -/
def cvalB (x f : Str) (i : Int) : Chk := fun K => PySem.W.readsIn K (gad K x) (.type "type") && (He.eqO (PySem.W.specialIn K (.ref (gad K x)) "__getattribute__") (some (some (.builtin "type.__getattribute__"))) && (match PySem.W.findCls K (.ref (gad K x)) (.type "type") f with
  | some (.val (.int j _)) => decide (j = i)
  | _ => false))
theorem cvalB_ok {K : PySem.W.Frag} {x f : Str} {i : Int} (h : cvalB x f i K = true) : ∃ u, ClX.CRead K (gad K x) (.type "type") ∧ ClX.CVal K (gad K x) (.type "type") f (.int i) u := by
  obtain ⟨h1, h⟩ := He.ba h
  obtain ⟨h2, h3⟩ := He.ba h
  split at h3
  · rename_i j t e
    have ej : j = i := of_decide_eq_true h3
    subst ej
    exact ⟨_, ⟨h1, He.eqO_ok h2⟩, ⟨e, _, rfl⟩⟩
  · cases h3
/-- an own __add__, __len__ -/
def dunB (x m : Str) : Chk := fun K => He.eqO (PySem.W.findIn K (.ref (gad K x)) m) (some (some (.ref (mad K (gad K x) m)))) && PySem.W.isFn K (.ref (mad K (gad K x) m))
theorem dunB_ok {K : PySem.W.Frag} {x m : Str} (h : dunB x m K = true) : PySem.W.findIn K (.ref (gad K x)) m = some (some (.ref (mad K (gad K x) m))) ∧ PySem.W.isFn K (.ref (mad K (gad K x) m)) = true := ⟨He.eqO_ok (He.ba h).1, (He.ba h).2⟩
def selfB (x : Str) : Chk := fun K => PySem.W.selfFirst K (gad K x)
theorem ite_i {b : Bool} {A B : Prop} (h1 : b = true → A) (h2 : b = false → B) : if b = true then A else B := by
  cases b with
  | true => exact h1 rfl
  | false => exact h2 rfl
theorem dt {p : Prop} [Decidable p] (h : decide p = true) : p := of_decide_eq_true h
theorem df {p : Prop} [Decidable p] (h : decide p = false) : ¬p := of_decide_eq_false h
end Cy
namespace Cy
open PySem PySem.Spec PyProof.Rows L2
/-- what a loop walks: a list, a tuple, a text -/
inductive SeqP (K : PySem.W.Frag) (x : V) (H : Hp) (R : It → Hp → Prop) : Prop where
  | l {a : Addr} {xs : List V} (e : x = .ref a) (h : SqL K H a xs) (k : R (Itl K a) H)
  | t {a : Addr} {xs : List V} (e : x = .ref a) (h : SqT K H a xs) (k : R (Itt K a) H)
  | s {y : Str} (e : x = .str y) (k : R (Its y) H)
def iSeq (K : PySem.W.Frag) (tl : TE) : TI := fun σ H R => tl σ H fun x H1 => SeqP K x H1 R
theorem pi_seq {X : Cx} {tg l : Expr} {tl : TE} (hl : PE X l tl) : PI X tg l (iSeq X.K tl) := by
  refine ⟨fun pins s σ H R I h => ?_⟩
  refine thn (hl.run pins s σ H _ I h) fun v s1 ⟨x, H1, I1, r1, q1⟩ => ?_
  cases q1 with
  | l e hq q =>
    rename_i a xs
    subst e
    cases r1
    obtain ⟨its, rv, p, hz⟩ := I1.list hq
    refine wpAny_pyIter_list p.isList ?_
    refine ⟨s1.heap.objs.size, [s1.heap.objs.size], _, _, H1, rfl, I1.kept (t' := s1.toks) fun b o e => Heap.get?_push_of_some _ e, turn_list a _, ⟨_, Heap.get?_push_size _ rfl, rfl, rfl⟩, fun b hb => ?_, q⟩
    have e : b = s1.heap.objs.size := by simpa using hb
    subst e
    exact I1.fpOk (Nat.le_refl _) (I1.hok.fresh (Nat.le_refl _))
  | t e hq q =>
    rename_i a xs
    subst e
    cases r1
    obtain ⟨its, rv, p, hz⟩ := I1.tuple hq
    refine wpAny_pyIter_tuple (show s1.heap.IsTuple a its.toArray from p) ?_
    refine ⟨s1.heap.objs.size, [s1.heap.objs.size], _, _, H1, rfl, I1.kept (t' := s1.toks) fun b o e => Heap.get?_push_of_some _ e, turn_tuple a _, ⟨_, Heap.get?_push_size _ rfl, rfl, rfl⟩, fun b hb => ?_, q⟩
    have e : b = s1.heap.objs.size := by simpa using hb
    subst e
    exact I1.fpOk (Nat.le_refl _) (I1.hok.fresh (Nat.le_refl _))
  | s e q =>
    rename_i x
    subst e
    obtain ⟨t, rfl⟩ := r1
    cases ha : x.cps.all (· < 128)
    · exact wpAny_pyIter_wide ha (pi_one (tk := s1.toks) I1 _ (turn_str _ x t "str_iterator" (.inr rfl)) ⟨_, Heap.get?_push_size _ rfl, rfl, rfl⟩ q)
    · exact wpAny_pyIter_ascii ha (pi_one (tk := s1.toks) I1 _ (turn_str _ x t "str_ascii_iterator" (.inl rfl)) ⟨_, Heap.get?_push_size _ rfl, rfl, rfl⟩ q)
/-- a formatted part by values -/
def cFmt (te : TE) : TE := fun σ H Q => te σ H fun x H1 => match x with
  | .str y => y.length ≤ sizeLine ∧ Q (.str y) H1
  | .int i => i.natAbs.log2 < 1920 ∧ Q (.str (toString i)) H1
  | _ => False
theorem pe_cFmt {X : Cx} {e : Expr} {te : TE} {pos : Pos} (he : PE X e te) : PE X (.FormattedValue e (-1) none pos) (cFmt te) := by
  refine ⟨fun pins s σ H Q I h => ?_⟩
  refine wpAny_FormattedValue_plain (thn (he.run pins s σ H _ I h) fun v s1 hv => ?_)
  obtain ⟨x, H1, I1, r1, q⟩ := hv
  cases x <;> first
    | exact (show False from q).elim
    | skip
  · obtain ⟨t, rfl⟩ := r1
    exact wpAny_formatField_int q.1 ⟨.str (toString _), H1, I1.tok _, ⟨_, rfl⟩, q.2⟩
  · obtain ⟨t, rfl⟩ := r1
    exact wpAny_formatField_str ⟨.str _, H1, I1, ⟨t, rfl⟩, q.2⟩ ⟨.str _, H1, I1.tok _, ⟨_, rfl⟩, q.2⟩ q.1
/-- the parts of an f-string by values -/
def cJs : List TE → Str → St → Hp → (Str → Hp → Prop) → Prop
  | [], acc, _, H, Q => Q acc H
  | t :: ts, acc, σ, H, Q => t σ H fun x H1 => match x with
    | .str y => (acc ++ y).length ≤ sizeLine ∧ cJs ts (acc ++ y) σ H1 Q
    | _ => False
def cJoin (ts : List TE) : TE := fun σ H Q => cJs ts Str.empty σ H fun out H1 => Q (.str out) H1
theorem cj_run {X : Cx} {pins : List (Addr × Obj)} {σ : St} {es : List Expr} {ts : List TE} (h : PJ X es ts) : ∀ (acc : Str) (s : Shared) (H : Hp) (Q : Str → Hp → Prop) (R : Str → Shared → Prop), acc.length ≤ sizeLine → Inv X pins σ H s → cJs ts acc σ H Q →
    (∀ out s1 H1, out.length ≤ sizeLine → Inv X pins σ H1 s1 → Q out H1 → R out s1) → Joins (model X.prog X.w) X.A X.xe (evalEach es X.env) acc R s := by
  induction h with
  | nil =>
    intro acc s H Q R hz I q k
    have e0 : evalEach [] X.env = [] := by first | rfl | simp [evalEach]
    rw [e0]
    exact k acc s H hz I q
  | @cons e t es ts he r ih =>
    intro acc s H Q R hz I q k
    have e0 : evalEach (e :: es) X.env = eval e X.env :: evalEach es X.env := by first | rfl | simp [evalEach]
    rw [e0]
    refine thn (he.run pins s σ H _ I q) fun v s1 hv => ?_
    obtain ⟨x, H1, I1, r1, q1⟩ := hv
    cases x <;> first
      | exact (show False from q1).elim
      | skip
    rename_i y
    obtain ⟨hy, q1⟩ : (acc ++ y).length ≤ sizeLine ∧ cJs ts (acc ++ y) σ H1 Q := q1
    obtain ⟨tk, rfl⟩ := r1
    exact ⟨y, tk, rfl, hy, ih (acc ++ y) s1 H1 Q R hy I1 q1 k⟩
theorem pe_cJoin {X : Cx} {v1 v2 : Expr} {rest : List Expr} {ts : List TE} {pos : Pos} (h : PJ X (v1 :: v2 :: rest) ts) : PE X (.JoinedStr (v1 :: v2 :: rest) pos) (cJoin ts) := by
  refine ⟨fun pins s σ H Q I q => ?_⟩
  exact wpAny_JoinedStr (cj_run h Str.empty s H (fun out H1 => Q (.str out) H1) _ (Nat.zero_le _) I q fun out s1 H1 hz I1 q1 => ⟨hz, .str out, H1, I1.tok _, ⟨_, rfl⟩, q1⟩)
/-- targets by values -/
def cgCons (t : TG) (u : TGs) : TGs := fun vs σ H Q => match vs with
  | v :: r => t v σ H fun σ' H' => u r σ' H' Q
  | [] => False
def cgNil : TGs := fun vs σ H Q => match vs with
  | [] => Q σ H
  | _ => False
inductive UnpP (K : PySem.W.Frag) (n : Nat) (v : V) (H : Hp) (R : List V → Prop) : Prop where
  | t {a : Addr} {xs : List V} (e : v = .ref a) (h : SqT K H a xs) (hl : xs.length = n) (k : R xs)
def cgTup (K : PySem.W.Frag) (n : Nat) (t : TGs) : TG := fun v σ H Q => UnpP K n v H fun xs => t xs σ H Q
section
variable {X : Cx} {e : Expr} {es : List Expr} {pos : Pos}
theorem pgs_cnil : PGs X [] cgNil := ⟨fun pins s σ H vs us Q I r h => by
  match vs, h with
  | [], h => exact pgs_nil.run pins s σ H [] us Q I r ⟨rfl, h⟩⟩
theorem pgs_ccons {t : TG} {u : TGs} (h1 : PG X e t) (h2 : PGs X es u) (hs : (assignEach (e :: es) X.env).map (·.2) = assign e X.env :: (assignEach es X.env).map (·.2) := by rfl) : PGs X (e :: es) (cgCons t u) := ⟨fun pins s σ H vs us Q I r h => by
  match vs, h with
  | v :: vr, h => exact (pgs_cons h1 h2 hs).run pins s σ H _ us Q I r ⟨v, vr, rfl, h⟩⟩
theorem pg_ctup {k : Nat} {t : TGs} {n : Nat} (hc : X.calm = true) (h : PGs X es t) (hn : (assignEach es X.env).length = n := by rfl) (hst : (assignEach es X.env).findIdx? (·.1) = none := by rfl) : PG X (.Tuple es k pos) (cgTup X.K n t) := ⟨fun pins s σ H v u Q I r hw => by
  obtain ⟨ev, hx, hl, k⟩ := hw
  exact (pg_tup hc h hn hst).run pins s σ H v u Q I r ⟨_, _, ev, hx, hl, k⟩⟩
end
end Cy
namespace Cy
open PySem PySem.Spec PyProof.Rows L2
/-- a class whose instances are made by object's __init__ -/
structure MkZ (K : PySem.W.Frag) (C : Addr) : Prop where
  makes : PySem.W.makesIn K C = true
  init : PySem.W.findIn K (.ref C) "__init__" = some (some (.builtin "object.__init__"))
def mkzB (x : Str) : Chk := fun K => PySem.W.makesIn K (gad K x) && He.eqO (PySem.W.findIn K (.ref (gad K x)) "__init__") (some (some (.builtin "object.__init__")))
theorem mkzB_ok {K : PySem.W.Frag} {x : Str} (h : mkzB x K = true) : MkZ K (gad K x) := ⟨(He.ba h).1, He.eqO_ok (He.ba h).2⟩
section
variable {X : Cx} {W : WX} {j : Nat} {x : Str} {p pos : Pos}
theorem run_makeZ {C : Addr} {pins : List (Addr × Obj)} {σ : St} {H : Hp} {s : Shared} {Q : VK} (I : Inv X pins σ H s) (M : MkZ X.K C)
    (h : ∀ x dx, H x = none → H dx = none → dx ≠ x → Q (.ref x) (upd (upd H dx (.own x)) x (.ins C dx []))) :
    wpAny (model X.prog X.w) X.A (call (.ref C) []) (EP X pins σ Q) X.xe s := by
  have hq := h (s.heap.objs.size + 1) s.heap.objs.size (I.hok.fresh (Nat.le_succ _)) (I.hok.fresh (Nat.le_refl _)) (Nat.ne_of_lt (Nat.lt_succ_self _))
  have I2 := Inv.made (C := C) I
  refine wpAny_call (make_map0 I.kIn M.makes M.init (fun self => PySem.W.Looks.of_pure (PySem.W.oi_bind _)) ?_)
  have X2 := I2.kIn
  have ho : ((s.heap.push PySem.W.emptyDict).push (PySem.W.instObj C s.heap.objs.size)).get? (s.heap.objs.size + 1) = some (PySem.W.instObj C s.heap.objs.size) := by
    have := Heap.get?_push_size (s.heap.push PySem.W.emptyDict) (o := PySem.W.instObj C s.heap.objs.size) rfl
    rwa [Heap.size_push] at this
  have t1 : PySem.W.Looks (model X.prog X.w) ((s.heap.push PySem.W.emptyDict).push (PySem.W.instObj C s.heap.objs.size)) (typeOf (.ref (s.heap.objs.size + 1))) (.ref C) := NwA.type_at ho rfl
  have t2 : PySem.W.Looks (model X.prog X.w) ((s.heap.push PySem.W.emptyDict).push (PySem.W.instObj C s.heap.objs.size)) (isInstance (.ref (s.heap.objs.size + 1)) (.type "object")) true := t1.andThen (PySem.W.looks_mroIn X2 (mro_obj M.makes))
  refine codeAny_call_builtin PySem.W.oi_plain PySem.W.entry_oi (@PySem.W.check_slot (model X.prog X.w) _ _ _ "object.__init__" "object" "__init__" (.ref _) [] [] _ PySem.W.oi_kind PySem.W.oi_split t2 (NwA.oi_args_any (.ref _) [] []) ?_)
  rw [PySem.W.oi_run]
  exact wpAny_pure ⟨rfl, ⟨V.ref (s.heap.objs.size + 1), _, I2, rfl, hq⟩⟩
inductive New0P (g : Wd) (j : Nat) (C : Addr) (H : Hp) (Q : VK) (E : XK) : Prop where
  | own (m : MakeP g j C [] H Q E)
  | obj (M : MkZ g.K C) (h : ∀ x dx, H x = none → H dx = none → dx ≠ x → Q (.ref x) (upd (upd H dx (.own x)) x (.ins C dx [])))
def cNew0 (g : Wd) (j : Nat) (W : WX) (C : Addr) : TE := fun σ H Q => New0P g j C H Q (fun cls d H' => W cls d σ H')
theorem pe_cNew0 (tk : Takes X W) (hr : Room j X.A) (hf : Gf (.of X) x) (hg : Gl X x) (hdb : (x == ("__debug__" : Str)) = false := by decide) : PE X (.Call (.Name x p) [] [] pos) (cNew0 (.of X) j W (gad X.K x)) := by
  refine ⟨fun pins s σ H Q I h => ?_⟩
  refine wpAny_Call_Name_kw (ld_glob I hg hf.mg ?_ hdb)
  refine PySem.W.callWith_K0 I.kIn hf.kp ?_
  cases h with
  | own m => exact run_makeP (us := []) hr (passAt tk σ) I .nil m
  | obj M h => exact run_makeZ I M h
end
def cTry (K : PySem.W.Frag) (c : Value) (i : Nat) (tb : WX → TS) (ts : Addr → Value → Option Addr → TS) (Wout : WX) : TS := fun D σ H => tb (wAs K c i ts Wout D) D σ H
section
variable {X : Cx} {x n : Str} {c : Value} {i : Nat} {body suite : List Stmt} {b₀ : Stmt} {np pos pos' : Pos} {tb : WX → TS} {ts : Addr → Value → Option Addr → TS} {Wout : WX}
theorem ps_cTry (hs : X.stack = X.env :: X.outer) (hf : X.env.frame = some X.env.locals) (hN : X.N.Nodup) (hi : X.N[i]? = some n) (hln : X.env.kindOf n = some .local) (hc : Names X x c) (tk : Takes X Wout)
    (hb : ∀ (W : WX) (pn : List (Addr × Obj)) (xe : Value → Shared → Prop), Takes (X.tr pn xe) W → PassesOwn (model X.prog X.w) X.A X.env xe → PSs (X.tr pn xe) body (tb W))
    (hsu : ∀ (a : Addr) (oe : Obj) (cls : Value) (d : Option Addr) (pn : List (Addr × Obj)), Zc cls d oe → (∃ vs, oe.data = .fields vs) → PSs (X.suite a ((a, oe) :: pn)) (b₀ :: suite) (ts a cls d)) :
    PS X (.Try body [.ExceptHandler (some (.Name x np)) (some n) (b₀ :: suite) pos'] [] [] pos) (cTry X.K c i tb ts Wout) := ps_try_as hs hf hN hi hln hc tk hb hsu
end
theorem roomH_mark {k : Nat} {A : Around} {v : Option Value} (r : Room k A) : L2H.RoomH k (A.mark v) := ⟨r.dp, r.un⟩
theorem roomH_units {k : Nat} {A : Around} (r : L2H.RoomH k A) : A.units + 64 < cLine := by have := r.un; omega
/-- isinstance may ask its instances -/
def tyB (x : Str) : Chk := fun K => He.eqO (PySem.W.findIn K (.ref (gad K x)) "__class__") (some (some (.builtin "object.__class__"))) && (He.eqO (PySem.W.specialIn K (.builtin "object.__class__") "__get__") (some (some (.builtin "getset_descriptor.__get__"))) &&
  (decide (PySem.W.takesIn K (.builtin "object.__class__") = some true) && decide (PySem.W.mroIn K (gad K x) (.type "object") = some true)))
theorem tyB_ok {K : PySem.W.Frag} {x : Str} (h : tyB x K = true) (cl : Cls K (gad K x)) {H : Hp} {a dx : Addr} {fs : List (Str × V)} (e : H a = some (.ins (gad K x) dx fs)) : TyX K H (.ref a) (.ref (gad K x)) := by
  obtain ⟨h1, h⟩ := He.ba h
  obtain ⟨h2, h⟩ := He.ba h
  obtain ⟨h3, h4⟩ := He.ba h
  exact .base (.ins e cl (He.eqO_ok h1) (He.eqO_ok h2) (of_decide_eq_true h3) (of_decide_eq_true h4))
theorem fnG_of {g : Wd} {fd : FuncData} {f : Addr} {ps : List Str} {sp : Sp} {k : Nat} (F : FnOk g.P g.w g.K g.mg g.base (L2.CX g.P g.w) k f fd ps sp) (hb : Binds g.K fd ps []) : FnG g k f sp :=
  (F.raw hb .nil).imp fun vs H Q E h => by rw [List.append_nil]; exact h
end Cy
namespace Cy
open PySem PySem.Spec PyProof.Rows L2
inductive JoinL (K : PySem.W.Frag) (a : Str) (p : Addr) (H : Hp) (Q : VK) : Prop where
  | by {ys : List Str} (h : SqL K H p (ys.map V.str)) (hl : (ys.map (·.length)).sum + ys.length * a.length ≤ 16777216) (k : Q (.str (Txt.join a ys)) H)
def mJoin (K : PySem.W.Frag) : Str → List V → Hp → VK → Prop := fun a xs H Q => match xs with
  | [.ref p] => JoinL K a p H Q
  | _ => False
theorem m_join {X : Cx} : MtS' X "str.join" (mJoin X.K) := .of mt_join fun a xs H Q h => by
  match xs, h with
  | [.ref p], h =>
    obtain ⟨h, hl, k⟩ : JoinL X.K a p H Q := h
    exact ⟨a, p, _, rfl, rfl, .inl h, hl, k⟩
theorem JoinL.mk {K : PySem.W.Frag} {a : Str} {p : Addr} {H : Hp} {Q : VK} (ys : List Str) (h : H p = some (.lst (ys.map V.str))) (hl : (ys.map (·.length)).sum + ys.length * a.length ≤ 16777216)
    (k : Q (.str (Txt.join a ys)) H) : JoinL K a p H Q := .by (SqL.of h) hl k
end Cy
namespace Cy
open PySem PySem.Spec PyProof.Rows L2
abbrev kG (n : Nat) (g : Addr → Option Obj) : PySem.W.Frag := He.frG g (He.asD g n ++ [cStatics])
theorem mp2 {S A B : Type} {E : Option S} {f : S → A} {g : S → B} {a : A} {b : B} (x : E.map f = some a) (y : E.map g = some b) : E.map (fun s => (f s, g s)) = some (a, b) := by
  cases E with
  | none => cases x
  | some s => exact congrArg some (Prod.ext (Option.some.inj x) (Option.some.inj y))
theorem mpApp {S : Type} {E : Option S} {k : S → PySem.W.Frag} {l1 l2 : List Chk} (x : E.map (fun s => l1.map fun c => c (k s)) = some (l1.map fun _ => true)) (y : E.map (fun s => l2.map fun c => c (k s)) = some (l2.map fun _ => true)) :
    E.map (fun s => (l1 ++ l2).map fun c => c (k s)) = some ((l1 ++ l2).map fun _ => true) := by
  cases E with
  | none => cases x
  | some s =>
    refine congrArg some ?_
    show (l1 ++ l2).map (fun c => c (k s)) = (l1 ++ l2).map fun _ => true
    rw [List.map_append, List.map_append]
    exact congr (congrArg _ (Option.some.inj x)) (Option.some.inj y)
theorem mpF {S : Type} {E : Option S} {k : S → PySem.W.Frag} {l1 l2 : List He.Fa} (x : E.map (fun s => l1.all fun f => f.ok (k s)) = some true) (y : E.map (fun s => l2.all fun f => f.ok (k s)) = some true) :
    E.map (fun s => (l1 ++ l2).all fun f => f.ok (k s)) = some true := by
  cases E with
  | none => cases x
  | some s =>
    refine congrArg some ?_
    have a : (l1.all fun f => f.ok (k s)) = true := Option.some.inj x
    have b : (l2.all fun f => f.ok (k s)) = true := Option.some.inj y
    show ((l1 ++ l2).all fun f => f.ok (k s)) = true
    rw [List.all_append, a, b]
    rfl
theorem mpN {S : Type} {E : Option S} {k : S → PySem.W.Frag} {l1 l2 : List He.DefD} (x : E.map (fun s => (l1.all (fun d => d.ok (k s)), l1.map fun d => He.fnW (k s) d.at_)) = some (true, l1.map He.DefD.val))
    (y : E.map (fun s => (l2.all (fun d => d.ok (k s)), l2.map fun d => He.fnW (k s) d.at_)) = some (true, l2.map He.DefD.val)) :
    E.map (fun s => ((l1 ++ l2).all (fun d => d.ok (k s)), (l1 ++ l2).map fun d => He.fnW (k s) d.at_)) = some (true, (l1 ++ l2).map He.DefD.val) := by
  cases E with
  | none => cases x
  | some s =>
    refine congrArg some ?_
    obtain ⟨a1, a2⟩ := Prod.mk.inj (Option.some.inj x)
    obtain ⟨b1, b2⟩ := Prod.mk.inj (Option.some.inj y)
    show ((l1 ++ l2).all (fun d => d.ok (k s)), (l1 ++ l2).map fun d => He.fnW (k s) d.at_) = (true, (l1 ++ l2).map He.DefD.val)
    rw [List.all_append, List.map_append, List.map_append, a1, a2, b1, b2]
    rfl
theorem obs_join {S : Type} {E : Option S} {k : S → Addr → Option Obj} {n : Nat} {fa : List He.Fa} {fn : List He.DefD} {fc : List Chk} {fs : List SupX} {gs : List GetX}
    (hF : E.map (fun s => fa.all fun f => f.ok (kG n (k s))) = some true)
    (hN : E.map (fun s => (fn.all (fun d => d.ok (kG n (k s))), fn.map fun d => He.fnW (kG n (k s)) d.at_)) = some (true, fn.map He.DefD.val))
    (hC : E.map (fun s => fc.map fun c => c (kG n (k s))) = some (fc.map fun _ => true))
    (hS : E.map (fun s => (fs.map fun d => fnS (kG n (k s)) d.x, gs.map (fnGx (kG n (k s))))) = some (fs.map SupX.val, gs.map GetX.val)) :
    E.map (fun s => obsCG n fa fn fc fs gs (k s)) = some (valC fn fc fs gs) := by
  cases E with
  | none => cases hF
  | some s =>
    have a : (fa.all fun f => f.ok (kG n (k s))) = true := Option.some.inj hF
    have b : (fn.all (fun d => d.ok (kG n (k s))), fn.map fun d => He.fnW (kG n (k s)) d.at_) = (true, fn.map He.DefD.val) := Option.some.inj hN
    have c : (fc.map fun c => c (kG n (k s))) = (fc.map fun _ => true) := Option.some.inj hC
    have d : (fs.map (fun d => fnS (kG n (k s)) d.x), gs.map (fnGx (kG n (k s)))) = (fs.map SupX.val, gs.map GetX.val) := Option.some.inj hS
    obtain ⟨b1, b2⟩ := Prod.mk.inj b
    obtain ⟨d1, d2⟩ := Prod.mk.inj d
    show some ((((fa.all fun f => f.ok (kG n (k s))) && fn.all fun d => d.ok (kG n (k s))), fn.map fun d => He.fnW (kG n (k s)) d.at_), (fc.map fun c => c (kG n (k s))), (fs.map fun d => fnS (kG n (k s)) d.x), gs.map (fnGx (kG n (k s)))) = some (((true : Bool), fn.map He.DefD.val), (fc.map fun _ => true), fs.map SupX.val, gs.map GetX.val)
    rw [a, b1, b2, c, d1, d2]
    rfl
end Cy
namespace Cy
open PySem PySem.Spec PyProof.Rows L2
abbrev kL (as : List Addr) (g : Addr → Option Obj) : PySem.W.Frag := He.frG g as
def obsCL (as : List Addr) (fa : List He.Fa) (fn : List He.DefD) (fc : List Chk) (fs : List SupX) (gs : List GetX) (g : Addr → Option Obj) : AlC := obsC fa fn fc fs gs (He.frG g as)
def hookL (as : List Addr) (fa : List He.Fa) (fn : List He.DefD) (fc : List Chk) (fs : List SupX) (gs : List GetX) : PySem.W.Hook where
  α := AlC
  obs := fun s => obsCL as fa fn fc fs gs s.heap.get?
  val := fun _ => valC fn fc fs gs
  says := fun _ h => ∃ K : PySem.W.Frag, K.In h ∧ SaysC fa fn fc fs gs K
  of := fun _ _ e => ⟨_, He.frG_in, e⟩
  keeps := fun _ _ _ ⟨K, hK, c⟩ k => ⟨K, PySem.W.Frag.In.keeps hK k, c⟩
theorem obsCL_eq {as : List Addr} {fa : List He.Fa} {fn : List He.DefD} {fc : List Chk} {fs : List SupX} {gs : List GetX} {g : Addr → Option Obj} {s : Shared} (h : ∀ a, g a = s.heap.get? a) : obsCL as fa fn fc fs gs g = (hookL as fa fn fc fs gs).obs s := by
  have e : g = s.heap.get? := funext h
  rw [e] <;> rfl
theorem obsL_join {S : Type} {E : Option S} {k : S → Addr → Option Obj} {as : List Addr} {fa : List He.Fa} {fn : List He.DefD} {fc : List Chk} {fs : List SupX} {gs : List GetX}
    (hF : E.map (fun s => fa.all fun f => f.ok (kL as (k s))) = some true)
    (hN : E.map (fun s => (fn.all (fun d => d.ok (kL as (k s))), fn.map fun d => He.fnW (kL as (k s)) d.at_)) = some (true, fn.map He.DefD.val))
    (hC : E.map (fun s => fc.map fun c => c (kL as (k s))) = some (fc.map fun _ => true))
    (hS : E.map (fun s => (fs.map fun d => fnS (kL as (k s)) d.x, gs.map (fnGx (kL as (k s))))) = some (fs.map SupX.val, gs.map GetX.val)) :
    E.map (fun s => obsCL as fa fn fc fs gs (k s)) = some (valC fn fc fs gs) := by
  cases E with
  | none => cases hF
  | some s =>
    have a : (fa.all fun f => f.ok (kL as (k s))) = true := Option.some.inj hF
    have b : (fn.all (fun d => d.ok (kL as (k s))), fn.map fun d => He.fnW (kL as (k s)) d.at_) = (true, fn.map He.DefD.val) := Option.some.inj hN
    have c : (fc.map fun c => c (kL as (k s))) = (fc.map fun _ => true) := Option.some.inj hC
    have d : (fs.map (fun d => fnS (kL as (k s)) d.x), gs.map (fnGx (kL as (k s)))) = (fs.map SupX.val, gs.map GetX.val) := Option.some.inj hS
    obtain ⟨b1, b2⟩ := Prod.mk.inj b
    obtain ⟨d1, d2⟩ := Prod.mk.inj d
    show some ((((fa.all fun f => f.ok (kL as (k s))) && fn.all fun d => d.ok (kL as (k s))), fn.map fun d => He.fnW (kL as (k s)) d.at_), (fc.map fun c => c (kL as (k s))), (fs.map fun d => fnS (kL as (k s)) d.x), gs.map (fnGx (kL as (k s)))) = some (((true : Bool), fn.map He.DefD.val), (fc.map fun _ => true), fs.map SupX.val, gs.map GetX.val)
    rw [a, b1, b2, c, d1, d2]
    rfl
end Cy
namespace Lw
open PySem PySem.Spec PyProof.Rows L2 Cy
def top (i : Nat) : Stmt := PySem.Challenge.pw_carrylog_k55_rule_texts.main.body.getD i (.Pass ⟨0, 0, 0, 0⟩)
def d0 : He.DefD := ⟨("_wall", none), "_wall", "_wall", defArgs (top 0), defBody (top 0), defScope (top 0), [], []⟩ -- _wall
def s0 : SupX := ⟨"InvalidInput", "InvalidInput.__init__", defArgs (inClass (top 3) 0), defBody (inClass (top 3) 0), defScope (inClass (top 3) 0)⟩
def s1 : SupX := ⟨"BadRule", "BadRule.__init__", defArgs (inClass (top 4) 0), defBody (inClass (top 4) 0), defScope (inClass (top 4) 0)⟩
def d1 : He.DefD := ⟨("at_least", none), "at_least", "at_least", defArgs (top 6), defBody (top 6), defScope (top 6), [], []⟩ -- at_least
def d2 : He.DefD := ⟨("whole_number", none), "whole_number", "whole_number", defArgs (top 7), defBody (top 7), defScope (top 7), [], []⟩ -- whole_number
def d3 : He.DefD := ⟨("good_word", none), "good_word", "good_word", defArgs (top 8), defBody (top 8), defScope (top 8), [], []⟩ -- good_word
def d4 : He.DefD := ⟨("living", none), "living", "living", defArgs (top 10), defBody (top 10), defScope (top 10), [], []⟩ -- living
def d5 : He.DefD := ⟨("_ones", none), "_ones", "_ones", defArgs (top 11), defBody (top 11), defScope (top 11), [], []⟩ -- _ones
def d6 : He.DefD := ⟨("_check_moment", none), "_check_moment", "_check_moment", defArgs (top 17), defBody (top 17), defScope (top 17), [], []⟩ -- _check_moment
def d7 : He.DefD := ⟨("_most_allowed", none), "_most_allowed", "_most_allowed", defArgs (top 18), defBody (top 18), defScope (top 18), [], []⟩ -- _most_allowed
def d8 : He.DefD := ⟨("_read_number", none), "_read_number", "_read_number", defArgs (top 19), defBody (top 19), defScope (top 19), [], []⟩ -- _read_number
def d9 : He.DefD := ⟨("_read_condition", none), "_read_condition", "_read_condition", defArgs (top 20), defBody (top 20), defScope (top 20), [], []⟩ -- _read_condition
def d10 : He.DefD := ⟨("_read_line", none), "_read_line", "_read_line", defArgs (top 21), defBody (top 21), defScope (top 21), [], []⟩ -- _read_line
def d11 : He.DefD := ⟨("_read_rules", none), "_read_rules", "_read_rules", defArgs (top 22), defBody (top 22), defScope (top 22), [], []⟩ -- _read_rules
def d12 : He.DefD := ⟨("_fact", none), "_fact", "_fact", defArgs (top 23), defBody (top 23), defScope (top 23), [], []⟩ -- _fact
def d13 : He.DefD := ⟨("_applies", none), "_applies", "_applies", defArgs (top 24), defBody (top 24), defScope (top 24), [], []⟩ -- _applies
def d14 : He.DefD := ⟨("Keeper", some "choose"), "choose", "Keeper.choose", defArgs (inClass (top 25) 0), defBody (inClass (top 25) 0), defScope (inClass (top 25) 0), [], []⟩ -- Keeper.choose
def d15 : He.DefD := ⟨("Keeper", some "label"), "label", "Keeper.label", defArgs (inClass (top 25) 1), defBody (inClass (top 25) 1), defScope (inClass (top 25) 1), [], []⟩ -- Keeper.label
def d16 : He.DefD := ⟨("RuleKeeper", some "__init__"), "__init__", "RuleKeeper.__init__", defArgs (inClass (top 26) 0), defBody (inClass (top 26) 0), defScope (inClass (top 26) 0), [], []⟩ -- RuleKeeper.__init__
def d17 : He.DefD := ⟨("RuleKeeper", some "choose"), "choose", "RuleKeeper.choose", defArgs (inClass (top 26) 1), defBody (inClass (top 26) 1), defScope (inClass (top 26) 1), [], []⟩ -- RuleKeeper.choose
def d18 : He.DefD := ⟨("RuleKeeper", some "label"), "label", "RuleKeeper.label", defArgs (inClass (top 26) 2), defBody (inClass (top 26) 2), defScope (inClass (top 26) 2), [], []⟩ -- RuleKeeper.label
def d19 : He.DefD := ⟨("Round", some "__init__"), "__init__", "Round.__init__", defArgs (inClass (top 28) 1), defBody (inClass (top 28) 1), defScope (inClass (top 28) 1), [], []⟩ -- Round.__init__
def d20 : He.DefD := ⟨("Round", some "__len__"), "__len__", "Round.__len__", defArgs (inClass (top 28) 4), defBody (inClass (top 28) 4), defScope (inClass (top 28) 4), [], []⟩ -- Round.__len__
def d21 : He.DefD := ⟨("Round", some "__eq__"), "__eq__", "Round.__eq__", defArgs (inClass (top 28) 5), defBody (inClass (top 28) 5), defScope (inClass (top 28) 5), [], []⟩ -- Round.__eq__
def d22 : He.DefD := ⟨("Round", some "__add__"), "__add__", "Round.__add__", defArgs (inClass (top 28) 6), defBody (inClass (top 28) 6), defScope (inClass (top 28) 6), [], []⟩ -- Round.__add__
def d23 : He.DefD := ⟨("Round", some "at"), "at", "Round.at", defArgs (inClass (top 28) 7), defBody (inClass (top 28) 7), defScope (inClass (top 28) 7), [], []⟩ -- Round.at
def d24 : He.DefD := ⟨("Round", some "shifted"), "shifted", "Round.shifted", defArgs (inClass (top 28) 8), defBody (inClass (top 28) 8), defScope (inClass (top 28) 8), [], []⟩ -- Round.shifted
def d25 : He.DefD := ⟨("Round", some "total"), "total", "Round.total", defArgs (inClass (top 28) 9), defBody (inClass (top 28) 9), defScope (inClass (top 28) 9), [], []⟩ -- Round.total
def d26 : He.DefD := ⟨("Round", some "least"), "least", "Round.least", defArgs (inClass (top 28) 10), defBody (inClass (top 28) 10), defScope (inClass (top 28) 10), [], []⟩ -- Round.least
def d27 : He.DefD := ⟨("Round", some "worst_start"), "worst_start", "Round.worst_start", defArgs (inClass (top 28) 11), defBody (inClass (top 28) 11), defScope (inClass (top 28) 11), [], []⟩ -- Round.worst_start
def d28 : He.DefD := ⟨("Round", some "reach"), "reach", "Round.reach", defArgs (inClass (top 28) 12), defBody (inClass (top 28) 12), defScope (inClass (top 28) 12), [], []⟩ -- Round.reach
def d29 : He.DefD := ⟨("Round", some "_window"), "_window", "Round._window", defArgs (inClass (top 28) 13), defBody (inClass (top 28) 13), defScope (inClass (top 28) 13), [], []⟩ -- Round._window
def d30 : He.DefD := ⟨("Round", some "_windows"), "_windows", "Round._windows", defArgs (inClass (top 28) 14), defBody (inClass (top 28) 14), defScope (inClass (top 28) 14), [], []⟩ -- Round._windows
def d31 : He.DefD := ⟨("_law_is_count", none), "_law_is_count", "_law_is_count", defArgs (top 30), defBody (top 30), defScope (top 30), [], []⟩ -- _law_is_count
def d32 : He.DefD := ⟨("_law_box", none), "_law_box", "_law_box", defArgs (top 31), defBody (top 31), defScope (top 31), [], []⟩ -- _law_box
def d33 : He.DefD := ⟨("_law_take", none), "_law_take", "_law_take", defArgs (top 32), defBody (top 32), defScope (top 32), [], []⟩ -- _law_take
def d34 : He.DefD := ⟨("_law_round", none), "_law_round", "_law_round", defArgs (top 33), defBody (top 33), defScope (top 33), [], []⟩ -- _law_round
def d35 : He.DefD := ⟨("_law_pays", none), "_law_pays", "_law_pays", defArgs (top 34), defBody (top 34), defScope (top 34), [], []⟩ -- _law_pays
def d36 : He.DefD := ⟨("_law_word", none), "_law_word", "_law_word", defArgs (top 35), defBody (top 35), defScope (top 35), [], []⟩ -- _law_word
def d37 : He.DefD := ⟨("_law_stand", none), "_law_stand", "_law_stand", defArgs (top 36), defBody (top 36), defScope (top 36), [], []⟩ -- _law_stand
def d38 : He.DefD := ⟨("_law_value", none), "_law_value", "_law_value", defArgs (top 37), defBody (top 37), defScope (top 37), [], []⟩ -- _law_value
def d39 : He.DefD := ⟨("_law_digits", none), "_law_digits", "_law_digits", defArgs (top 38), defBody (top 38), defScope (top 38), [], []⟩ -- _law_digits
def d40 : He.DefD := ⟨("_law_amount_text", none), "_law_amount_text", "_law_amount_text", defArgs (top 39), defBody (top 39), defScope (top 39), [], []⟩ -- _law_amount_text
def d41 : He.DefD := ⟨("_law_line", none), "_law_line", "_law_line", defArgs (top 40), defBody (top 40), defScope (top 40), [], []⟩ -- _law_line
def d42 : He.DefD := ⟨("_law_odd_word", none), "_law_odd_word", "_law_odd_word", defArgs (top 41), defBody (top 41), defScope (top 41), [], []⟩ -- _law_odd_word
def d43 : He.DefD := ⟨("_law_odd_line", none), "_law_odd_line", "_law_odd_line", defArgs (top 42), defBody (top 42), defScope (top 42), [], []⟩ -- _law_odd_line
def d44 : He.DefD := ⟨("_law_sign", none), "_law_sign", "_law_sign", defArgs (top 43), defBody (top 43), defScope (top 43), [], []⟩ -- _law_sign
def d45 : He.DefD := ⟨("_law_bent", none), "_law_bent", "_law_bent", defArgs (top 44), defBody (top 44), defScope (top 44), [], []⟩ -- _law_bent
def d46 : He.DefD := ⟨("_law_text", none), "_law_text", "_law_text", defArgs (top 45), defBody (top 45), defScope (top 45), [], []⟩ -- _law_text
def d47 : He.DefD := ⟨("_law_number", none), "_law_number", "_law_number", defArgs (top 46), defBody (top 46), defScope (top 46), [], []⟩ -- _law_number
def d48 : He.DefD := ⟨("_law_amount", none), "_law_amount", "_law_amount", defArgs (top 47), defBody (top 47), defScope (top 47), [], []⟩ -- _law_amount
def d49 : He.DefD := ⟨("_law_rule", none), "_law_rule", "_law_rule", defArgs (top 48), defBody (top 48), defScope (top 48), [], []⟩ -- _law_rule
def d50 : He.DefD := ⟨("_law_holds", none), "_law_holds", "_law_holds", defArgs (top 49), defBody (top 49), defScope (top 49), [], []⟩ -- _law_holds
def d51 : He.DefD := ⟨("_law_due", none), "_law_due", "_law_due", defArgs (top 50), defBody (top 50), defScope (top 50), [], []⟩ -- _law_due
def d52 : He.DefD := ⟨("_law_first_bad", none), "_law_first_bad", "_law_first_bad", defArgs (top 51), defBody (top 51), defScope (top 51), [], []⟩ -- _law_first_bad
def d53 : He.DefD := ⟨("_law_refused", none), "_law_refused", "_law_refused", defArgs (top 52), defBody (top 52), defScope (top 52), [], []⟩ -- _law_refused
def d54 : He.DefD := ⟨("_law_healed", none), "_law_healed", "_law_healed", defArgs (top 53), defBody (top 53), defScope (top 53), [], []⟩ -- _law_healed
def d55 : He.DefD := ⟨("_law_chooses", none), "_law_chooses", "_law_chooses", defArgs (top 54), defBody (top 54), defScope (top 54), [], []⟩ -- _law_chooses
def d56 : He.DefD := ⟨("law", none), "law", "law", defArgs (top 55), defBody (top 55), defScope (top 55), [], []⟩ -- law
def g0 : GetX := ⟨"Round", "budgets", "Round.budgets", defArgs (inClass (top 28) 3), defBody (inClass (top 28) 3), defScope (inClass (top 28) 3)⟩
def fn : List He.DefD := [d0, d1, d2, d3, d4, d5, d6, d7, d8, d9, d10, d11, d12, d13, d14, d15, d16, d17, d18, d19, d20, d21, d22, d23, d24, d25, d26, d27, d28, d29, d30, d31, d32, d33, d34, d35, d36, d37, d38, d39, d40, d41, d42, d43, d44, d45, d46, d47, d48, d49, d50, d51, d52, d53, d54, d55, d56]
def fs : List SupX := [s0, s1]
def gs : List GetX := [g0]
def fa0 : List He.Fa := [.glo "BadRule", .keep "BadRule", .glo "InvalidInput", .keep "InvalidInput", .glo "Keeper", .keep "Keeper", .glo "Round", .keep "Round", .glo "RuleKeeper", .keep "RuleKeeper", .glo "StoreError", .keep "StoreError", .glo "_applies", .keep "_applies", .glo "_check_moment", .keep "_check_moment", .glo "_fact", .keep "_fact", .glo "_law_amount", .keep "_law_amount"]
def fa1 : List He.Fa := [.glo "_law_amount_text", .keep "_law_amount_text", .glo "_law_bent", .keep "_law_bent", .glo "_law_box", .keep "_law_box", .glo "_law_chooses", .keep "_law_chooses", .glo "_law_digits", .keep "_law_digits", .glo "_law_due", .keep "_law_due", .glo "_law_first_bad", .keep "_law_first_bad", .glo "_law_healed", .keep "_law_healed", .glo "_law_holds", .keep "_law_holds", .glo "_law_is_count", .keep "_law_is_count"]
def fa2 : List He.Fa := [.glo "_law_line", .keep "_law_line", .glo "_law_number", .keep "_law_number", .glo "_law_odd_line", .keep "_law_odd_line", .glo "_law_odd_word", .keep "_law_odd_word", .glo "_law_pays", .keep "_law_pays", .glo "_law_refused", .keep "_law_refused", .glo "_law_round", .keep "_law_round", .glo "_law_rule", .keep "_law_rule", .glo "_law_sign", .keep "_law_sign", .glo "_law_stand", .keep "_law_stand"]
def fa3 : List He.Fa := [.glo "_law_take", .keep "_law_take", .glo "_law_text", .keep "_law_text", .glo "_law_value", .keep "_law_value", .glo "_law_word", .keep "_law_word", .glo "_most_allowed", .keep "_most_allowed", .glo "_ones", .keep "_ones", .glo "_read_condition", .keep "_read_condition", .glo "_read_line", .keep "_read_line", .glo "_read_number", .keep "_read_number", .glo "_read_rules", .keep "_read_rules"]
def fa4 : List He.Fa := [.glo "at_least", .keep "at_least", .glo "good_word", .keep "good_word", .glo "law", .keep "law", .glo "living", .keep "living", .glo "whole_number", .keep "whole_number", .free "ValueError", .free "abs", .free "all", .free "bool", .free "divmod", .free "enumerate", .free "int", .free "isinstance", .free "len", .free "list"]
def fa5 : List He.Fa := [.free "max", .free "min", .free "range", .free "str", .free "sum", .free "tuple", .str "DIGITS" "0123456789", .int "MOST_DIGITS" 3, .glo "FACTS", .glo "SIGNS", .cls "Keeper", .meth "Keeper" "choose", .meth "Keeper" "label", .cls "RuleKeeper", .meth "RuleKeeper" "choose", .meth "RuleKeeper" "label", .noat "RuleKeeper" "_rules", .mkr "RuleKeeper", .cls "Round", .meth "Round" "at"]
def fa6 : List He.Fa := [.meth "Round" "shifted", .meth "Round" "total", .meth "Round" "least", .meth "Round" "worst_start", .meth "Round" "reach", .meth "Round" "_window", .meth "Round" "_windows", .noat "Round" "_budgets", .mkr "Round", .noat "InvalidInput" "field", .exm "InvalidInput" "StoreError" true, .exm "InvalidInput" "InvalidInput" true, .exm "InvalidInput" "BadRule" false, .noat "BadRule" "line", .exm "BadRule" "StoreError" true, .exm "BadRule" "InvalidInput" false, .exm "BadRule" "BadRule" true]
def fa : List He.Fa := fa0 ++ fa1 ++ fa2 ++ fa3 ++ fa4 ++ fa5 ++ fa6
def fc0 : List Chk := [fun K => He.tupB K "FACTS" [.str "free", .str "living", .str "dead", .str "gap", .str "budget"], fun K => He.tupB K "SIGNS" [.str "<=", .str ">=", .str "=="], tyB "Keeper", mkzB "Keeper", kitC "Keeper" "Keeper" true, kitC "Keeper" "RuleKeeper" false, kitC "Keeper" "Round" false, tyB "RuleKeeper", kitC "RuleKeeper" "Keeper" true, kitC "RuleKeeper" "RuleKeeper" true, kitC "RuleKeeper" "Round" false, tyB "Round", propB "Round" "budgets", dunB "Round" "__len__", dunB "Round" "__add__", selfB "Round", kitC "Round" "Keeper" false, kitC "Round" "RuleKeeper" false, kitC "Round" "Round" true, cvalB "Round" "MOST" 12]
def fc1 : List Chk := [oexB "InvalidInput", einB "InvalidInput", xfC "InvalidInput", excB "InvalidInput", supB "InvalidInput" "InvalidInput.__init__" PySem.Challenge.pw_carrylog_k55_rule_texts.main.file, kitC "InvalidInput" "StoreError" true, kitC "InvalidInput" "InvalidInput" true, kitC "InvalidInput" "BadRule" false, kitT "InvalidInput" "ValueError" true, oexB "BadRule", einB "BadRule", xfC "BadRule", excB "BadRule", supB "BadRule" "BadRule.__init__" PySem.Challenge.pw_carrylog_k55_rule_texts.main.file, kitC "BadRule" "StoreError" true, kitC "BadRule" "InvalidInput" false, kitC "BadRule" "BadRule" true, kitT "BadRule" "ValueError" true, getB "Round" "budgets" "Round.budgets"]
def fc : List Chk := fc0 ++ fc1
end Lw
namespace Hd
open PySem PySem.Spec PyProof.Rows L2 Cy
def nm0 : List Str := ["_wall", "StoreError", "InvalidInput", "BadRule", "at_least", "whole_number", "good_word", "living", "_ones", "DIGITS", "MOST_DIGITS", "FACTS", "SIGNS", "_check_moment", "_most_allowed", "_read_number", "_read_condition", "_read_line", "_read_rules", "_fact", "_applies", "Keeper", "RuleKeeper", "Round", "_law_is_count", "_law_box", "_law_take", "_law_round", "_law_pays", "_law_word"]
def nm1 : List Str := ["_law_stand", "_law_value", "_law_digits", "_law_amount_text", "_law_line", "_law_odd_word", "_law_odd_line", "_law_sign", "_law_bent", "_law_text", "_law_number", "_law_amount", "_law_rule", "_law_holds", "_law_due", "_law_first_bad", "_law_refused", "_law_healed", "_law_chooses"]
def loose : List Str := nm0 ++ nm1
abbrev R : PySem.W.OpenRow := PySem.W.OpenLaw.row PySem.Challenge.rw_carrylog_k55_rule_texts
def asl : List Addr := [3, 6, 4, 21, 31, 53, 74, 83, 90, 97, 104, 111, 112, 113, 120, 127, 132, 139, 146, 153, 160, 167, 191, 226, 338, 349, 354, 361, 368, 375, 382, 389, 396, 403, 410, 417, 424, 431, 438, 445, 452, 459, 466, 473, 480, 487, 494, 501, 508, 513, 520, 0, 20, 30, 52, 73, 82, 89, 96, 103, 110, 119, 126, 131, 138, 145, 152, 159, 166, 190, 225, 337, 348, 353, 360, 367, 374, 381, 388, 395, 402, 409, 416, 423, 430, 437, 444, 451, 458, 465, 472, 479, 486, 493, 500, 507, 512, 519, 15, 16, 17, 18, 19, 29, 32, 50, 51, 71, 72, 77, 78, 79, 80, 81, 84, 85, 86, 87, 88, 91, 92, 93, 94, 95, 98, 99, 100, 101, 102, 105, 106, 107, 108, 109, 114, 115, 116, 117, 118, 121, 122, 123, 124, 125, 128, 129, 130, 133, 134, 135, 136, 137, 140, 141, 142, 143, 144, 147, 148, 149, 150, 151, 154, 155, 156, 157, 158, 161, 162, 163, 164, 165, 181, 188, 189, 192, 193, 209, 216, 223, 224, 242, 251, 260, 267, 274, 281, 288, 295, 302, 309, 316, 323, 330, 335, 336, 339, 340, 343, 344, 345, 346, 347, 350, 351, 352, 355, 356, 357, 358, 359, 362, 363, 364, 365, 366, 369, 370, 371, 372, 373, 376, 377, 378, 379, 380, 383, 384, 385, 386, 387, 390, 391, 392, 393, 394, 397, 398, 399, 400, 401, 404, 405, 406, 407, 408, 411, 412, 413, 414, 415, 418, 419, 420, 421, 422, 425, 426, 427, 428, 429, 432, 433, 434, 435, 436, 439, 440, 441, 442, 443, 446, 447, 448, 449, 450, 453, 454, 455, 456, 457, 460, 461, 462, 463, 464, 467, 468, 469, 470, 471, 474, 475, 476, 477, 478, 481, 482, 483, 484, 485, 488, 489, 490, 491, 492, 495, 496, 497, 498, 499, 502, 503, 504, 505, 506, 509, 510, 511, 514, 515, 516, 517, 518, 49, 38, 70, 59, 180, 187, 208, 215, 222, 241, 249, 250, 259, 266, 273, 280, 287, 294, 301, 308, 315, 322, 329, 334, 44, 45, 46, 47, 48, 65, 66, 67, 68, 69, 175, 176, 177, 178, 179, 182, 183, 184, 185, 186, 203, 204, 205, 206, 207, 210, 211, 212, 213, 214, 217, 218, 219, 220, 221, 236, 237, 238, 239, 240, 248, 252, 258, 261, 262, 263, 264, 265, 268, 269, 270, 271, 272, 275, 276, 277, 278, 279, 282, 283, 284, 285, 286, 289, 290, 291, 292, 293, 296, 297, 298, 299, 300, 303, 304, 305, 306, 307, 310, 311, 312, 313, 314, 317, 318, 319, 320, 321, 324, 325, 326, 327, 328, 331, 332, 333, 243, 244, 245, 246, 247, 253, 254, 255, 256, 257, 2]
abbrev hk : PySem.W.Hook := hookL asl Lw.fa Lw.fn Lw.fc Lw.fs Lw.gs
def ob (s : PySem.W.SharedT) : AlC := obsCL asl Lw.fa Lw.fn Lw.fc Lw.fs Lw.gs (HandSHeadRun.getT s)
theorem ob_eq (s : PySem.W.SharedT) : ob s = hk.obs s.abs := obsCL_eq (HandSHeadRun.getT_eq s)
abbrev qv : Program := PySem.W.view R.prog [55]
noncomputable section
open PySem.Calls PySem.W
abbrev En (w : World) (os : OsState) := HandSHeadRun.endF (HandSHeadRun.stepQ (HandSHeadRun.denQ HandSHeadRun.tabQ) R.prog w) 40000 R.prog w os
abbrev kk (s : PySem.W.SharedT) : PySem.W.Frag := kL asl (HandSHeadRun.getT s)
set_option maxHeartbeats 0 in
theorem rA (w : World) (os : OsState) : (En w os).map (fun s => HandSHeadRun.looksF R.prog (boot_heap w.params) s.abs) = some (true) := by kernel_rfl
set_option maxHeartbeats 0 in
theorem rB (w : World) (os : OsState) : (En w os).map (fun s => HandSHeadRun.seenQ qv loose (importedModules R.prog.main.body) (fun s => PySem.W.xlAt qv [] s && PySem.W.recOk R.toRowW.records s) s.abs) = some (PySem.W.openGood qv loose) := by kernel_rfl
def fb0 : List He.Fa := Lw.fa0 ++ Lw.fa1 ++ Lw.fa2 ++ Lw.fa3
set_option maxHeartbeats 0 in
theorem rF0 (w : World) (os : OsState) : (En w os).map (fun s => fb0.all fun f => f.ok (kk s)) = some (true) := by kernel_rfl
def fb4 : List He.Fa := Lw.fa4 ++ Lw.fa5 ++ Lw.fa6
set_option maxHeartbeats 0 in
theorem rF4 (w : World) (os : OsState) : (En w os).map (fun s => fb4.all fun f => f.ok (kk s)) = some (true) := by kernel_rfl
theorem fa_eq : Lw.fa = fb0 ++ fb4 := rfl
theorem rF (w : World) (os : OsState) : (En w os).map (fun s => Lw.fa.all fun f => f.ok (kk s)) = some true := by
  rw [fa_eq]
  exact mpF (rF0 w os) (rF4 w os)
def fn0 : List He.DefD := [Lw.d0, Lw.d1, Lw.d2, Lw.d3, Lw.d4, Lw.d5, Lw.d6, Lw.d7, Lw.d8, Lw.d9, Lw.d10, Lw.d11, Lw.d12, Lw.d13, Lw.d14, Lw.d15, Lw.d16, Lw.d17, Lw.d18, Lw.d19, Lw.d20, Lw.d21, Lw.d22, Lw.d23, Lw.d24, Lw.d25, Lw.d26, Lw.d27, Lw.d28, Lw.d29, Lw.d30, Lw.d31, Lw.d32, Lw.d33, Lw.d34, Lw.d35, Lw.d36, Lw.d37, Lw.d38, Lw.d39, Lw.d40, Lw.d41]
set_option maxHeartbeats 0 in
theorem rN0 (w : World) (os : OsState) : (En w os).map (fun s => (fn0.all (fun d => d.ok (kk s)), fn0.map fun d => He.fnW (kk s) d.at_)) = some ((true, fn0.map He.DefD.val)) := by kernel_rfl
def fn1 : List He.DefD := [Lw.d42, Lw.d43, Lw.d44, Lw.d45, Lw.d46, Lw.d47, Lw.d48, Lw.d49, Lw.d50, Lw.d51, Lw.d52, Lw.d53, Lw.d54, Lw.d55, Lw.d56]
set_option maxHeartbeats 0 in
theorem rN1 (w : World) (os : OsState) : (En w os).map (fun s => (fn1.all (fun d => d.ok (kk s)), fn1.map fun d => He.fnW (kk s) d.at_)) = some ((true, fn1.map He.DefD.val)) := by kernel_rfl
theorem fn_eq : Lw.fn = fn0 ++ fn1 := rfl
theorem rN (w : World) (os : OsState) : (En w os).map (fun s => (Lw.fn.all (fun d => d.ok (kk s)), Lw.fn.map fun d => He.fnW (kk s) d.at_)) = some (true, Lw.fn.map He.DefD.val) := by
  rw [fn_eq]
  exact mpN (rN0 w os) (rN1 w os)
set_option maxHeartbeats 0 in
theorem rC0 (w : World) (os : OsState) : (En w os).map (fun s => Lw.fc0.map fun c => c (kk s)) = some (Lw.fc0.map fun _ => true) := by kernel_rfl
set_option maxHeartbeats 0 in
theorem rC1 (w : World) (os : OsState) : (En w os).map (fun s => Lw.fc1.map fun c => c (kk s)) = some (Lw.fc1.map fun _ => true) := by kernel_rfl
set_option maxHeartbeats 0 in
theorem rS (w : World) (os : OsState) : (En w os).map (fun s => (Lw.fs.map (fun d => fnS (kk s) d.x), Lw.gs.map (fnGx (kk s)))) = some ((Lw.fs.map SupX.val, Lw.gs.map GetX.val)) := by kernel_rfl
theorem run (w : World) : HandSHeadRun.RunEq R qv hk ob 40000 loose w := fun os => mp2 (rA w os) (mp2 (rB w os) (obsL_join (k := HandSHeadRun.getT) (rF w os) (rN w os) (mpApp (rC0 w os) (rC1 w os)) (rS w os)))
end
end Hd
namespace Tx
open PySem PySem.Spec PyProof.Rows L2 Cy
abbrev ls (z : Str) : List Nat := z.cps.toList
theorem ls_len (z : Str) : z.length = (ls z).length := by show z.cps.size = z.cps.toList.length; simp
theorem ls_app (a b : Str) : ls (a ++ b) = ls a ++ ls b := by
  show (a.cps ++ b.cps).toList = _
  simp
theorem ls_ext {a b : Str} (h : ls a = ls b) : a = b := by
  obtain ⟨⟨a⟩⟩ := a
  obtain ⟨⟨b⟩⟩ := b
  have h : a = b := h
  rw [h]
theorem cnt_count (c : Nat) : ∀ l : List Nat, cnt c l = (l.count c : Int)
  | [] => rfl
  | n :: r => by
    rw [cnt_cons, cnt_count c r, List.count_cons]
    by_cases h : n = c
    · subst h; simp; omega
    · have h2 : (n == c) = false := by simpa using h
      simp [h, h2]
theorem one_eq : ("1" : Str) = ⟨#[49]⟩ := by decide +kernel
theorem zero_eq : ("0" : Str) = ⟨#[48]⟩ := by decide +kernel
theorem zo_eq : ("01" : Str) = ⟨#[48, 49]⟩ := by decide +kernel
theorem e_eq : ("" : Str) = ⟨#[]⟩ := by decide +kernel
theorem count1 (z : Str) : Txt.count z "1" = ((ls z).count 49 : Int) := by rw [one_eq, count_cnt, cnt_count]
theorem takeWhile_drop (p : Nat → Bool) : ∀ l : List Nat, l.drop (l.takeWhile p).length = l.dropWhile p
  | [] => rfl
  | a :: r => by
    cases h : p a with
    | true => simp [List.takeWhile, List.dropWhile, h, takeWhile_drop p r]
    | false => simp [List.takeWhile, List.dropWhile, h]
theorem lstrip0 (z : Str) : ls (Txt.lstripChars z "0") = (ls z).dropWhile (· == 48) := by
  unfold Txt.lstripChars
  rw [PySem.W.stripBy_eq, zero_eq]
  show (z.cps.extract (z.cps.toList.takeWhile fun c => (#[48] : Array Nat).contains c).length z.length).toList = _
  have e : (fun c => (#[48] : Array Nat).contains c) = (fun c => c == 48) := by
    funext c
    rw [Bool.eq_iff_iff]
    simp
  rw [e]
  have h := takeWhile_drop (· == 48) z.cps.toList
  rw [← h]
  have : z.length = z.cps.toList.length := ls_len z
  rw [this]
  simp only [Array.toList_extract, List.extract]
  exact List.take_of_length_le (by simp)
theorem all_takeWhile {p : Nat → Bool} : ∀ {l : List Nat}, (∀ c ∈ l, p c = true) → l.takeWhile p = l
  | [], _ => rfl
  | a :: r, h => by
    have h1 := h a (List.mem_cons_self ..)
    simp [List.takeWhile, h1, all_takeWhile fun c hc => h c (List.mem_cons_of_mem _ hc)]
theorem takeWhile_le (p : Nat → Bool) : ∀ l : List Nat, (l.takeWhile p).length ≤ l.length
  | [] => Nat.le_refl _
  | a :: r => by
    have := takeWhile_le p r
    cases h : p a <;> simp [List.takeWhile, h]; omega
theorem takeWhile_lt {p : Nat → Bool} : ∀ {l : List Nat} {b : Nat}, b ∈ l → p b = false → (l.takeWhile p).length < l.length
  | a :: r, b, hb, hp => by
    cases h : p a with
    | false => simp [List.takeWhile, h]
    | true =>
      rcases List.mem_cons.mp hb with e | hb
      · rw [e, h] at hp; cases hp
      · have := takeWhile_lt hb hp
        simp [List.takeWhile, h]
        omega
theorem takeWhile_all {p : Nat → Bool} : ∀ {l : List Nat} {b : Nat}, b ∈ l.takeWhile p → p b = true
  | a :: r, b, h => by
    cases q : p a with
    | false => simp [List.takeWhile, q] at h
    | true =>
      simp only [List.takeWhile, q] at h
      rcases List.mem_cons.mp h with e | h
      · rw [e]; exact q
      · exact takeWhile_all h
def Bit (c : Nat) : Bool := c == 48 || c == 49
theorem strip01 (z : Str) : decide (Txt.stripChars z "01" = "") = (ls z).all Bit := by
  unfold Txt.stripChars
  rw [PySem.W.stripBy_eq, zo_eq]
  have e : (fun c => (#[48, 49] : Array Nat).contains c) = Bit := by
    funext c
    rw [Bool.eq_iff_iff]
    simp [Bit]
  show decide ((⟨z.cps.extract (z.cps.toList.takeWhile fun c => (#[48, 49] : Array Nat).contains c).length (z.length - ((z.cps.toList.drop (z.cps.toList.takeWhile fun c => (#[48, 49] : Array Nat).contains c).length).reverse.takeWhile fun c => (#[48, 49] : Array Nat).contains c).length)⟩ : Str) = "") = _
  rw [e, takeWhile_drop]
  have hn : z.length = z.cps.toList.length := ls_len z
  rw [hn]
  have hle := takeWhile_le Bit z.cps.toList
  have hsz : z.cps.size = z.cps.toList.length := by simp
  cases ha : (ls z).all Bit with
  | true =>
    have h1 : z.cps.toList.takeWhile Bit = z.cps.toList := all_takeWhile fun c hc => List.all_eq_true.mp ha c hc
    rw [decide_eq_true_eq, h1]
    refine ls_ext ?_
    show (z.cps.extract _ _).toList = _
    simp only [Array.toList_extract, List.extract, List.drop_length, List.take_nil]
    exact (by decide +kernel : ([] : List Nat) = ls "")
  | false =>
    rw [decide_eq_false_iff_not]
    intro q
    have q2 : (z.cps.extract (z.cps.toList.takeWhile Bit).length (z.cps.toList.length - ((z.cps.toList.dropWhile Bit).reverse.takeWhile Bit).length)).toList = [] := by
      have := congrArg ls q
      exact this.trans (by decide +kernel)
    have hl := congrArg List.length q2
    simp only [Array.toList_extract, List.extract, List.length_take, List.length_drop, List.length_nil] at hl
    have hdl : (z.cps.toList.dropWhile Bit).length = z.cps.toList.length - (z.cps.toList.takeWhile Bit).length := by rw [← takeWhile_drop, List.length_drop]
    have hb : ∃ b ∈ z.cps.toList.dropWhile Bit, Bit b = false := by
      have : ∃ b ∈ ls z, Bit b = false := by
        have := List.all_eq_false.mp ha
        obtain ⟨b, hb, hp⟩ := this
        exact ⟨b, hb, by simpa using hp⟩
      obtain ⟨b, hb, hp⟩ := this
      refine ⟨b, ?_, hp⟩
      have h3 : z.cps.toList = z.cps.toList.takeWhile Bit ++ z.cps.toList.dropWhile Bit := (List.takeWhile_append_dropWhile).symm
      rw [show ls z = z.cps.toList from rfl, h3] at hb
      rcases List.mem_append.mp hb with hb | hb
      · have := takeWhile_all hb
        rw [hp] at this; cases this
      · exact hb
    obtain ⟨b, hb, hp⟩ := hb
    have hlt := takeWhile_lt (p := Bit) (List.mem_reverse.mpr hb) hp
    rw [List.length_reverse] at hlt
    omega
theorem starts0 (z : Str) : Txt.startswith z "0" = ((ls z).head? == some 48) := by
  unfold Txt.startswith
  rw [zero_eq]
  obtain ⟨⟨l⟩⟩ := z
  cases l with
  | nil => rfl
  | cons a r =>
    have e1 : Builtin.Str.subAt ⟨⟨a :: r⟩⟩ ⟨#[48]⟩ 0 = (a == 48) := by
      show ((⟨a :: r⟩ : Array Nat).extract 0 (0 + 1) == #[48]) = (a == 48)
      rw [Bool.eq_iff_iff]
      simp [List.extract]
    rw [e1]
    show (decide (0 + 1 ≤ (a :: r).length) && (a == 48)) = (some a == some 48)
    simp
def okL (l : List Nat) : Bool := !(l.head? == some 48) && l.all Bit
end Tx
namespace Lw
open PySem PySem.Spec PyProof.Rows L2 Cy
abbrev Top (g : Wd) : Prop := TopOf fa fn fc fs gs PySem.Challenge.pw_carrylog_k55_rule_texts g
theorem gf_BadRule {g : Wd} (T : Top g) : Gf g "BadRule" := T.gf 0 1
theorem gv_BadRule {g : Wd} (T : Top g) : ∃ u, g.mg "BadRule" = some u ∧ RelV (.ref (gad g.K "BadRule")) u := T.gv 0
theorem gf_InvalidInput {g : Wd} (T : Top g) : Gf g "InvalidInput" := T.gf 2 3
theorem gv_InvalidInput {g : Wd} (T : Top g) : ∃ u, g.mg "InvalidInput" = some u ∧ RelV (.ref (gad g.K "InvalidInput")) u := T.gv 2
theorem gf_Keeper {g : Wd} (T : Top g) : Gf g "Keeper" := T.gf 4 5
theorem gv_Keeper {g : Wd} (T : Top g) : ∃ u, g.mg "Keeper" = some u ∧ RelV (.ref (gad g.K "Keeper")) u := T.gv 4
theorem gf_Round {g : Wd} (T : Top g) : Gf g "Round" := T.gf 6 7
theorem gv_Round {g : Wd} (T : Top g) : ∃ u, g.mg "Round" = some u ∧ RelV (.ref (gad g.K "Round")) u := T.gv 6
theorem gf_RuleKeeper {g : Wd} (T : Top g) : Gf g "RuleKeeper" := T.gf 8 9
theorem gv_RuleKeeper {g : Wd} (T : Top g) : ∃ u, g.mg "RuleKeeper" = some u ∧ RelV (.ref (gad g.K "RuleKeeper")) u := T.gv 8
theorem gf_StoreError {g : Wd} (T : Top g) : Gf g "StoreError" := T.gf 10 11
theorem gv_StoreError {g : Wd} (T : Top g) : ∃ u, g.mg "StoreError" = some u ∧ RelV (.ref (gad g.K "StoreError")) u := T.gv 10
theorem gf__applies {g : Wd} (T : Top g) : Gf g "_applies" := T.gf 12 13
theorem gv__applies {g : Wd} (T : Top g) : ∃ u, g.mg "_applies" = some u ∧ RelV (.ref (gad g.K "_applies")) u := T.gv 12
theorem gf__check_moment {g : Wd} (T : Top g) : Gf g "_check_moment" := T.gf 14 15
theorem gv__check_moment {g : Wd} (T : Top g) : ∃ u, g.mg "_check_moment" = some u ∧ RelV (.ref (gad g.K "_check_moment")) u := T.gv 14
theorem gf__fact {g : Wd} (T : Top g) : Gf g "_fact" := T.gf 16 17
theorem gv__fact {g : Wd} (T : Top g) : ∃ u, g.mg "_fact" = some u ∧ RelV (.ref (gad g.K "_fact")) u := T.gv 16
theorem gf__law_amount {g : Wd} (T : Top g) : Gf g "_law_amount" := T.gf 18 19
theorem gv__law_amount {g : Wd} (T : Top g) : ∃ u, g.mg "_law_amount" = some u ∧ RelV (.ref (gad g.K "_law_amount")) u := T.gv 18
theorem gf__law_amount_text {g : Wd} (T : Top g) : Gf g "_law_amount_text" := T.gf 20 21
theorem gv__law_amount_text {g : Wd} (T : Top g) : ∃ u, g.mg "_law_amount_text" = some u ∧ RelV (.ref (gad g.K "_law_amount_text")) u := T.gv 20
theorem gf__law_bent {g : Wd} (T : Top g) : Gf g "_law_bent" := T.gf 22 23
theorem gv__law_bent {g : Wd} (T : Top g) : ∃ u, g.mg "_law_bent" = some u ∧ RelV (.ref (gad g.K "_law_bent")) u := T.gv 22
theorem gf__law_box {g : Wd} (T : Top g) : Gf g "_law_box" := T.gf 24 25
theorem gv__law_box {g : Wd} (T : Top g) : ∃ u, g.mg "_law_box" = some u ∧ RelV (.ref (gad g.K "_law_box")) u := T.gv 24
theorem gf__law_chooses {g : Wd} (T : Top g) : Gf g "_law_chooses" := T.gf 26 27
theorem gv__law_chooses {g : Wd} (T : Top g) : ∃ u, g.mg "_law_chooses" = some u ∧ RelV (.ref (gad g.K "_law_chooses")) u := T.gv 26
theorem gf__law_digits {g : Wd} (T : Top g) : Gf g "_law_digits" := T.gf 28 29
theorem gv__law_digits {g : Wd} (T : Top g) : ∃ u, g.mg "_law_digits" = some u ∧ RelV (.ref (gad g.K "_law_digits")) u := T.gv 28
theorem gf__law_due {g : Wd} (T : Top g) : Gf g "_law_due" := T.gf 30 31
theorem gv__law_due {g : Wd} (T : Top g) : ∃ u, g.mg "_law_due" = some u ∧ RelV (.ref (gad g.K "_law_due")) u := T.gv 30
theorem gf__law_first_bad {g : Wd} (T : Top g) : Gf g "_law_first_bad" := T.gf 32 33
theorem gv__law_first_bad {g : Wd} (T : Top g) : ∃ u, g.mg "_law_first_bad" = some u ∧ RelV (.ref (gad g.K "_law_first_bad")) u := T.gv 32
theorem gf__law_healed {g : Wd} (T : Top g) : Gf g "_law_healed" := T.gf 34 35
theorem gv__law_healed {g : Wd} (T : Top g) : ∃ u, g.mg "_law_healed" = some u ∧ RelV (.ref (gad g.K "_law_healed")) u := T.gv 34
theorem gf__law_holds {g : Wd} (T : Top g) : Gf g "_law_holds" := T.gf 36 37
theorem gv__law_holds {g : Wd} (T : Top g) : ∃ u, g.mg "_law_holds" = some u ∧ RelV (.ref (gad g.K "_law_holds")) u := T.gv 36
theorem gf__law_is_count {g : Wd} (T : Top g) : Gf g "_law_is_count" := T.gf 38 39
theorem gv__law_is_count {g : Wd} (T : Top g) : ∃ u, g.mg "_law_is_count" = some u ∧ RelV (.ref (gad g.K "_law_is_count")) u := T.gv 38
theorem gf__law_line {g : Wd} (T : Top g) : Gf g "_law_line" := T.gf 40 41
theorem gv__law_line {g : Wd} (T : Top g) : ∃ u, g.mg "_law_line" = some u ∧ RelV (.ref (gad g.K "_law_line")) u := T.gv 40
theorem gf__law_number {g : Wd} (T : Top g) : Gf g "_law_number" := T.gf 42 43
theorem gv__law_number {g : Wd} (T : Top g) : ∃ u, g.mg "_law_number" = some u ∧ RelV (.ref (gad g.K "_law_number")) u := T.gv 42
theorem gf__law_odd_line {g : Wd} (T : Top g) : Gf g "_law_odd_line" := T.gf 44 45
theorem gv__law_odd_line {g : Wd} (T : Top g) : ∃ u, g.mg "_law_odd_line" = some u ∧ RelV (.ref (gad g.K "_law_odd_line")) u := T.gv 44
theorem gf__law_odd_word {g : Wd} (T : Top g) : Gf g "_law_odd_word" := T.gf 46 47
theorem gv__law_odd_word {g : Wd} (T : Top g) : ∃ u, g.mg "_law_odd_word" = some u ∧ RelV (.ref (gad g.K "_law_odd_word")) u := T.gv 46
theorem gf__law_pays {g : Wd} (T : Top g) : Gf g "_law_pays" := T.gf 48 49
theorem gv__law_pays {g : Wd} (T : Top g) : ∃ u, g.mg "_law_pays" = some u ∧ RelV (.ref (gad g.K "_law_pays")) u := T.gv 48
theorem gf__law_refused {g : Wd} (T : Top g) : Gf g "_law_refused" := T.gf 50 51
theorem gv__law_refused {g : Wd} (T : Top g) : ∃ u, g.mg "_law_refused" = some u ∧ RelV (.ref (gad g.K "_law_refused")) u := T.gv 50
theorem gf__law_round {g : Wd} (T : Top g) : Gf g "_law_round" := T.gf 52 53
theorem gv__law_round {g : Wd} (T : Top g) : ∃ u, g.mg "_law_round" = some u ∧ RelV (.ref (gad g.K "_law_round")) u := T.gv 52
theorem gf__law_rule {g : Wd} (T : Top g) : Gf g "_law_rule" := T.gf 54 55
theorem gv__law_rule {g : Wd} (T : Top g) : ∃ u, g.mg "_law_rule" = some u ∧ RelV (.ref (gad g.K "_law_rule")) u := T.gv 54
theorem gf__law_sign {g : Wd} (T : Top g) : Gf g "_law_sign" := T.gf 56 57
theorem gv__law_sign {g : Wd} (T : Top g) : ∃ u, g.mg "_law_sign" = some u ∧ RelV (.ref (gad g.K "_law_sign")) u := T.gv 56
theorem gf__law_stand {g : Wd} (T : Top g) : Gf g "_law_stand" := T.gf 58 59
theorem gv__law_stand {g : Wd} (T : Top g) : ∃ u, g.mg "_law_stand" = some u ∧ RelV (.ref (gad g.K "_law_stand")) u := T.gv 58
theorem gf__law_take {g : Wd} (T : Top g) : Gf g "_law_take" := T.gf 60 61
theorem gv__law_take {g : Wd} (T : Top g) : ∃ u, g.mg "_law_take" = some u ∧ RelV (.ref (gad g.K "_law_take")) u := T.gv 60
theorem gf__law_text {g : Wd} (T : Top g) : Gf g "_law_text" := T.gf 62 63
theorem gv__law_text {g : Wd} (T : Top g) : ∃ u, g.mg "_law_text" = some u ∧ RelV (.ref (gad g.K "_law_text")) u := T.gv 62
theorem gf__law_value {g : Wd} (T : Top g) : Gf g "_law_value" := T.gf 64 65
theorem gv__law_value {g : Wd} (T : Top g) : ∃ u, g.mg "_law_value" = some u ∧ RelV (.ref (gad g.K "_law_value")) u := T.gv 64
theorem gf__law_word {g : Wd} (T : Top g) : Gf g "_law_word" := T.gf 66 67
theorem gv__law_word {g : Wd} (T : Top g) : ∃ u, g.mg "_law_word" = some u ∧ RelV (.ref (gad g.K "_law_word")) u := T.gv 66
theorem gf__most_allowed {g : Wd} (T : Top g) : Gf g "_most_allowed" := T.gf 68 69
theorem gv__most_allowed {g : Wd} (T : Top g) : ∃ u, g.mg "_most_allowed" = some u ∧ RelV (.ref (gad g.K "_most_allowed")) u := T.gv 68
theorem gf__ones {g : Wd} (T : Top g) : Gf g "_ones" := T.gf 70 71
theorem gv__ones {g : Wd} (T : Top g) : ∃ u, g.mg "_ones" = some u ∧ RelV (.ref (gad g.K "_ones")) u := T.gv 70
theorem gf__read_condition {g : Wd} (T : Top g) : Gf g "_read_condition" := T.gf 72 73
theorem gv__read_condition {g : Wd} (T : Top g) : ∃ u, g.mg "_read_condition" = some u ∧ RelV (.ref (gad g.K "_read_condition")) u := T.gv 72
theorem gf__read_line {g : Wd} (T : Top g) : Gf g "_read_line" := T.gf 74 75
theorem gv__read_line {g : Wd} (T : Top g) : ∃ u, g.mg "_read_line" = some u ∧ RelV (.ref (gad g.K "_read_line")) u := T.gv 74
theorem gf__read_number {g : Wd} (T : Top g) : Gf g "_read_number" := T.gf 76 77
theorem gv__read_number {g : Wd} (T : Top g) : ∃ u, g.mg "_read_number" = some u ∧ RelV (.ref (gad g.K "_read_number")) u := T.gv 76
theorem gf__read_rules {g : Wd} (T : Top g) : Gf g "_read_rules" := T.gf 78 79
theorem gv__read_rules {g : Wd} (T : Top g) : ∃ u, g.mg "_read_rules" = some u ∧ RelV (.ref (gad g.K "_read_rules")) u := T.gv 78
theorem gf_at_least {g : Wd} (T : Top g) : Gf g "at_least" := T.gf 80 81
theorem gv_at_least {g : Wd} (T : Top g) : ∃ u, g.mg "at_least" = some u ∧ RelV (.ref (gad g.K "at_least")) u := T.gv 80
theorem gf_good_word {g : Wd} (T : Top g) : Gf g "good_word" := T.gf 82 83
theorem gv_good_word {g : Wd} (T : Top g) : ∃ u, g.mg "good_word" = some u ∧ RelV (.ref (gad g.K "good_word")) u := T.gv 82
theorem gf_law {g : Wd} (T : Top g) : Gf g "law" := T.gf 84 85
theorem gv_law {g : Wd} (T : Top g) : ∃ u, g.mg "law" = some u ∧ RelV (.ref (gad g.K "law")) u := T.gv 84
theorem gf_living {g : Wd} (T : Top g) : Gf g "living" := T.gf 86 87
theorem gv_living {g : Wd} (T : Top g) : ∃ u, g.mg "living" = some u ∧ RelV (.ref (gad g.K "living")) u := T.gv 86
theorem gf_whole_number {g : Wd} (T : Top g) : Gf g "whole_number" := T.gf 88 89
theorem gv_whole_number {g : Wd} (T : Top g) : ∃ u, g.mg "whole_number" = some u ∧ RelV (.ref (gad g.K "whole_number")) u := T.gv 88
theorem bl_ValueError {g : Wd} (T : Top g) : g.mg "ValueError" = none := T.blt 90
theorem bt_ValueError : bootBuiltins ("ValueError" : Str) = some (.type "ValueError") := by decide +kernel
theorem bl_abs {g : Wd} (T : Top g) : g.mg "abs" = none := T.blt 91
theorem bt_abs : bootBuiltins ("abs" : Str) = some (.builtin "abs") := by decide +kernel
theorem bl_all {g : Wd} (T : Top g) : g.mg "all" = none := T.blt 92
theorem bt_all : bootBuiltins ("all" : Str) = some (.builtin "all") := by decide +kernel
theorem bl_bool {g : Wd} (T : Top g) : g.mg "bool" = none := T.blt 93
theorem bt_bool : bootBuiltins ("bool" : Str) = some (.type "bool") := by decide +kernel
theorem bl_divmod {g : Wd} (T : Top g) : g.mg "divmod" = none := T.blt 94
theorem bt_divmod : bootBuiltins ("divmod" : Str) = some (.builtin "divmod") := by decide +kernel
theorem bl_enumerate {g : Wd} (T : Top g) : g.mg "enumerate" = none := T.blt 95
theorem bt_enumerate : bootBuiltins ("enumerate" : Str) = some (.type "enumerate") := by decide +kernel
theorem bl_int {g : Wd} (T : Top g) : g.mg "int" = none := T.blt 96
theorem bt_int : bootBuiltins ("int" : Str) = some (.type "int") := by decide +kernel
theorem bl_isinstance {g : Wd} (T : Top g) : g.mg "isinstance" = none := T.blt 97
theorem bt_isinstance : bootBuiltins ("isinstance" : Str) = some (.builtin "isinstance") := by decide +kernel
theorem bl_len {g : Wd} (T : Top g) : g.mg "len" = none := T.blt 98
theorem bt_len : bootBuiltins ("len" : Str) = some (.builtin "len") := by decide +kernel
theorem bl_list {g : Wd} (T : Top g) : g.mg "list" = none := T.blt 99
theorem bt_list : bootBuiltins ("list" : Str) = some (.type "list") := by decide +kernel
theorem bl_max {g : Wd} (T : Top g) : g.mg "max" = none := T.blt 100
theorem bt_max : bootBuiltins ("max" : Str) = some (.builtin "max") := by decide +kernel
theorem bl_min {g : Wd} (T : Top g) : g.mg "min" = none := T.blt 101
theorem bt_min : bootBuiltins ("min" : Str) = some (.builtin "min") := by decide +kernel
theorem bl_range {g : Wd} (T : Top g) : g.mg "range" = none := T.blt 102
theorem bt_range : bootBuiltins ("range" : Str) = some (.type "range") := by decide +kernel
theorem bl_str {g : Wd} (T : Top g) : g.mg "str" = none := T.blt 103
theorem bt_str : bootBuiltins ("str" : Str) = some (.type "str") := by decide +kernel
theorem bl_sum {g : Wd} (T : Top g) : g.mg "sum" = none := T.blt 104
theorem bt_sum : bootBuiltins ("sum" : Str) = some (.builtin "sum") := by decide +kernel
theorem bl_tuple {g : Wd} (T : Top g) : g.mg "tuple" = none := T.blt 105
theorem bt_tuple : bootBuiltins ("tuple" : Str) = some (.type "tuple") := by decide +kernel
theorem gc_DIGITS {g : Wd} (T : Top g) : ∃ u, g.mg "DIGITS" = some u ∧ RelV (.str "0123456789") u := T.gst 106
theorem gc_MOST_DIGITS {g : Wd} (T : Top g) : ∃ u, g.mg "MOST_DIGITS" = some u ∧ RelV (.int 3) u := T.gi 107
theorem gv_FACTS {g : Wd} (T : Top g) : ∃ u, g.mg "FACTS" = some u ∧ RelV (.ref (gad g.K "FACTS")) u := T.gv 108
theorem gt_FACTS {g : Wd} (T : Top g) (H : Hp) : SqT g.K H (gad g.K "FACTS") [V.str "free", V.str "living", V.str "dead", V.str "gap", V.str "budget"] := He.tupB_ok (T.chk 0) H
theorem gv_SIGNS {g : Wd} (T : Top g) : ∃ u, g.mg "SIGNS" = some u ∧ RelV (.ref (gad g.K "SIGNS")) u := T.gv 109
theorem gt_SIGNS {g : Wd} (T : Top g) (H : Hp) : SqT g.K H (gad g.K "SIGNS") [V.str "<=", V.str ">=", V.str "=="] := He.tupB_ok (T.chk 1) H
theorem cl_Keeper {g : Wd} (T : Top g) : Cls g.K (gad g.K "Keeper") := T.cls 110
theorem ty_Keeper {g : Wd} (T : Top g) {H : Hp} {a dx : Addr} {fs : List (Str × V)} (e : H a = some (.ins (gad g.K "Keeper") dx fs)) : TyX g.K H (.ref a) (.ref (gad g.K "Keeper")) := tyB_ok (T.chk 2) (cl_Keeper T) e
theorem mt_Keeper_choose {g : Wd} (T : Top g) : Meth g.K (gad g.K "Keeper") "choose" (mad g.K (gad g.K "Keeper") "choose") := T.meth 111
theorem mt_Keeper_label {g : Wd} (T : Top g) : Meth g.K (gad g.K "Keeper") "label" (mad g.K (gad g.K "Keeper") "label") := T.meth 112
theorem mz_Keeper {g : Wd} (T : Top g) : MkZ g.K (gad g.K "Keeper") := mkzB_ok (T.chk 3)
theorem kt_Keeper_Keeper {g : Wd} (T : Top g) : PySem.W.kitOne g.K (.ref (gad g.K "Keeper")) (.ref (gad g.K "Keeper")) = some true := kitC_ok (T.chk 4)
theorem kt_Keeper_RuleKeeper {g : Wd} (T : Top g) : PySem.W.kitOne g.K (.ref (gad g.K "Keeper")) (.ref (gad g.K "RuleKeeper")) = some false := kitC_ok (T.chk 5)
theorem kt_Keeper_Round {g : Wd} (T : Top g) : PySem.W.kitOne g.K (.ref (gad g.K "Keeper")) (.ref (gad g.K "Round")) = some false := kitC_ok (T.chk 6)
theorem cl_RuleKeeper {g : Wd} (T : Top g) : Cls g.K (gad g.K "RuleKeeper") := T.cls 113
theorem ty_RuleKeeper {g : Wd} (T : Top g) {H : Hp} {a dx : Addr} {fs : List (Str × V)} (e : H a = some (.ins (gad g.K "RuleKeeper") dx fs)) : TyX g.K H (.ref a) (.ref (gad g.K "RuleKeeper")) := tyB_ok (T.chk 7) (cl_RuleKeeper T) e
theorem mt_RuleKeeper_choose {g : Wd} (T : Top g) : Meth g.K (gad g.K "RuleKeeper") "choose" (mad g.K (gad g.K "RuleKeeper") "choose") := T.meth 114
theorem mt_RuleKeeper_label {g : Wd} (T : Top g) : Meth g.K (gad g.K "RuleKeeper") "label" (mad g.K (gad g.K "RuleKeeper") "label") := T.meth 115
theorem na_RuleKeeper__rules {g : Wd} (T : Top g) : NoAttr g.K (gad g.K "RuleKeeper") "_rules" := T.noat 116
theorem mk_RuleKeeper {g : Wd} (T : Top g) : Mk g.K (gad g.K "RuleKeeper") (mad g.K (gad g.K "RuleKeeper") "__init__") := T.mkr 117
theorem kt_RuleKeeper_Keeper {g : Wd} (T : Top g) : PySem.W.kitOne g.K (.ref (gad g.K "RuleKeeper")) (.ref (gad g.K "Keeper")) = some true := kitC_ok (T.chk 8)
theorem kt_RuleKeeper_RuleKeeper {g : Wd} (T : Top g) : PySem.W.kitOne g.K (.ref (gad g.K "RuleKeeper")) (.ref (gad g.K "RuleKeeper")) = some true := kitC_ok (T.chk 9)
theorem kt_RuleKeeper_Round {g : Wd} (T : Top g) : PySem.W.kitOne g.K (.ref (gad g.K "RuleKeeper")) (.ref (gad g.K "Round")) = some false := kitC_ok (T.chk 10)
theorem cl_Round {g : Wd} (T : Top g) : Cls g.K (gad g.K "Round") := T.cls 118
theorem ty_Round {g : Wd} (T : Top g) {H : Hp} {a dx : Addr} {fs : List (Str × V)} (e : H a = some (.ins (gad g.K "Round") dx fs)) : TyX g.K H (.ref a) (.ref (gad g.K "Round")) := tyB_ok (T.chk 11) (cl_Round T) e
theorem pr_Round_budgets {g : Wd} (T : Top g) : PropOf g.K (gad g.K "Round") "budgets" (pad g.K "Round" "budgets") (pgt g.K "Round" "budgets") := propB_ok (T.chk 12)
theorem du_Round_len {g : Wd} (T : Top g) : PySem.W.findIn g.K (.ref (gad g.K "Round")) "__len__" = some (some (.ref (mad g.K (gad g.K "Round") "__len__"))) ∧ PySem.W.isFn g.K (.ref (mad g.K (gad g.K "Round") "__len__")) = true := dunB_ok (T.chk 13)
theorem du_Round_add {g : Wd} (T : Top g) : PySem.W.findIn g.K (.ref (gad g.K "Round")) "__add__" = some (some (.ref (mad g.K (gad g.K "Round") "__add__"))) ∧ PySem.W.isFn g.K (.ref (mad g.K (gad g.K "Round") "__add__")) = true := dunB_ok (T.chk 14)
theorem mt_Round_at {g : Wd} (T : Top g) : Meth g.K (gad g.K "Round") "at" (mad g.K (gad g.K "Round") "at") := T.meth 119
theorem mt_Round_shifted {g : Wd} (T : Top g) : Meth g.K (gad g.K "Round") "shifted" (mad g.K (gad g.K "Round") "shifted") := T.meth 120
theorem mt_Round_total {g : Wd} (T : Top g) : Meth g.K (gad g.K "Round") "total" (mad g.K (gad g.K "Round") "total") := T.meth 121
theorem mt_Round_least {g : Wd} (T : Top g) : Meth g.K (gad g.K "Round") "least" (mad g.K (gad g.K "Round") "least") := T.meth 122
theorem mt_Round_worst_start {g : Wd} (T : Top g) : Meth g.K (gad g.K "Round") "worst_start" (mad g.K (gad g.K "Round") "worst_start") := T.meth 123
theorem mt_Round_reach {g : Wd} (T : Top g) : Meth g.K (gad g.K "Round") "reach" (mad g.K (gad g.K "Round") "reach") := T.meth 124
theorem mt_Round__window {g : Wd} (T : Top g) : Meth g.K (gad g.K "Round") "_window" (mad g.K (gad g.K "Round") "_window") := T.meth 125
theorem mt_Round__windows {g : Wd} (T : Top g) : Meth g.K (gad g.K "Round") "_windows" (mad g.K (gad g.K "Round") "_windows") := T.meth 126
theorem na_Round__budgets {g : Wd} (T : Top g) : NoAttr g.K (gad g.K "Round") "_budgets" := T.noat 127
theorem mk_Round {g : Wd} (T : Top g) : Mk g.K (gad g.K "Round") (mad g.K (gad g.K "Round") "__init__") := T.mkr 128
theorem sf_Round {g : Wd} (T : Top g) : PySem.W.selfFirst g.K (gad g.K "Round") = true := T.chk 15 (c := selfB "Round")
theorem kt_Round_Keeper {g : Wd} (T : Top g) : PySem.W.kitOne g.K (.ref (gad g.K "Round")) (.ref (gad g.K "Keeper")) = some false := kitC_ok (T.chk 16)
theorem kt_Round_RuleKeeper {g : Wd} (T : Top g) : PySem.W.kitOne g.K (.ref (gad g.K "Round")) (.ref (gad g.K "RuleKeeper")) = some false := kitC_ok (T.chk 17)
theorem kt_Round_Round {g : Wd} (T : Top g) : PySem.W.kitOne g.K (.ref (gad g.K "Round")) (.ref (gad g.K "Round")) = some true := kitC_ok (T.chk 18)
theorem cvl_Round_MOST {g : Wd} (T : Top g) : ∃ u, ClX.CRead g.K (gad g.K "Round") (.type "type") ∧ ClX.CVal g.K (gad g.K "Round") (.type "type") "MOST" (.int 12) u := cvalB_ok (T.chk 19)
theorem ox_InvalidInput {g : Wd} (T : Top g) : OexC g.K (gad g.K "InvalidInput") := oexB_ok (T.chk 20)
theorem ei_InvalidInput {g : Wd} (T : Top g) : PySem.W.findIn g.K (.ref (gad g.K "InvalidInput")) "__init__" = some (some (.ref (mad g.K (gad g.K "InvalidInput") "__init__"))) ∧ PySem.W.typeIn g.K (.ref (mad g.K (gad g.K "InvalidInput") "__init__")) = some (.type "function") := einB_ok (T.chk 21)
theorem xf_InvalidInput {g : Wd} (T : Top g) : XfC g.K (gad g.K "InvalidInput") := xfC_ok (T.chk 22)
theorem ec_InvalidInput {g : Wd} (T : Top g) : ExcC g.K (gad g.K "InvalidInput") := excB_ok (T.chk 23)
theorem na_InvalidInput_field {g : Wd} (T : Top g) : NoAttr g.K (gad g.K "InvalidInput") "field" := T.noat 129
theorem su_InvalidInput {g : Wd} (T : Top g) : ∃ cc cdv, SupD g.P g.K (gad g.K "InvalidInput") (mad g.K (gad g.K "InvalidInput") "__init__") "__init__" s0.qual s0.params s0.body s0.scope cc cdv := T.sup 0 24 (d := s0) (file := PySem.Challenge.pw_carrylog_k55_rule_texts.main.file)
theorem kt_InvalidInput_StoreError {g : Wd} (T : Top g) : PySem.W.kitOne g.K (.ref (gad g.K "InvalidInput")) (.ref (gad g.K "StoreError")) = some true := kitC_ok (T.chk 25)
theorem kt_InvalidInput_InvalidInput {g : Wd} (T : Top g) : PySem.W.kitOne g.K (.ref (gad g.K "InvalidInput")) (.ref (gad g.K "InvalidInput")) = some true := kitC_ok (T.chk 26)
theorem kt_InvalidInput_BadRule {g : Wd} (T : Top g) : PySem.W.kitOne g.K (.ref (gad g.K "InvalidInput")) (.ref (gad g.K "BadRule")) = some false := kitC_ok (T.chk 27)
theorem em_InvalidInput_StoreError {g : Wd} (T : Top g) : PySem.W.exmOne g.K (.ref (gad g.K "InvalidInput")) (.ref (gad g.K "StoreError")) = some true := T.exm 130
theorem em_InvalidInput_InvalidInput {g : Wd} (T : Top g) : PySem.W.exmOne g.K (.ref (gad g.K "InvalidInput")) (.ref (gad g.K "InvalidInput")) = some true := T.exm 131
theorem em_InvalidInput_BadRule {g : Wd} (T : Top g) : PySem.W.exmOne g.K (.ref (gad g.K "InvalidInput")) (.ref (gad g.K "BadRule")) = some false := T.exm 132
theorem kv_InvalidInput {g : Wd} (T : Top g) : PySem.W.kitOne g.K (.ref (gad g.K "InvalidInput")) (.type "ValueError") = some true := kitT_ok (T.chk 28)
theorem ox_BadRule {g : Wd} (T : Top g) : OexC g.K (gad g.K "BadRule") := oexB_ok (T.chk 29)
theorem ei_BadRule {g : Wd} (T : Top g) : PySem.W.findIn g.K (.ref (gad g.K "BadRule")) "__init__" = some (some (.ref (mad g.K (gad g.K "BadRule") "__init__"))) ∧ PySem.W.typeIn g.K (.ref (mad g.K (gad g.K "BadRule") "__init__")) = some (.type "function") := einB_ok (T.chk 30)
theorem xf_BadRule {g : Wd} (T : Top g) : XfC g.K (gad g.K "BadRule") := xfC_ok (T.chk 31)
theorem ec_BadRule {g : Wd} (T : Top g) : ExcC g.K (gad g.K "BadRule") := excB_ok (T.chk 32)
theorem na_BadRule_line {g : Wd} (T : Top g) : NoAttr g.K (gad g.K "BadRule") "line" := T.noat 133
theorem su_BadRule {g : Wd} (T : Top g) : ∃ cc cdv, SupD g.P g.K (gad g.K "BadRule") (mad g.K (gad g.K "BadRule") "__init__") "__init__" s1.qual s1.params s1.body s1.scope cc cdv := T.sup 1 33 (d := s1) (file := PySem.Challenge.pw_carrylog_k55_rule_texts.main.file)
theorem kt_BadRule_StoreError {g : Wd} (T : Top g) : PySem.W.kitOne g.K (.ref (gad g.K "BadRule")) (.ref (gad g.K "StoreError")) = some true := kitC_ok (T.chk 34)
theorem kt_BadRule_InvalidInput {g : Wd} (T : Top g) : PySem.W.kitOne g.K (.ref (gad g.K "BadRule")) (.ref (gad g.K "InvalidInput")) = some false := kitC_ok (T.chk 35)
theorem kt_BadRule_BadRule {g : Wd} (T : Top g) : PySem.W.kitOne g.K (.ref (gad g.K "BadRule")) (.ref (gad g.K "BadRule")) = some true := kitC_ok (T.chk 36)
theorem em_BadRule_StoreError {g : Wd} (T : Top g) : PySem.W.exmOne g.K (.ref (gad g.K "BadRule")) (.ref (gad g.K "StoreError")) = some true := T.exm 134
theorem em_BadRule_InvalidInput {g : Wd} (T : Top g) : PySem.W.exmOne g.K (.ref (gad g.K "BadRule")) (.ref (gad g.K "InvalidInput")) = some false := T.exm 135
theorem em_BadRule_BadRule {g : Wd} (T : Top g) : PySem.W.exmOne g.K (.ref (gad g.K "BadRule")) (.ref (gad g.K "BadRule")) = some true := T.exm 136
theorem kv_BadRule {g : Wd} (T : Top g) : PySem.W.kitOne g.K (.ref (gad g.K "BadRule")) (.type "ValueError") = some true := kitT_ok (T.chk 37)
theorem fd__wall {g : Wd} (T : Top g) : ∃ fd, FunD g.K d0.name d0.qual d0.params d0.body d0.scope (d0.dvs g.K) (d0.kws g.K) (He.fAd g.K d0.at_) fd := T.dat 0
theorem fd_at_least {g : Wd} (T : Top g) : ∃ fd, FunD g.K d1.name d1.qual d1.params d1.body d1.scope (d1.dvs g.K) (d1.kws g.K) (He.fAd g.K d1.at_) fd := T.dat 1
theorem fd_whole_number {g : Wd} (T : Top g) : ∃ fd, FunD g.K d2.name d2.qual d2.params d2.body d2.scope (d2.dvs g.K) (d2.kws g.K) (He.fAd g.K d2.at_) fd := T.dat 2
theorem fd_good_word {g : Wd} (T : Top g) : ∃ fd, FunD g.K d3.name d3.qual d3.params d3.body d3.scope (d3.dvs g.K) (d3.kws g.K) (He.fAd g.K d3.at_) fd := T.dat 3
theorem fd_living {g : Wd} (T : Top g) : ∃ fd, FunD g.K d4.name d4.qual d4.params d4.body d4.scope (d4.dvs g.K) (d4.kws g.K) (He.fAd g.K d4.at_) fd := T.dat 4
theorem fd__ones {g : Wd} (T : Top g) : ∃ fd, FunD g.K d5.name d5.qual d5.params d5.body d5.scope (d5.dvs g.K) (d5.kws g.K) (He.fAd g.K d5.at_) fd := T.dat 5
theorem fd__check_moment {g : Wd} (T : Top g) : ∃ fd, FunD g.K d6.name d6.qual d6.params d6.body d6.scope (d6.dvs g.K) (d6.kws g.K) (He.fAd g.K d6.at_) fd := T.dat 6
theorem fd__most_allowed {g : Wd} (T : Top g) : ∃ fd, FunD g.K d7.name d7.qual d7.params d7.body d7.scope (d7.dvs g.K) (d7.kws g.K) (He.fAd g.K d7.at_) fd := T.dat 7
theorem fd__read_number {g : Wd} (T : Top g) : ∃ fd, FunD g.K d8.name d8.qual d8.params d8.body d8.scope (d8.dvs g.K) (d8.kws g.K) (He.fAd g.K d8.at_) fd := T.dat 8
theorem fd__read_condition {g : Wd} (T : Top g) : ∃ fd, FunD g.K d9.name d9.qual d9.params d9.body d9.scope (d9.dvs g.K) (d9.kws g.K) (He.fAd g.K d9.at_) fd := T.dat 9
theorem fd__read_line {g : Wd} (T : Top g) : ∃ fd, FunD g.K d10.name d10.qual d10.params d10.body d10.scope (d10.dvs g.K) (d10.kws g.K) (He.fAd g.K d10.at_) fd := T.dat 10
theorem fd__read_rules {g : Wd} (T : Top g) : ∃ fd, FunD g.K d11.name d11.qual d11.params d11.body d11.scope (d11.dvs g.K) (d11.kws g.K) (He.fAd g.K d11.at_) fd := T.dat 11
theorem fd__fact {g : Wd} (T : Top g) : ∃ fd, FunD g.K d12.name d12.qual d12.params d12.body d12.scope (d12.dvs g.K) (d12.kws g.K) (He.fAd g.K d12.at_) fd := T.dat 12
theorem fd__applies {g : Wd} (T : Top g) : ∃ fd, FunD g.K d13.name d13.qual d13.params d13.body d13.scope (d13.dvs g.K) (d13.kws g.K) (He.fAd g.K d13.at_) fd := T.dat 13
theorem fd_Keeper_choose {g : Wd} (T : Top g) : ∃ fd, FunD g.K d14.name d14.qual d14.params d14.body d14.scope (d14.dvs g.K) (d14.kws g.K) (He.fAd g.K d14.at_) fd := T.dat 14
theorem fd_Keeper_label {g : Wd} (T : Top g) : ∃ fd, FunD g.K d15.name d15.qual d15.params d15.body d15.scope (d15.dvs g.K) (d15.kws g.K) (He.fAd g.K d15.at_) fd := T.dat 15
theorem fd_RuleKeeper_init_ {g : Wd} (T : Top g) : ∃ fd, FunD g.K d16.name d16.qual d16.params d16.body d16.scope (d16.dvs g.K) (d16.kws g.K) (He.fAd g.K d16.at_) fd := T.dat 16
theorem fd_RuleKeeper_choose {g : Wd} (T : Top g) : ∃ fd, FunD g.K d17.name d17.qual d17.params d17.body d17.scope (d17.dvs g.K) (d17.kws g.K) (He.fAd g.K d17.at_) fd := T.dat 17
theorem fd_RuleKeeper_label {g : Wd} (T : Top g) : ∃ fd, FunD g.K d18.name d18.qual d18.params d18.body d18.scope (d18.dvs g.K) (d18.kws g.K) (He.fAd g.K d18.at_) fd := T.dat 18
theorem fd_Round_init_ {g : Wd} (T : Top g) : ∃ fd, FunD g.K d19.name d19.qual d19.params d19.body d19.scope (d19.dvs g.K) (d19.kws g.K) (He.fAd g.K d19.at_) fd := T.dat 19
theorem fd_Round_len_ {g : Wd} (T : Top g) : ∃ fd, FunD g.K d20.name d20.qual d20.params d20.body d20.scope (d20.dvs g.K) (d20.kws g.K) (He.fAd g.K d20.at_) fd := T.dat 20
theorem fd_Round_eq_ {g : Wd} (T : Top g) : ∃ fd, FunD g.K d21.name d21.qual d21.params d21.body d21.scope (d21.dvs g.K) (d21.kws g.K) (He.fAd g.K d21.at_) fd := T.dat 21
theorem fd_Round_add_ {g : Wd} (T : Top g) : ∃ fd, FunD g.K d22.name d22.qual d22.params d22.body d22.scope (d22.dvs g.K) (d22.kws g.K) (He.fAd g.K d22.at_) fd := T.dat 22
theorem fd_Round_at {g : Wd} (T : Top g) : ∃ fd, FunD g.K d23.name d23.qual d23.params d23.body d23.scope (d23.dvs g.K) (d23.kws g.K) (He.fAd g.K d23.at_) fd := T.dat 23
theorem fd_Round_shifted {g : Wd} (T : Top g) : ∃ fd, FunD g.K d24.name d24.qual d24.params d24.body d24.scope (d24.dvs g.K) (d24.kws g.K) (He.fAd g.K d24.at_) fd := T.dat 24
theorem fd_Round_total {g : Wd} (T : Top g) : ∃ fd, FunD g.K d25.name d25.qual d25.params d25.body d25.scope (d25.dvs g.K) (d25.kws g.K) (He.fAd g.K d25.at_) fd := T.dat 25
theorem fd_Round_least {g : Wd} (T : Top g) : ∃ fd, FunD g.K d26.name d26.qual d26.params d26.body d26.scope (d26.dvs g.K) (d26.kws g.K) (He.fAd g.K d26.at_) fd := T.dat 26
theorem fd_Round_worst_start {g : Wd} (T : Top g) : ∃ fd, FunD g.K d27.name d27.qual d27.params d27.body d27.scope (d27.dvs g.K) (d27.kws g.K) (He.fAd g.K d27.at_) fd := T.dat 27
theorem fd_Round_reach {g : Wd} (T : Top g) : ∃ fd, FunD g.K d28.name d28.qual d28.params d28.body d28.scope (d28.dvs g.K) (d28.kws g.K) (He.fAd g.K d28.at_) fd := T.dat 28
theorem fd_Round__window {g : Wd} (T : Top g) : ∃ fd, FunD g.K d29.name d29.qual d29.params d29.body d29.scope (d29.dvs g.K) (d29.kws g.K) (He.fAd g.K d29.at_) fd := T.dat 29
theorem fd_Round__windows {g : Wd} (T : Top g) : ∃ fd, FunD g.K d30.name d30.qual d30.params d30.body d30.scope (d30.dvs g.K) (d30.kws g.K) (He.fAd g.K d30.at_) fd := T.dat 30
theorem fd__law_is_count {g : Wd} (T : Top g) : ∃ fd, FunD g.K d31.name d31.qual d31.params d31.body d31.scope (d31.dvs g.K) (d31.kws g.K) (He.fAd g.K d31.at_) fd := T.dat 31
theorem fd__law_box {g : Wd} (T : Top g) : ∃ fd, FunD g.K d32.name d32.qual d32.params d32.body d32.scope (d32.dvs g.K) (d32.kws g.K) (He.fAd g.K d32.at_) fd := T.dat 32
theorem fd__law_take {g : Wd} (T : Top g) : ∃ fd, FunD g.K d33.name d33.qual d33.params d33.body d33.scope (d33.dvs g.K) (d33.kws g.K) (He.fAd g.K d33.at_) fd := T.dat 33
theorem fd__law_round {g : Wd} (T : Top g) : ∃ fd, FunD g.K d34.name d34.qual d34.params d34.body d34.scope (d34.dvs g.K) (d34.kws g.K) (He.fAd g.K d34.at_) fd := T.dat 34
theorem fd__law_pays {g : Wd} (T : Top g) : ∃ fd, FunD g.K d35.name d35.qual d35.params d35.body d35.scope (d35.dvs g.K) (d35.kws g.K) (He.fAd g.K d35.at_) fd := T.dat 35
theorem fd__law_word {g : Wd} (T : Top g) : ∃ fd, FunD g.K d36.name d36.qual d36.params d36.body d36.scope (d36.dvs g.K) (d36.kws g.K) (He.fAd g.K d36.at_) fd := T.dat 36
theorem fd__law_stand {g : Wd} (T : Top g) : ∃ fd, FunD g.K d37.name d37.qual d37.params d37.body d37.scope (d37.dvs g.K) (d37.kws g.K) (He.fAd g.K d37.at_) fd := T.dat 37
theorem fd__law_value {g : Wd} (T : Top g) : ∃ fd, FunD g.K d38.name d38.qual d38.params d38.body d38.scope (d38.dvs g.K) (d38.kws g.K) (He.fAd g.K d38.at_) fd := T.dat 38
theorem fd__law_digits {g : Wd} (T : Top g) : ∃ fd, FunD g.K d39.name d39.qual d39.params d39.body d39.scope (d39.dvs g.K) (d39.kws g.K) (He.fAd g.K d39.at_) fd := T.dat 39
theorem fd__law_amount_text {g : Wd} (T : Top g) : ∃ fd, FunD g.K d40.name d40.qual d40.params d40.body d40.scope (d40.dvs g.K) (d40.kws g.K) (He.fAd g.K d40.at_) fd := T.dat 40
theorem fd__law_line {g : Wd} (T : Top g) : ∃ fd, FunD g.K d41.name d41.qual d41.params d41.body d41.scope (d41.dvs g.K) (d41.kws g.K) (He.fAd g.K d41.at_) fd := T.dat 41
theorem fd__law_odd_word {g : Wd} (T : Top g) : ∃ fd, FunD g.K d42.name d42.qual d42.params d42.body d42.scope (d42.dvs g.K) (d42.kws g.K) (He.fAd g.K d42.at_) fd := T.dat 42
theorem fd__law_odd_line {g : Wd} (T : Top g) : ∃ fd, FunD g.K d43.name d43.qual d43.params d43.body d43.scope (d43.dvs g.K) (d43.kws g.K) (He.fAd g.K d43.at_) fd := T.dat 43
theorem fd__law_sign {g : Wd} (T : Top g) : ∃ fd, FunD g.K d44.name d44.qual d44.params d44.body d44.scope (d44.dvs g.K) (d44.kws g.K) (He.fAd g.K d44.at_) fd := T.dat 44
theorem fd__law_bent {g : Wd} (T : Top g) : ∃ fd, FunD g.K d45.name d45.qual d45.params d45.body d45.scope (d45.dvs g.K) (d45.kws g.K) (He.fAd g.K d45.at_) fd := T.dat 45
theorem fd__law_text {g : Wd} (T : Top g) : ∃ fd, FunD g.K d46.name d46.qual d46.params d46.body d46.scope (d46.dvs g.K) (d46.kws g.K) (He.fAd g.K d46.at_) fd := T.dat 46
theorem fd__law_number {g : Wd} (T : Top g) : ∃ fd, FunD g.K d47.name d47.qual d47.params d47.body d47.scope (d47.dvs g.K) (d47.kws g.K) (He.fAd g.K d47.at_) fd := T.dat 47
theorem fd__law_amount {g : Wd} (T : Top g) : ∃ fd, FunD g.K d48.name d48.qual d48.params d48.body d48.scope (d48.dvs g.K) (d48.kws g.K) (He.fAd g.K d48.at_) fd := T.dat 48
theorem fd__law_rule {g : Wd} (T : Top g) : ∃ fd, FunD g.K d49.name d49.qual d49.params d49.body d49.scope (d49.dvs g.K) (d49.kws g.K) (He.fAd g.K d49.at_) fd := T.dat 49
theorem fd__law_holds {g : Wd} (T : Top g) : ∃ fd, FunD g.K d50.name d50.qual d50.params d50.body d50.scope (d50.dvs g.K) (d50.kws g.K) (He.fAd g.K d50.at_) fd := T.dat 50
theorem fd__law_due {g : Wd} (T : Top g) : ∃ fd, FunD g.K d51.name d51.qual d51.params d51.body d51.scope (d51.dvs g.K) (d51.kws g.K) (He.fAd g.K d51.at_) fd := T.dat 51
theorem fd__law_first_bad {g : Wd} (T : Top g) : ∃ fd, FunD g.K d52.name d52.qual d52.params d52.body d52.scope (d52.dvs g.K) (d52.kws g.K) (He.fAd g.K d52.at_) fd := T.dat 52
theorem fd__law_refused {g : Wd} (T : Top g) : ∃ fd, FunD g.K d53.name d53.qual d53.params d53.body d53.scope (d53.dvs g.K) (d53.kws g.K) (He.fAd g.K d53.at_) fd := T.dat 53
theorem fd__law_healed {g : Wd} (T : Top g) : ∃ fd, FunD g.K d54.name d54.qual d54.params d54.body d54.scope (d54.dvs g.K) (d54.kws g.K) (He.fAd g.K d54.at_) fd := T.dat 54
theorem fd__law_chooses {g : Wd} (T : Top g) : ∃ fd, FunD g.K d55.name d55.qual d55.params d55.body d55.scope (d55.dvs g.K) (d55.kws g.K) (He.fAd g.K d55.at_) fd := T.dat 55
theorem fd_law {g : Wd} (T : Top g) : ∃ fd, FunD g.K d56.name d56.qual d56.params d56.body d56.scope (d56.dvs g.K) (d56.kws g.K) (He.fAd g.K d56.at_) fd := T.dat 56
theorem fd_Round_budgets {g : Wd} (T : Top g) : ∃ fd, FunD g.K g0.f g0.qual g0.params g0.body g0.scope [] [] (pgt g.K "Round" "budgets") fd := T.get 0 38
section
theorem sc_at_least : FnScope ["value", "least", "field"] ["value", "least", "field"] (defScope (top 6)) := ⟨rfl, rfl, rfl, by decide +kernel, rfl, by decide +kernel, by decide +kernel⟩
def rd_at_least (g : Wd) (j : Nat) (E : XK) : TS :=
  tIfS (cTest (tOp cLt (cV 0) (cV 1))) (cRaise (cRais g j (gad g.K "InvalidInput") (tCons (cV 2) (tNil))) (fun cls d _ H => E cls d H)) (tNext)
theorem dv_at_least {g : Wd} (T : Top g) {j : Nat} {f : Addr} {cdv : Value} {A : Around} {outer : List Env} {s : Shared} {H : Hp} {E : XK} (hr : Room (j + 1) (A.deeper (envOfC "at_least" (defScope (top 6)) s.heap.objs.size f cdv))) :
    PSs (cxOf (L2.CX g.P g.w) g.P g.w g.K g.mg g.base ["value", "least", "field"] "at_least" (defScope (top 6)) f cdv A outer s H E) (defBody (top 6)) (rd_at_least g j E) := by
  unfold rd_at_least
  exact (pss_one (ps_if (ptc op_cLt (cv 0) (cv 1) (nomark _)) (pss_one (ps_cRaise rfl (takes_of rfl rfl rfl rfl) (hr.mono (Nat.le_succ _)) (gf_InvalidInput T) (by rfl) (pa_cons (cv 2) pa_nil))) pss_nil))
theorem ok_at_least {g : Wd} (T : Top g) {fd : FuncData} (F : FunD g.K "at_least" "at_least" (defArgs (top 6)) (defBody (top 6)) (defScope (top 6)) [] [] (gad g.K "at_least") fd) {j : Nat} {sp : Sp} (h : ∀ vs H Q E, sp vs H Q E → vs.length = 3 ∧ rd_at_least g j E { nx := fun _ H1 => Q .non H1, rt := Q } (L2.start ["value", "least", "field"] vs) H) : FnOk g.P g.w g.K g.mg g.base (L2.CX g.P g.w) (j + 2) (gad g.K "at_least") fd ["value", "least", "field"] sp :=
  FunD.ok F sc_at_least (fun vs H Q E hh => (h vs H Q E hh).1) fun cdv A outer s H vs Q E hr hh => ⟨rd_at_least g j E, dv_at_least T hr, (h vs H Q E hh).2⟩
theorem fk_at_least {g : Wd} (T : Top g) (j : Nat) {sp : Sp} (h : ∀ vs H Q E, sp vs H Q E → vs.length = 3 ∧ rd_at_least g j E { nx := fun _ H1 => Q .non H1, rt := Q } (L2.start ["value", "least", "field"] vs) H) : FnG g (j + 2) (gad g.K "at_least") sp := by
  obtain ⟨fd, F⟩ := fd_at_least T
  exact fnG_of (ok_at_least T F h) (FunD.bindsN F fun _ _ _ _ _ _ us hl => match us, hl with | [_, _, _], _ => rfl)
theorem sc_whole_number : FnScope ["value", "field"] ["value", "field"] (defScope (top 7)) := ⟨rfl, rfl, rfl, by decide +kernel, rfl, by decide +kernel, by decide +kernel⟩
def rd_whole_number (g : Wd) (j : Nat) (E : XK) : TS :=
  tIfS (tOr (cTru g.K (tCB (cIsi g.K) (tCons (cV 0) (tCons (tC (.ty "bool")) (tNil))))) (tNot (cTru g.K (tCB (cIsi g.K) (tCons (cV 0) (tCons (tC (.ty "int")) (tNil))))))) (cRaise (cRais g j (gad g.K "InvalidInput") (tCons (cV 1) (tNil))) (fun cls d _ H => E cls d H)) (tNext)
theorem dv_whole_number {g : Wd} (T : Top g) {j : Nat} {f : Addr} {cdv : Value} {A : Around} {outer : List Env} {s : Shared} {H : Hp} {E : XK} (hr : Room (j + 1) (A.deeper (envOfC "whole_number" (defScope (top 7)) s.heap.objs.size f cdv))) :
    PSs (cxOf (L2.CX g.P g.w) g.P g.w g.K g.mg g.base ["value", "field"] "whole_number" (defScope (top 7)) f cdv A outer s H E) (defBody (top 7)) (rd_whole_number g j E) := by
  unfold rd_whole_number
  exact (pss_one (ps_if (pw_or (ptv (pe_callB (call_cIsi) (by rfl) (bl_isinstance T) bt_isinstance (pa_cons (cv 0) (pa_cons (pe_bltn (v := .ty "bool") (by rfl) (bl_bool T) bt_bool (by rfl)) pa_nil)))) (pw_or1 (pt_not (ptv (pe_callB (call_cIsi) (by rfl) (bl_isinstance T) bt_isinstance (pa_cons (cv 0) (pa_cons (pe_bltn (v := .ty "int") (by rfl) (bl_int T) bt_int (by rfl)) pa_nil))))))).pt (pss_one (ps_cRaise rfl (takes_of rfl rfl rfl rfl) (hr.mono (Nat.le_succ _)) (gf_InvalidInput T) (by rfl) (pa_cons (cv 1) pa_nil))) pss_nil))
theorem ok_whole_number {g : Wd} (T : Top g) {fd : FuncData} (F : FunD g.K "whole_number" "whole_number" (defArgs (top 7)) (defBody (top 7)) (defScope (top 7)) [] [] (gad g.K "whole_number") fd) {j : Nat} {sp : Sp} (h : ∀ vs H Q E, sp vs H Q E → vs.length = 2 ∧ rd_whole_number g j E { nx := fun _ H1 => Q .non H1, rt := Q } (L2.start ["value", "field"] vs) H) : FnOk g.P g.w g.K g.mg g.base (L2.CX g.P g.w) (j + 2) (gad g.K "whole_number") fd ["value", "field"] sp :=
  FunD.ok F sc_whole_number (fun vs H Q E hh => (h vs H Q E hh).1) fun cdv A outer s H vs Q E hr hh => ⟨rd_whole_number g j E, dv_whole_number T hr, (h vs H Q E hh).2⟩
theorem fk_whole_number {g : Wd} (T : Top g) (j : Nat) {sp : Sp} (h : ∀ vs H Q E, sp vs H Q E → vs.length = 2 ∧ rd_whole_number g j E { nx := fun _ H1 => Q .non H1, rt := Q } (L2.start ["value", "field"] vs) H) : FnG g (j + 2) (gad g.K "whole_number") sp := by
  obtain ⟨fd, F⟩ := fd_whole_number T
  exact fnG_of (ok_whole_number T F h) (FunD.bindsN F fun _ _ _ _ _ _ us hl => match us, hl with | [_, _], _ => rfl)
theorem sc_good_word : FnScope ["word", "field"] ["word", "field"] (defScope (top 8)) := ⟨rfl, rfl, rfl, by decide +kernel, rfl, by decide +kernel, by decide +kernel⟩
def rd_good_word (g : Wd) (j : Nat) (E : XK) : TS :=
  tIfS (tOr (cTru g.K (cStrM mStartswith (cV 0) (tCons (tC (.str "0")) (tNil)))) (cTest (tOp (cEqN g.K true) (cStrM mStrip (cV 0) (tCons (tC (.str "01")) (tNil))) (tC (.str ""))))) (cRaise (cRais g j (gad g.K "InvalidInput") (tCons (cV 1) (tNil))) (fun cls d _ H => E cls d H)) (tNext)
theorem dv_good_word {g : Wd} (T : Top g) {j : Nat} {f : Addr} {cdv : Value} {A : Around} {outer : List Env} {s : Shared} {H : Hp} {E : XK} (hr : Room (j + 1) (A.deeper (envOfC "good_word" (defScope (top 8)) s.heap.objs.size f cdv))) :
    PSs (cxOf (L2.CX g.P g.w) g.P g.w g.K g.mg g.base ["word", "field"] "good_word" (defScope (top 8)) f cdv A outer s H E) (defBody (top 8)) (rd_good_word g j E) := by
  unfold rd_good_word
  exact (pss_one (ps_if (pw_or (ptv (pe_sm PySem.F.slot_str_startswith PySem.F.type_str_startswith m_startswith (cv 0) (pa_cons pe_str pa_nil))) (pw_or1 (ptc (op_cNe hr.units) (pe_sm PySem.F.slot_str_strip PySem.F.type_str_strip m_strip (cv 0) (pa_cons pe_str pa_nil)) pe_str (nomark _)))).pt (pss_one (ps_cRaise rfl (takes_of rfl rfl rfl rfl) (hr.mono (Nat.le_succ _)) (gf_InvalidInput T) (by rfl) (pa_cons (cv 1) pa_nil))) pss_nil))
theorem ok_good_word {g : Wd} (T : Top g) {fd : FuncData} (F : FunD g.K "good_word" "good_word" (defArgs (top 8)) (defBody (top 8)) (defScope (top 8)) [] [] (gad g.K "good_word") fd) {j : Nat} {sp : Sp} (h : ∀ vs H Q E, sp vs H Q E → vs.length = 2 ∧ rd_good_word g j E { nx := fun _ H1 => Q .non H1, rt := Q } (L2.start ["word", "field"] vs) H) : FnOk g.P g.w g.K g.mg g.base (L2.CX g.P g.w) (j + 2) (gad g.K "good_word") fd ["word", "field"] sp :=
  FunD.ok F sc_good_word (fun vs H Q E hh => (h vs H Q E hh).1) fun cdv A outer s H vs Q E hr hh => ⟨rd_good_word g j E, dv_good_word T hr, (h vs H Q E hh).2⟩
theorem fk_good_word {g : Wd} (T : Top g) (j : Nat) {sp : Sp} (h : ∀ vs H Q E, sp vs H Q E → vs.length = 2 ∧ rd_good_word g j E { nx := fun _ H1 => Q .non H1, rt := Q } (L2.start ["word", "field"] vs) H) : FnG g (j + 2) (gad g.K "good_word") sp := by
  obtain ⟨fd, F⟩ := fd_good_word T
  exact fnG_of (ok_good_word T F h) (FunD.bindsN F fun _ _ _ _ _ _ us hl => match us, hl with | [_, _], _ => rfl)
theorem sc_living : FnScope ["word"] ["word"] (defScope (top 10)) := ⟨rfl, rfl, rfl, by decide +kernel, rfl, by decide +kernel, by decide +kernel⟩
def rd_living (g : Wd) (j : Nat) (E : XK) : TS :=
  tSeq (tDrop (cCall g j (fun cls d _ H => E cls d H) (gad g.K "good_word") (tCons (cV 0) (tCons (tC (.str "word")) (tNil)))))
  (tRet (cCall g j (fun cls d _ H => E cls d H) (gad g.K "_ones") (tCons (cV 0) (tNil))))
theorem dv_living {g : Wd} (T : Top g) {j : Nat} {f : Addr} {cdv : Value} {A : Around} {outer : List Env} {s : Shared} {H : Hp} {E : XK} (hr : Room (j + 1) (A.deeper (envOfC "living" (defScope (top 10)) s.heap.objs.size f cdv))) :
    PSs (cxOf (L2.CX g.P g.w) g.P g.w g.K g.mg g.base ["word"] "living" (defScope (top 10)) f cdv A outer s H E) (defBody (top 10)) (rd_living g j E) := by
  unfold rd_living
  exact (pss_cons (ps_expr (pe_cCall (takes_of rfl rfl rfl rfl) (hr.mono (Nat.le_succ _)) (gf_good_word T) (by rfl) (pa_cons (cv 0) (pa_cons pe_str pa_nil))))
  (pss_one (ps_ret (pe_cCall (takes_of rfl rfl rfl rfl) (hr.mono (Nat.le_succ _)) (gf__ones T) (by rfl) (pa_cons (cv 0) pa_nil)))))
theorem ok_living {g : Wd} (T : Top g) {fd : FuncData} (F : FunD g.K "living" "living" (defArgs (top 10)) (defBody (top 10)) (defScope (top 10)) [] [] (gad g.K "living") fd) {j : Nat} {sp : Sp} (h : ∀ vs H Q E, sp vs H Q E → vs.length = 1 ∧ rd_living g j E { nx := fun _ H1 => Q .non H1, rt := Q } (L2.start ["word"] vs) H) : FnOk g.P g.w g.K g.mg g.base (L2.CX g.P g.w) (j + 2) (gad g.K "living") fd ["word"] sp :=
  FunD.ok F sc_living (fun vs H Q E hh => (h vs H Q E hh).1) fun cdv A outer s H vs Q E hr hh => ⟨rd_living g j E, dv_living T hr, (h vs H Q E hh).2⟩
theorem fk_living {g : Wd} (T : Top g) (j : Nat) {sp : Sp} (h : ∀ vs H Q E, sp vs H Q E → vs.length = 1 ∧ rd_living g j E { nx := fun _ H1 => Q .non H1, rt := Q } (L2.start ["word"] vs) H) : FnG g (j + 2) (gad g.K "living") sp := by
  obtain ⟨fd, F⟩ := fd_living T
  exact fnG_of (ok_living T F h) (FunD.bindsN F fun _ _ _ _ _ _ us hl => match us, hl with | [_], _ => rfl)
theorem sc__ones : FnScope ["word"] ["word"] (defScope (top 11)) := ⟨rfl, rfl, rfl, by decide +kernel, rfl, by decide +kernel, by decide +kernel⟩
def rd__ones (g : Wd) (j : Nat) (E : XK) : TS :=
  tRet (cStrM mCount (cV 0) (tCons (tC (.str "1")) (tNil)))
theorem dv__ones {g : Wd} (T : Top g) {j : Nat} {f : Addr} {cdv : Value} {A : Around} {outer : List Env} {s : Shared} {H : Hp} {E : XK} (hr : Room (j + 1) (A.deeper (envOfC "_ones" (defScope (top 11)) s.heap.objs.size f cdv))) :
    PSs (cxOf (L2.CX g.P g.w) g.P g.w g.K g.mg g.base ["word"] "_ones" (defScope (top 11)) f cdv A outer s H E) (defBody (top 11)) (rd__ones g j E) := by
  unfold rd__ones
  exact (pss_one (ps_ret (pe_sm PySem.F.slot_str_count PySem.F.type_str_count m_count (cv 0) (pa_cons pe_str pa_nil))))
theorem ok__ones {g : Wd} (T : Top g) {fd : FuncData} (F : FunD g.K "_ones" "_ones" (defArgs (top 11)) (defBody (top 11)) (defScope (top 11)) [] [] (gad g.K "_ones") fd) {j : Nat} {sp : Sp} (h : ∀ vs H Q E, sp vs H Q E → vs.length = 1 ∧ rd__ones g j E { nx := fun _ H1 => Q .non H1, rt := Q } (L2.start ["word"] vs) H) : FnOk g.P g.w g.K g.mg g.base (L2.CX g.P g.w) (j + 2) (gad g.K "_ones") fd ["word"] sp :=
  FunD.ok F sc__ones (fun vs H Q E hh => (h vs H Q E hh).1) fun cdv A outer s H vs Q E hr hh => ⟨rd__ones g j E, dv__ones T hr, (h vs H Q E hh).2⟩
theorem fk__ones {g : Wd} (T : Top g) (j : Nat) {sp : Sp} (h : ∀ vs H Q E, sp vs H Q E → vs.length = 1 ∧ rd__ones g j E { nx := fun _ H1 => Q .non H1, rt := Q } (L2.start ["word"] vs) H) : FnG g (j + 2) (gad g.K "_ones") sp := by
  obtain ⟨fd, F⟩ := fd__ones T
  exact fnG_of (ok__ones T F h) (FunD.bindsN F fun _ _ _ _ _ _ us hl => match us, hl with | [_], _ => rfl)
theorem sc__check_moment : FnScope ["word", "places", "phase"] ["word", "places", "phase"] (defScope (top 17)) := ⟨rfl, rfl, rfl, by decide +kernel, rfl, by decide +kernel, by decide +kernel⟩
def rd__check_moment (g : Wd) (j : Nat) (E : XK) : TS :=
  tSeq (tDrop (cCall g j (fun cls d _ H => E cls d H) (gad g.K "good_word") (tCons (cV 0) (tCons (tC (.str "word")) (tNil)))))
  (tSeq (tDrop (cCall g j (fun cls d _ H => E cls d H) (gad g.K "at_least") (tCons (cV 1) (tCons (tC (.int 1)) (tCons (tC (.str "places")) (tNil))))))
  (tSeq (tDrop (cCall g j (fun cls d _ H => E cls d H) (gad g.K "at_least") (tCons (cV 2) (tCons (tC (.int 0)) (tCons (tC (.str "phase")) (tNil))))))
  (tDrop (cCall g j (fun cls d _ H => E cls d H) (gad g.K "at_least") (tCons (cV 1) (tCons (tCB (cLen g j) (tCons (cV 0) (tNil))) (tCons (tC (.str "places")) (tNil))))))))
theorem dv__check_moment {g : Wd} (T : Top g) {j : Nat} {f : Addr} {cdv : Value} {A : Around} {outer : List Env} {s : Shared} {H : Hp} {E : XK} (hr : Room (j + 1) (A.deeper (envOfC "_check_moment" (defScope (top 17)) s.heap.objs.size f cdv))) :
    PSs (cxOf (L2.CX g.P g.w) g.P g.w g.K g.mg g.base ["word", "places", "phase"] "_check_moment" (defScope (top 17)) f cdv A outer s H E) (defBody (top 17)) (rd__check_moment g j E) := by
  unfold rd__check_moment
  exact (pss_cons (ps_expr (pe_cCall (takes_of rfl rfl rfl rfl) (hr.mono (Nat.le_succ _)) (gf_good_word T) (by rfl) (pa_cons (cv 0) (pa_cons pe_str pa_nil))))
  (pss_cons (ps_expr (pe_cCall (takes_of rfl rfl rfl rfl) (hr.mono (Nat.le_succ _)) (gf_at_least T) (by rfl) (pa_cons (cv 1) (pa_cons pe_int (pa_cons pe_str pa_nil)))))
  (pss_cons (ps_expr (pe_cCall (takes_of rfl rfl rfl rfl) (hr.mono (Nat.le_succ _)) (gf_at_least T) (by rfl) (pa_cons (cv 2) (pa_cons pe_int (pa_cons pe_str pa_nil)))))
  (pss_one (ps_expr (pe_cCall (takes_of rfl rfl rfl rfl) (hr.mono (Nat.le_succ _)) (gf_at_least T) (by rfl) (pa_cons (cv 1) (pa_cons (pe_callB (call_cLen hr) (by rfl) (bl_len T) bt_len (pa_cons (cv 0) pa_nil)) (pa_cons pe_str pa_nil)))))))))
theorem ok__check_moment {g : Wd} (T : Top g) {fd : FuncData} (F : FunD g.K "_check_moment" "_check_moment" (defArgs (top 17)) (defBody (top 17)) (defScope (top 17)) [] [] (gad g.K "_check_moment") fd) {j : Nat} {sp : Sp} (h : ∀ vs H Q E, sp vs H Q E → vs.length = 3 ∧ rd__check_moment g j E { nx := fun _ H1 => Q .non H1, rt := Q } (L2.start ["word", "places", "phase"] vs) H) : FnOk g.P g.w g.K g.mg g.base (L2.CX g.P g.w) (j + 2) (gad g.K "_check_moment") fd ["word", "places", "phase"] sp :=
  FunD.ok F sc__check_moment (fun vs H Q E hh => (h vs H Q E hh).1) fun cdv A outer s H vs Q E hr hh => ⟨rd__check_moment g j E, dv__check_moment T hr, (h vs H Q E hh).2⟩
theorem fk__check_moment {g : Wd} (T : Top g) (j : Nat) {sp : Sp} (h : ∀ vs H Q E, sp vs H Q E → vs.length = 3 ∧ rd__check_moment g j E { nx := fun _ H1 => Q .non H1, rt := Q } (L2.start ["word", "places", "phase"] vs) H) : FnG g (j + 2) (gad g.K "_check_moment") sp := by
  obtain ⟨fd, F⟩ := fd__check_moment T
  exact fnG_of (ok__check_moment T F h) (FunD.bindsN F fun _ _ _ _ _ _ us hl => match us, hl with | [_, _, _], _ => rfl)
theorem sc__most_allowed : FnScope ["word", "places", "budgets", "phase"] ["word", "places", "budgets", "phase"] (defScope (top 18)) := ⟨rfl, rfl, rfl, by decide +kernel, rfl, by decide +kernel, by decide +kernel⟩
def rd__most_allowed (g : Wd) (j : Nat) (E : XK) : TS :=
  tSeq (tIfS (cTest (tOp (cEqN g.K false) (tCB (cLen g j) (tCons (cV 0) (tNil))) (cV 1))) (tRet (tC (.int 0))) (tNext))
  (tRet (tCB (cMin g.K) (tCons (cMeth g j (fun cls d _ H => E cls d H) "at" (cV 2) (tCons (cV 3) (tNil))) (tCons (cCall g j (fun cls d _ H => E cls d H) (gad g.K "living") (tCons (cV 0) (tNil))) (tNil)))))
theorem dv__most_allowed {g : Wd} (T : Top g) {j : Nat} {f : Addr} {cdv : Value} {A : Around} {outer : List Env} {s : Shared} {H : Hp} {E : XK} (hr : Room (j + 1) (A.deeper (envOfC "_most_allowed" (defScope (top 18)) s.heap.objs.size f cdv))) :
    PSs (cxOf (L2.CX g.P g.w) g.P g.w g.K g.mg g.base ["word", "places", "budgets", "phase"] "_most_allowed" (defScope (top 18)) f cdv A outer s H E) (defBody (top 18)) (rd__most_allowed g j E) := by
  unfold rd__most_allowed
  exact (pss_cons (ps_if (ptc (op_cEq hr.units) (pe_callB (call_cLen hr) (by rfl) (bl_len T) bt_len (pa_cons (cv 0) pa_nil)) (cv 1) (nomark _)) (pss_one (ps_ret pe_int)) pss_nil)
  (pss_one (ps_ret (pe_callB (call_cMin rfl) (by rfl) (bl_min T) bt_min (pa_cons (pe_cMeth (takes_of rfl rfl rfl rfl) (hr.mono (Nat.le_succ _)) (cv 2) (pa_cons (cv 3) pa_nil)) (pa_cons (pe_cCall (takes_of rfl rfl rfl rfl) (hr.mono (Nat.le_succ _)) (gf_living T) (by rfl) (pa_cons (cv 0) pa_nil)) pa_nil))))))
theorem ok__most_allowed {g : Wd} (T : Top g) {fd : FuncData} (F : FunD g.K "_most_allowed" "_most_allowed" (defArgs (top 18)) (defBody (top 18)) (defScope (top 18)) [] [] (gad g.K "_most_allowed") fd) {j : Nat} {sp : Sp} (h : ∀ vs H Q E, sp vs H Q E → vs.length = 4 ∧ rd__most_allowed g j E { nx := fun _ H1 => Q .non H1, rt := Q } (L2.start ["word", "places", "budgets", "phase"] vs) H) : FnOk g.P g.w g.K g.mg g.base (L2.CX g.P g.w) (j + 2) (gad g.K "_most_allowed") fd ["word", "places", "budgets", "phase"] sp :=
  FunD.ok F sc__most_allowed (fun vs H Q E hh => (h vs H Q E hh).1) fun cdv A outer s H vs Q E hr hh => ⟨rd__most_allowed g j E, dv__most_allowed T hr, (h vs H Q E hh).2⟩
theorem fk__most_allowed {g : Wd} (T : Top g) (j : Nat) {sp : Sp} (h : ∀ vs H Q E, sp vs H Q E → vs.length = 4 ∧ rd__most_allowed g j E { nx := fun _ H1 => Q .non H1, rt := Q } (L2.start ["word", "places", "budgets", "phase"] vs) H) : FnG g (j + 2) (gad g.K "_most_allowed") sp := by
  obtain ⟨fd, F⟩ := fd__most_allowed T
  exact fnG_of (ok__most_allowed T F h) (FunD.bindsN F fun _ _ _ _ _ _ us hl => match us, hl with | [_, _, _, _], _ => rfl)
theorem sc__read_number : FnScope ["word", "digit"] ["word"] (defScope (top 19)) := ⟨rfl, rfl, rfl, by decide +kernel, rfl, by decide +kernel, by decide +kernel⟩
def rd__read_number (g : Wd) (j : Nat) (E : XK) : TS :=
  tSeq (tIfS (tNot (cTest (cChain cLe cLe (tC (.int 1)) (tCB (cLen g j) (tCons (cV 0) (tNil))) (cGv g "MOST_DIGITS")))) (tRet (tC .non)) (tNext))
  (tSeq (tIfS (tNot (cTru g.K (tCB (cAll g.K) (tCons (tLc (iSeq g.K (cV 0)) (gName 1) (tYes) (tOp (cIn g.K false) (cV 1) (cGv g "DIGITS")) [1]) (tNil))))) (tRet (tC .non)) (tNext))
  (tRet (tCB (cInt) (tCons (cV 0) (tNil)))))
theorem dv__read_number {g : Wd} (T : Top g) {j : Nat} {f : Addr} {cdv : Value} {A : Around} {outer : List Env} {s : Shared} {H : Hp} {E : XK} (hr : Room (j + 1) (A.deeper (envOfC "_read_number" (defScope (top 19)) s.heap.objs.size f cdv))) :
    PSs (cxOf (L2.CX g.P g.w) g.P g.w g.K g.mg g.base ["word", "digit"] "_read_number" (defScope (top 19)) f cdv A outer s H E) (defBody (top 19)) (rd__read_number g j E) := by
  unfold rd__read_number
  exact (pss_cons (ps_if (pt_not (ptc2 op_cLe op_cLe pe_int (pe_callB (call_cLen hr) (by rfl) (bl_len T) bt_len (pa_cons (cv 0) pa_nil)) (pe_cGv (by rfl)))) (pss_one (ps_ret pe_non)) pss_nil)
  (pss_cons (ps_if (pt_not (ptv (pe_callB (call_cAll rfl) (by rfl) (bl_all T) bt_all (pa_cons (pe_lc rfl sc__read_number.nd (pi_seq (cv 0)) (blkOk_by (own := [("digit", 1)]) (by change blkC ["word", "digit"] (defScope (top 19)) _ _ = true; decide +kernel)) (fun s H C cl fp => (pg_name sc__read_number.nd rfl (Or.inl rfl))) (fun s H C cl fp => pts_nil) (fun s H C cl fp => (pe_cmpR op_cIn (cv 1) (pe_cGv (by rfl)) (by with_unfolding_all rfl)))) pa_nil)))) (pss_one (ps_ret pe_non)) pss_nil)
  (pss_one (ps_ret (pe_callTy (call_cInt) (by rfl) (bl_int T) bt_int (pa_cons (cv 0) pa_nil))))))
theorem ok__read_number {g : Wd} (T : Top g) {fd : FuncData} (F : FunD g.K "_read_number" "_read_number" (defArgs (top 19)) (defBody (top 19)) (defScope (top 19)) [] [] (gad g.K "_read_number") fd) {j : Nat} {sp : Sp} (h : ∀ vs H Q E, sp vs H Q E → vs.length = 1 ∧ rd__read_number g j E { nx := fun _ H1 => Q .non H1, rt := Q } (L2.start ["word", "digit"] vs) H) : FnOk g.P g.w g.K g.mg g.base (L2.CX g.P g.w) (j + 2) (gad g.K "_read_number") fd ["word"] sp :=
  FunD.ok F sc__read_number (fun vs H Q E hh => (h vs H Q E hh).1) fun cdv A outer s H vs Q E hr hh => ⟨rd__read_number g j E, dv__read_number T hr, (h vs H Q E hh).2⟩
theorem fk__read_number {g : Wd} (T : Top g) (j : Nat) {sp : Sp} (h : ∀ vs H Q E, sp vs H Q E → vs.length = 1 ∧ rd__read_number g j E { nx := fun _ H1 => Q .non H1, rt := Q } (L2.start ["word", "digit"] vs) H) : FnG g (j + 2) (gad g.K "_read_number") sp := by
  obtain ⟨fd, F⟩ := fd__read_number T
  exact fnG_of (ok__read_number T F h) (FunD.bindsN F fun _ _ _ _ _ _ us hl => match us, hl with | [_], _ => rfl)
theorem sc__read_condition : FnScope ["name", "sign", "bound", "number"] ["name", "sign", "bound"] (defScope (top 20)) := ⟨rfl, rfl, rfl, by decide +kernel, rfl, by decide +kernel, by decide +kernel⟩
def rd__read_condition (g : Wd) (j : Nat) (E : XK) : TS :=
  tSeq (tAsg (cCall g j (fun cls d _ H => E cls d H) (gad g.K "_read_number") (tCons (cV 2) (tNil))) (gName 3))
  (tSeq (tIfS (tOr (cTest (tOp (cIn g.K true) (cV 0) (cGv g "FACTS"))) (tOr (cTest (tOp (cIn g.K true) (cV 1) (cGv g "SIGNS"))) (cTest (tOp (cIsN false) (cV 3) (tC .non))))) (tRet (tC .non)) (tNext))
  (tRet (tTup (tCons (cV 0) (tCons (cV 1) (tCons (cV 3) (tNil)))))))
theorem dv__read_condition {g : Wd} (T : Top g) {j : Nat} {f : Addr} {cdv : Value} {A : Around} {outer : List Env} {s : Shared} {H : Hp} {E : XK} (hr : Room (j + 1) (A.deeper (envOfC "_read_condition" (defScope (top 20)) s.heap.objs.size f cdv))) :
    PSs (cxOf (L2.CX g.P g.w) g.P g.w g.K g.mg g.base ["name", "sign", "bound", "number"] "_read_condition" (defScope (top 20)) f cdv A outer s H E) (defBody (top 20)) (rd__read_condition g j E) := by
  unfold rd__read_condition
  exact (pss_cons (ps_set (i := 3) sc__read_condition.nd rfl (Or.inl rfl) (pe_cCall (takes_of rfl rfl rfl rfl) (hr.mono (Nat.le_succ _)) (gf__read_number T) (by rfl) (pa_cons (cv 2) pa_nil)))
  (pss_cons (ps_if (pw_or (ptc op_cNotIn (cv 0) (pe_cGv (by rfl)) (by with_unfolding_all rfl)) (pw_or (ptc op_cNotIn (cv 1) (pe_cGv (by rfl)) (by with_unfolding_all rfl)) (pw_or1 (ptc op_cIs (cv 3) pe_non (nomark _))))).pt (pss_one (ps_ret pe_non)) pss_nil)
  (pss_one (ps_ret (pe_tup (pa_cons (cv 0) (pa_cons (cv 1) (pa_cons (cv 3) pa_nil))))))))
theorem ok__read_condition {g : Wd} (T : Top g) {fd : FuncData} (F : FunD g.K "_read_condition" "_read_condition" (defArgs (top 20)) (defBody (top 20)) (defScope (top 20)) [] [] (gad g.K "_read_condition") fd) {j : Nat} {sp : Sp} (h : ∀ vs H Q E, sp vs H Q E → vs.length = 3 ∧ rd__read_condition g j E { nx := fun _ H1 => Q .non H1, rt := Q } (L2.start ["name", "sign", "bound", "number"] vs) H) : FnOk g.P g.w g.K g.mg g.base (L2.CX g.P g.w) (j + 2) (gad g.K "_read_condition") fd ["name", "sign", "bound"] sp :=
  FunD.ok F sc__read_condition (fun vs H Q E hh => (h vs H Q E hh).1) fun cdv A outer s H vs Q E hr hh => ⟨rd__read_condition g j E, dv__read_condition T hr, (h vs H Q E hh).2⟩
theorem fk__read_condition {g : Wd} (T : Top g) (j : Nat) {sp : Sp} (h : ∀ vs H Q E, sp vs H Q E → vs.length = 3 ∧ rd__read_condition g j E { nx := fun _ H1 => Q .non H1, rt := Q } (L2.start ["name", "sign", "bound", "number"] vs) H) : FnG g (j + 2) (gad g.K "_read_condition") sp := by
  obtain ⟨fd, F⟩ := fd__read_condition T
  exact fnG_of (ok__read_condition T F h) (FunD.bindsN F fun _ _ _ _ _ _ us hl => match us, hl with | [_, _, _], _ => rfl)
theorem sc__read_line : FnScope ["line", "words", "amount", "condition"] ["line"] (defScope (top 21)) := ⟨rfl, rfl, rfl, by decide +kernel, rfl, by decide +kernel, by decide +kernel⟩
def rd__read_line (g : Wd) (j : Nat) (E : XK) : TS :=
  tSeq (tAsg (cStrM mSplit (cV 0) (tCons (tC (.str " ")) (tNil))) (gName 1))
  (tSeq (tAsg (tOp (cIx g.K) (cV 1) (tUn cNeg (tC (.int 1)))) (gName 2))
  (tSeq (tIfS (tAnd (cTest (tOp (cEqN g.K true) (cV 2) (tC (.str "all")))) (cTest (tOp (cIsN false) (cCall g j (fun cls d _ H => E cls d H) (gad g.K "_read_number") (tCons (cV 2) (tNil))) (tC .non)))) (tRet (tC .non)) (tNext))
  (tSeq (tIfS (tAnd (cTest (tOp (cEqN g.K false) (tCB (cLen g j) (tCons (cV 1) (tNil))) (tC (.int 3)))) (tAnd (cTest (tOp (cEqN g.K false) (tOp (cIx g.K) (cV 1) (tC (.int 0))) (tC (.str "else")))) (cTest (tOp (cEqN g.K false) (tOp (cIx g.K) (cV 1) (tC (.int 1))) (tC (.str "carry")))))) (tRet (tTup (tCons (tTup (tNil)) (tCons (cV 2) (tNil))))) (tNext))
  (tSeq (tIfS (tAnd (cTest (tOp (cEqN g.K false) (tCB (cLen g j) (tCons (cV 1) (tNil))) (tC (.int 6)))) (tAnd (cTest (tOp (cEqN g.K false) (tOp (cIx g.K) (cV 1) (tC (.int 0))) (tC (.str "when")))) (cTest (tOp (cEqN g.K false) (tOp (cIx g.K) (cV 1) (tC (.int 4))) (tC (.str "carry")))))) (tSeq (tAsg (cCall g j (fun cls d _ H => E cls d H) (gad g.K "_read_condition") (tCons (tOp (cIx g.K) (cV 1) (tC (.int 1))) (tCons (tOp (cIx g.K) (cV 1) (tC (.int 2))) (tCons (tOp (cIx g.K) (cV 1) (tC (.int 3))) (tNil))))) (gName 3))
  (tIfS (cTest (tOp (cIsN true) (cV 3) (tC .non))) (tRet (tTup (tCons (cV 3) (tCons (cV 2) (tNil))))) (tNext))) (tNext))
  (tRet (tC .non))))))
theorem dv__read_line {g : Wd} (T : Top g) {j : Nat} {f : Addr} {cdv : Value} {A : Around} {outer : List Env} {s : Shared} {H : Hp} {E : XK} (hr : Room (j + 1) (A.deeper (envOfC "_read_line" (defScope (top 21)) s.heap.objs.size f cdv))) :
    PSs (cxOf (L2.CX g.P g.w) g.P g.w g.K g.mg g.base ["line", "words", "amount", "condition"] "_read_line" (defScope (top 21)) f cdv A outer s H E) (defBody (top 21)) (rd__read_line g j E) := by
  unfold rd__read_line
  exact (pss_cons (ps_set (i := 1) sc__read_line.nd rfl (Or.inl rfl) (pe_sm PySem.F.slot_str_split PySem.F.type_str_split m_split (cv 0) (pa_cons pe_str pa_nil)))
  (pss_cons (ps_set (i := 2) sc__read_line.nd rfl (Or.inl rfl) (pe_ix ix_c (cv 1) (pe_un un_cNeg pe_int) (fun _ _ => rfl)))
  (pss_cons (ps_if (pw_and (ptc (op_cNe hr.units) (cv 2) pe_str (nomark _)) (pw_and1 (ptc op_cIs (pe_cCall (takes_of rfl rfl rfl rfl) (hr.mono (Nat.le_succ _)) (gf__read_number T) (by rfl) (pa_cons (cv 2) pa_nil)) pe_non (nomark _)))).pt (pss_one (ps_ret pe_non)) pss_nil)
  (pss_cons (ps_if (pw_and (ptc (op_cEq hr.units) (pe_callB (call_cLen hr) (by rfl) (bl_len T) bt_len (pa_cons (cv 1) pa_nil)) pe_int (nomark _)) (pw_and (ptc (op_cEq hr.units) (pe_ix ix_c (cv 1) pe_int (fun _ _ => rfl)) pe_str (nomark _)) (pw_and1 (ptc (op_cEq hr.units) (pe_ix ix_c (cv 1) pe_int (fun _ _ => rfl)) pe_str (nomark _))))).pt (pss_one (ps_ret (pe_tup (pa_cons (pe_tup pa_nil) (pa_cons (cv 2) pa_nil))))) pss_nil)
  (pss_cons (ps_if (pw_and (ptc (op_cEq hr.units) (pe_callB (call_cLen hr) (by rfl) (bl_len T) bt_len (pa_cons (cv 1) pa_nil)) pe_int (nomark _)) (pw_and (ptc (op_cEq hr.units) (pe_ix ix_c (cv 1) pe_int (fun _ _ => rfl)) pe_str (nomark _)) (pw_and1 (ptc (op_cEq hr.units) (pe_ix ix_c (cv 1) pe_int (fun _ _ => rfl)) pe_str (nomark _))))).pt (pss_cons (ps_set (i := 3) sc__read_line.nd rfl (Or.inl rfl) (pe_cCall (takes_of rfl rfl rfl rfl) (hr.mono (Nat.le_succ _)) (gf__read_condition T) (by rfl) (pa_cons (pe_ix ix_c (cv 1) pe_int (fun _ _ => rfl)) (pa_cons (pe_ix ix_c (cv 1) pe_int (fun _ _ => rfl)) (pa_cons (pe_ix ix_c (cv 1) pe_int (fun _ _ => rfl)) pa_nil)))))
  (pss_one (ps_if (ptc op_cIsNot (cv 3) pe_non (nomark _)) (pss_one (ps_ret (pe_tup (pa_cons (cv 3) (pa_cons (cv 2) pa_nil))))) pss_nil))) pss_nil)
  (pss_one (ps_ret pe_non)))))))
theorem ok__read_line {g : Wd} (T : Top g) {fd : FuncData} (F : FunD g.K "_read_line" "_read_line" (defArgs (top 21)) (defBody (top 21)) (defScope (top 21)) [] [] (gad g.K "_read_line") fd) {j : Nat} {sp : Sp} (h : ∀ vs H Q E, sp vs H Q E → vs.length = 1 ∧ rd__read_line g j E { nx := fun _ H1 => Q .non H1, rt := Q } (L2.start ["line", "words", "amount", "condition"] vs) H) : FnOk g.P g.w g.K g.mg g.base (L2.CX g.P g.w) (j + 2) (gad g.K "_read_line") fd ["line"] sp :=
  FunD.ok F sc__read_line (fun vs H Q E hh => (h vs H Q E hh).1) fun cdv A outer s H vs Q E hr hh => ⟨rd__read_line g j E, dv__read_line T hr, (h vs H Q E hh).2⟩
theorem fk__read_line {g : Wd} (T : Top g) (j : Nat) {sp : Sp} (h : ∀ vs H Q E, sp vs H Q E → vs.length = 1 ∧ rd__read_line g j E { nx := fun _ H1 => Q .non H1, rt := Q } (L2.start ["line", "words", "amount", "condition"] vs) H) : FnG g (j + 2) (gad g.K "_read_line") sp := by
  obtain ⟨fd, F⟩ := fd__read_line T
  exact fnG_of (ok__read_line T F h) (FunD.bindsN F fun _ _ _ _ _ _ us hl => match us, hl with | [_], _ => rfl)
theorem sc__read_rules : FnScope ["text", "rules", "number", "line", "rule"] ["text"] (defScope (top 22)) := ⟨rfl, rfl, rfl, by decide +kernel, rfl, by decide +kernel, by decide +kernel⟩
def rd__read_rules (g : Wd) (j : Nat) (E : XK) : TS :=
  tSeq (tAsg (tLst (tNil)) (gName 1))
  (tSeq (tFor (iEk g.K (tCons (cStrM mSplit (cV 0) (tCons (tC (.str "\n")) (tNil))) (tNil)) 1) (cgTup g.K 2 (cgCons (gName 2) (cgCons (gName 3) (cgNil)))) (tSeq (tAsg (cCall g j (fun cls d _ H => E cls d H) (gad g.K "_read_line") (tCons (cV 3) (tNil))) (gName 4))
  (tSeq (tIfS (cTest (tOp (cIsN false) (cV 4) (tC .non))) (cRaise (cRais g j (gad g.K "BadRule") (tCons (cV 2) (tNil))) (fun cls d _ H => E cls d H)) (tNext))
  (tDrop (cApp g.K (cV 1) (tCons (cV 4) (tNil)))))))
  (tRet (cV 1)))
theorem dv__read_rules {g : Wd} (T : Top g) {j : Nat} {f : Addr} {cdv : Value} {A : Around} {outer : List Env} {s : Shared} {H : Hp} {E : XK} (hr : Room (j + 1) (A.deeper (envOfC "_read_rules" (defScope (top 22)) s.heap.objs.size f cdv))) :
    PSs (cxOf (L2.CX g.P g.w) g.P g.w g.K g.mg g.base ["text", "rules", "number", "line", "rule"] "_read_rules" (defScope (top 22)) f cdv A outer s H E) (defBody (top 22)) (rd__read_rules g j E) := by
  unfold rd__read_rules
  exact (pss_cons (ps_set (i := 1) sc__read_rules.nd rfl (Or.inl rfl) (pe_lst pa_nil))
  (pss_cons (ps_for (passes_of rfl) rfl (pi_ek (by rfl) (bl_enumerate T) (pa_cons (pe_sm PySem.F.slot_str_split PySem.F.type_str_split m_split (cv 0) (pa_cons pe_str pa_nil)) pa_nil) (by decide) (by decide)) (pg_ctup rfl (pgs_ccons (pg_name sc__read_rules.nd rfl (Or.inl rfl)) (pgs_ccons (pg_name sc__read_rules.nd rfl (Or.inl rfl)) pgs_cnil))) (pss_cons (ps_set (i := 4) sc__read_rules.nd rfl (Or.inl rfl) (pe_cCall (takes_of rfl rfl rfl rfl) (hr.mono (Nat.le_succ _)) (gf__read_line T) (by rfl) (pa_cons (cv 3) pa_nil)))
  (pss_cons (ps_if (ptc op_cIs (cv 4) pe_non (nomark _)) (pss_one (ps_cRaise rfl (takes_of rfl rfl rfl rfl) (hr.mono (Nat.le_succ _)) (gf_BadRule T) (by rfl) (pa_cons (cv 2) pa_nil))) pss_nil)
  (pss_one (ps_expr (pe_cApp (cv 1) (pa_cons (cv 4) pa_nil)))))))
  (pss_one (ps_ret (cv 1)))))
theorem ok__read_rules {g : Wd} (T : Top g) {fd : FuncData} (F : FunD g.K "_read_rules" "_read_rules" (defArgs (top 22)) (defBody (top 22)) (defScope (top 22)) [] [] (gad g.K "_read_rules") fd) {j : Nat} {sp : Sp} (h : ∀ vs H Q E, sp vs H Q E → vs.length = 1 ∧ rd__read_rules g j E { nx := fun _ H1 => Q .non H1, rt := Q } (L2.start ["text", "rules", "number", "line", "rule"] vs) H) : FnOk g.P g.w g.K g.mg g.base (L2.CX g.P g.w) (j + 2) (gad g.K "_read_rules") fd ["text"] sp :=
  FunD.ok F sc__read_rules (fun vs H Q E hh => (h vs H Q E hh).1) fun cdv A outer s H vs Q E hr hh => ⟨rd__read_rules g j E, dv__read_rules T hr, (h vs H Q E hh).2⟩
theorem fk__read_rules {g : Wd} (T : Top g) (j : Nat) {sp : Sp} (h : ∀ vs H Q E, sp vs H Q E → vs.length = 1 ∧ rd__read_rules g j E { nx := fun _ H1 => Q .non H1, rt := Q } (L2.start ["text", "rules", "number", "line", "rule"] vs) H) : FnG g (j + 2) (gad g.K "_read_rules") sp := by
  obtain ⟨fd, F⟩ := fd__read_rules T
  exact fnG_of (ok__read_rules T F h) (FunD.bindsN F fun _ _ _ _ _ _ us hl => match us, hl with | [_], _ => rfl)
theorem sc__fact : FnScope ["name", "word", "places", "budget", "behind"] ["name", "word", "places", "budget"] (defScope (top 23)) := ⟨rfl, rfl, rfl, by decide +kernel, rfl, by decide +kernel, by decide +kernel⟩
def rd__fact (g : Wd) (j : Nat) (E : XK) : TS :=
  tSeq (tIfS (cTest (tOp (cEqN g.K false) (cV 0) (tC (.str "free")))) (tRet (tOp cSub (cV 2) (tCB (cLen g j) (tCons (cV 1) (tNil))))) (tNext))
  (tSeq (tIfS (cTest (tOp (cEqN g.K false) (cV 0) (tC (.str "living")))) (tRet (cCall g j (fun cls d _ H => E cls d H) (gad g.K "living") (tCons (cV 1) (tNil)))) (tNext))
  (tSeq (tIfS (cTest (tOp (cEqN g.K false) (cV 0) (tC (.str "dead")))) (tRet (tOp cSub (tCB (cLen g j) (tCons (cV 1) (tNil))) (cCall g j (fun cls d _ H => E cls d H) (gad g.K "living") (tCons (cV 1) (tNil))))) (tNext))
  (tSeq (tIfS (cTest (tOp (cEqN g.K false) (cV 0) (tC (.str "gap")))) (tSeq (tAsg (tSl (cSl g.K) (cV 1) (cPart (tC (.int 1))) (tNoPart)) (gName 4))
  (tRet (tOp cSub (tCB (cLen g j) (tCons (cV 4) (tNil))) (tCB (cLen g j) (tCons (cStrM mLstrip (cV 4) (tCons (tC (.str "0")) (tNil))) (tNil)))))) (tNext))
  (tRet (cV 3)))))
theorem dv__fact {g : Wd} (T : Top g) {j : Nat} {f : Addr} {cdv : Value} {A : Around} {outer : List Env} {s : Shared} {H : Hp} {E : XK} (hr : Room (j + 1) (A.deeper (envOfC "_fact" (defScope (top 23)) s.heap.objs.size f cdv))) :
    PSs (cxOf (L2.CX g.P g.w) g.P g.w g.K g.mg g.base ["name", "word", "places", "budget", "behind"] "_fact" (defScope (top 23)) f cdv A outer s H E) (defBody (top 23)) (rd__fact g j E) := by
  unfold rd__fact
  exact (pss_cons (ps_if (ptc (op_cEq hr.units) (cv 0) pe_str (nomark _)) (pss_one (ps_ret (pe_op op_cSub (cv 2) (pe_callB (call_cLen hr) (by rfl) (bl_len T) bt_len (pa_cons (cv 1) pa_nil))))) pss_nil)
  (pss_cons (ps_if (ptc (op_cEq hr.units) (cv 0) pe_str (nomark _)) (pss_one (ps_ret (pe_cCall (takes_of rfl rfl rfl rfl) (hr.mono (Nat.le_succ _)) (gf_living T) (by rfl) (pa_cons (cv 1) pa_nil)))) pss_nil)
  (pss_cons (ps_if (ptc (op_cEq hr.units) (cv 0) pe_str (nomark _)) (pss_one (ps_ret (pe_op op_cSub (pe_callB (call_cLen hr) (by rfl) (bl_len T) bt_len (pa_cons (cv 1) pa_nil)) (pe_cCall (takes_of rfl rfl rfl rfl) (hr.mono (Nat.le_succ _)) (gf_living T) (by rfl) (pa_cons (cv 1) pa_nil))))) pss_nil)
  (pss_cons (ps_if (ptc (op_cEq hr.units) (cv 0) pe_str (nomark _)) (pss_cons (ps_set (i := 4) sc__fact.nd rfl (Or.inl rfl) (pe_slice sl_c (cv 1) (po_c pe_int) po_none))
  (pss_one (ps_ret (pe_op op_cSub (pe_callB (call_cLen hr) (by rfl) (bl_len T) bt_len (pa_cons (cv 4) pa_nil)) (pe_callB (call_cLen hr) (by rfl) (bl_len T) bt_len (pa_cons (pe_sm PySem.F.slot_str_lstrip PySem.F.type_str_lstrip m_lstrip (cv 4) (pa_cons pe_str pa_nil)) pa_nil)))))) pss_nil)
  (pss_one (ps_ret (cv 3)))))))
theorem ok__fact {g : Wd} (T : Top g) {fd : FuncData} (F : FunD g.K "_fact" "_fact" (defArgs (top 23)) (defBody (top 23)) (defScope (top 23)) [] [] (gad g.K "_fact") fd) {j : Nat} {sp : Sp} (h : ∀ vs H Q E, sp vs H Q E → vs.length = 4 ∧ rd__fact g j E { nx := fun _ H1 => Q .non H1, rt := Q } (L2.start ["name", "word", "places", "budget", "behind"] vs) H) : FnOk g.P g.w g.K g.mg g.base (L2.CX g.P g.w) (j + 2) (gad g.K "_fact") fd ["name", "word", "places", "budget"] sp :=
  FunD.ok F sc__fact (fun vs H Q E hh => (h vs H Q E hh).1) fun cdv A outer s H vs Q E hr hh => ⟨rd__fact g j E, dv__fact T hr, (h vs H Q E hh).2⟩
theorem fk__fact {g : Wd} (T : Top g) (j : Nat) {sp : Sp} (h : ∀ vs H Q E, sp vs H Q E → vs.length = 4 ∧ rd__fact g j E { nx := fun _ H1 => Q .non H1, rt := Q } (L2.start ["name", "word", "places", "budget", "behind"] vs) H) : FnG g (j + 2) (gad g.K "_fact") sp := by
  obtain ⟨fd, F⟩ := fd__fact T
  exact fnG_of (ok__fact T F h) (FunD.bindsN F fun _ _ _ _ _ _ us hl => match us, hl with | [_, _, _, _], _ => rfl)
theorem sc__applies : FnScope ["condition", "word", "places", "budget", "name", "sign", "number", "fact"] ["condition", "word", "places", "budget"] (defScope (top 24)) := ⟨rfl, rfl, rfl, by decide +kernel, rfl, by decide +kernel, by decide +kernel⟩
def rd__applies (g : Wd) (j : Nat) (E : XK) : TS :=
  tSeq (tIfS (cTest (tOp (cEqN g.K false) (cV 0) (tTup (tNil)))) (tRet (tC (.bl true))) (tNext))
  (tSeq (tAsg (cV 0) (cgTup g.K 3 (cgCons (gName 4) (cgCons (gName 5) (cgCons (gName 6) (cgNil))))))
  (tSeq (tAsg (cCall g j (fun cls d _ H => E cls d H) (gad g.K "_fact") (tCons (cV 4) (tCons (cV 1) (tCons (cV 2) (tCons (cV 3) (tNil)))))) (gName 7))
  (tSeq (tIfS (cTest (tOp (cEqN g.K false) (cV 5) (tC (.str "<=")))) (tRet (tOp cLe (cV 7) (cV 6))) (tNext))
  (tSeq (tIfS (cTest (tOp (cEqN g.K false) (cV 5) (tC (.str ">=")))) (tRet (tOp cGe (cV 7) (cV 6))) (tNext))
  (tRet (tOp (cEqN g.K false) (cV 7) (cV 6)))))))
theorem dv__applies {g : Wd} (T : Top g) {j : Nat} {f : Addr} {cdv : Value} {A : Around} {outer : List Env} {s : Shared} {H : Hp} {E : XK} (hr : Room (j + 1) (A.deeper (envOfC "_applies" (defScope (top 24)) s.heap.objs.size f cdv))) :
    PSs (cxOf (L2.CX g.P g.w) g.P g.w g.K g.mg g.base ["condition", "word", "places", "budget", "name", "sign", "number", "fact"] "_applies" (defScope (top 24)) f cdv A outer s H E) (defBody (top 24)) (rd__applies g j E) := by
  unfold rd__applies
  exact (pss_cons (ps_if (ptc (op_cEq hr.units) (cv 0) (pe_tup pa_nil) (nomark _)) (pss_one (ps_ret pe_bl)) pss_nil)
  (pss_cons (ps_asg (cv 0) (pg_ctup rfl (pgs_ccons (pg_name sc__applies.nd rfl (Or.inl rfl)) (pgs_ccons (pg_name sc__applies.nd rfl (Or.inl rfl)) (pgs_ccons (pg_name sc__applies.nd rfl (Or.inl rfl)) pgs_cnil)))))
  (pss_cons (ps_set (i := 7) sc__applies.nd rfl (Or.inl rfl) (pe_cCall (takes_of rfl rfl rfl rfl) (hr.mono (Nat.le_succ _)) (gf__fact T) (by rfl) (pa_cons (cv 4) (pa_cons (cv 1) (pa_cons (cv 2) (pa_cons (cv 3) pa_nil))))))
  (pss_cons (ps_if (ptc (op_cEq hr.units) (cv 5) pe_str (nomark _)) (pss_one (ps_ret (pe_cmpR op_cLe (cv 7) (cv 6) (nomark _)))) pss_nil)
  (pss_cons (ps_if (ptc (op_cEq hr.units) (cv 5) pe_str (nomark _)) (pss_one (ps_ret (pe_cmpR op_cGe (cv 7) (cv 6) (nomark _)))) pss_nil)
  (pss_one (ps_ret (pe_cmpR (op_cEq hr.units) (cv 7) (cv 6) (nomark _)))))))))
theorem ok__applies {g : Wd} (T : Top g) {fd : FuncData} (F : FunD g.K "_applies" "_applies" (defArgs (top 24)) (defBody (top 24)) (defScope (top 24)) [] [] (gad g.K "_applies") fd) {j : Nat} {sp : Sp} (h : ∀ vs H Q E, sp vs H Q E → vs.length = 4 ∧ rd__applies g j E { nx := fun _ H1 => Q .non H1, rt := Q } (L2.start ["condition", "word", "places", "budget", "name", "sign", "number", "fact"] vs) H) : FnOk g.P g.w g.K g.mg g.base (L2.CX g.P g.w) (j + 2) (gad g.K "_applies") fd ["condition", "word", "places", "budget"] sp :=
  FunD.ok F sc__applies (fun vs H Q E hh => (h vs H Q E hh).1) fun cdv A outer s H vs Q E hr hh => ⟨rd__applies g j E, dv__applies T hr, (h vs H Q E hh).2⟩
theorem fk__applies {g : Wd} (T : Top g) (j : Nat) {sp : Sp} (h : ∀ vs H Q E, sp vs H Q E → vs.length = 4 ∧ rd__applies g j E { nx := fun _ H1 => Q .non H1, rt := Q } (L2.start ["condition", "word", "places", "budget", "name", "sign", "number", "fact"] vs) H) : FnG g (j + 2) (gad g.K "_applies") sp := by
  obtain ⟨fd, F⟩ := fd__applies T
  exact fnG_of (ok__applies T F h) (FunD.bindsN F fun _ _ _ _ _ _ us hl => match us, hl with | [_, _, _, _], _ => rfl)
theorem sc_Keeper_choose : FnScope ["self", "word", "places", "budgets", "phase"] ["self", "word", "places", "budgets", "phase"] (defScope (inClass (top 25) 0)) := ⟨rfl, rfl, rfl, by decide +kernel, rfl, by decide +kernel, by decide +kernel⟩
def rd_Keeper_choose (g : Wd) (j : Nat) (E : XK) : TS :=
  tSeq (tDrop (cCall g j (fun cls d _ H => E cls d H) (gad g.K "_check_moment") (tCons (cV 1) (tCons (cV 2) (tCons (cV 4) (tNil))))))
  (tRet (tC (.int 0)))
theorem dv_Keeper_choose {g : Wd} (T : Top g) {j : Nat} {f : Addr} {cdv : Value} {A : Around} {outer : List Env} {s : Shared} {H : Hp} {E : XK} (hr : Room (j + 1) (A.deeper (envOfC "Keeper.choose" (defScope (inClass (top 25) 0)) s.heap.objs.size f cdv))) :
    PSs (cxOf (L2.CX g.P g.w) g.P g.w g.K g.mg g.base ["self", "word", "places", "budgets", "phase"] "Keeper.choose" (defScope (inClass (top 25) 0)) f cdv A outer s H E) (defBody (inClass (top 25) 0)) (rd_Keeper_choose g j E) := by
  unfold rd_Keeper_choose
  exact (pss_cons (ps_expr (pe_cCall (takes_of rfl rfl rfl rfl) (hr.mono (Nat.le_succ _)) (gf__check_moment T) (by rfl) (pa_cons (cv 1) (pa_cons (cv 2) (pa_cons (cv 4) pa_nil)))))
  (pss_one (ps_ret pe_int)))
theorem ok_Keeper_choose {g : Wd} (T : Top g) {fd : FuncData} (F : FunD g.K "choose" "Keeper.choose" (defArgs (inClass (top 25) 0)) (defBody (inClass (top 25) 0)) (defScope (inClass (top 25) 0)) [] [] (mad g.K (gad g.K "Keeper") "choose") fd) {j : Nat} {sp : Sp} (h : ∀ vs H Q E, sp vs H Q E → vs.length = 5 ∧ rd_Keeper_choose g j E { nx := fun _ H1 => Q .non H1, rt := Q } (L2.start ["self", "word", "places", "budgets", "phase"] vs) H) : FnOk g.P g.w g.K g.mg g.base (L2.CX g.P g.w) (j + 2) (mad g.K (gad g.K "Keeper") "choose") fd ["self", "word", "places", "budgets", "phase"] sp :=
  FunD.ok F sc_Keeper_choose (fun vs H Q E hh => (h vs H Q E hh).1) fun cdv A outer s H vs Q E hr hh => ⟨rd_Keeper_choose g j E, dv_Keeper_choose T hr, (h vs H Q E hh).2⟩
theorem fk_Keeper_choose {g : Wd} (T : Top g) (j : Nat) {sp : Sp} (h : ∀ vs H Q E, sp vs H Q E → vs.length = 5 ∧ rd_Keeper_choose g j E { nx := fun _ H1 => Q .non H1, rt := Q } (L2.start ["self", "word", "places", "budgets", "phase"] vs) H) : FnG g (j + 2) (mad g.K (gad g.K "Keeper") "choose") sp := by
  obtain ⟨fd, F⟩ := fd_Keeper_choose T
  exact fnG_of (ok_Keeper_choose T F h) (FunD.bindsN F fun _ _ _ _ _ _ us hl => match us, hl with | [_, _, _, _, _], _ => rfl)
theorem sc_Keeper_label : FnScope ["self"] ["self"] (defScope (inClass (top 25) 1)) := ⟨rfl, rfl, rfl, by decide +kernel, rfl, by decide +kernel, by decide +kernel⟩
def rd_Keeper_label (g : Wd) (j : Nat) (E : XK) : TS :=
  tRet (tC (.str "rest"))
theorem dv_Keeper_label {g : Wd} (T : Top g) {j : Nat} {f : Addr} {cdv : Value} {A : Around} {outer : List Env} {s : Shared} {H : Hp} {E : XK} (hr : Room (j + 1) (A.deeper (envOfC "Keeper.label" (defScope (inClass (top 25) 1)) s.heap.objs.size f cdv))) :
    PSs (cxOf (L2.CX g.P g.w) g.P g.w g.K g.mg g.base ["self"] "Keeper.label" (defScope (inClass (top 25) 1)) f cdv A outer s H E) (defBody (inClass (top 25) 1)) (rd_Keeper_label g j E) := by
  unfold rd_Keeper_label
  exact (pss_one (ps_ret pe_str))
theorem ok_Keeper_label {g : Wd} (T : Top g) {fd : FuncData} (F : FunD g.K "label" "Keeper.label" (defArgs (inClass (top 25) 1)) (defBody (inClass (top 25) 1)) (defScope (inClass (top 25) 1)) [] [] (mad g.K (gad g.K "Keeper") "label") fd) {j : Nat} {sp : Sp} (h : ∀ vs H Q E, sp vs H Q E → vs.length = 1 ∧ rd_Keeper_label g j E { nx := fun _ H1 => Q .non H1, rt := Q } (L2.start ["self"] vs) H) : FnOk g.P g.w g.K g.mg g.base (L2.CX g.P g.w) (j + 2) (mad g.K (gad g.K "Keeper") "label") fd ["self"] sp :=
  FunD.ok F sc_Keeper_label (fun vs H Q E hh => (h vs H Q E hh).1) fun cdv A outer s H vs Q E hr hh => ⟨rd_Keeper_label g j E, dv_Keeper_label T hr, (h vs H Q E hh).2⟩
theorem fk_Keeper_label {g : Wd} (T : Top g) (j : Nat) {sp : Sp} (h : ∀ vs H Q E, sp vs H Q E → vs.length = 1 ∧ rd_Keeper_label g j E { nx := fun _ H1 => Q .non H1, rt := Q } (L2.start ["self"] vs) H) : FnG g (j + 2) (mad g.K (gad g.K "Keeper") "label") sp := by
  obtain ⟨fd, F⟩ := fd_Keeper_label T
  exact fnG_of (ok_Keeper_label T F h) (FunD.bindsN F fun _ _ _ _ _ _ us hl => match us, hl with | [_], _ => rfl)
theorem sc_RuleKeeper_init_ : FnScope ["self", "text"] ["self", "text"] (defScope (inClass (top 26) 0)) := ⟨rfl, rfl, rfl, by decide +kernel, rfl, by decide +kernel, by decide +kernel⟩
def rd_RuleKeeper_init_ (g : Wd) (j : Nat) (E : XK) : TS :=
  cSetF g.K (cV 0) (cCall g j (fun cls d _ H => E cls d H) (gad g.K "_read_rules") (tCons (cV 1) (tNil))) "_rules"
theorem dv_RuleKeeper_init_ {g : Wd} (T : Top g) {j : Nat} {f : Addr} {cdv : Value} {A : Around} {outer : List Env} {s : Shared} {H : Hp} {E : XK} (hr : Room (j + 1) (A.deeper (envOfC "RuleKeeper.__init__" (defScope (inClass (top 26) 0)) s.heap.objs.size f cdv))) :
    PSs (cxOf (L2.CX g.P g.w) g.P g.w g.K g.mg g.base ["self", "text"] "RuleKeeper.__init__" (defScope (inClass (top 26) 0)) f cdv A outer s H E) (defBody (inClass (top 26) 0)) (rd_RuleKeeper_init_ g j E) := by
  unfold rd_RuleKeeper_init_
  exact (pss_one (ps_cSetF (cv 0) (pe_cCall (takes_of rfl rfl rfl rfl) (hr.mono (Nat.le_succ _)) (gf__read_rules T) (by rfl) (pa_cons (cv 1) pa_nil))))
theorem ok_RuleKeeper_init_ {g : Wd} (T : Top g) {fd : FuncData} (F : FunD g.K "__init__" "RuleKeeper.__init__" (defArgs (inClass (top 26) 0)) (defBody (inClass (top 26) 0)) (defScope (inClass (top 26) 0)) [] [] (mad g.K (gad g.K "RuleKeeper") "__init__") fd) {j : Nat} {sp : Sp} (h : ∀ vs H Q E, sp vs H Q E → vs.length = 2 ∧ rd_RuleKeeper_init_ g j E { nx := fun _ H1 => Q .non H1, rt := Q } (L2.start ["self", "text"] vs) H) : FnOk g.P g.w g.K g.mg g.base (L2.CX g.P g.w) (j + 2) (mad g.K (gad g.K "RuleKeeper") "__init__") fd ["self", "text"] sp :=
  FunD.ok F sc_RuleKeeper_init_ (fun vs H Q E hh => (h vs H Q E hh).1) fun cdv A outer s H vs Q E hr hh => ⟨rd_RuleKeeper_init_ g j E, dv_RuleKeeper_init_ T hr, (h vs H Q E hh).2⟩
theorem fk_RuleKeeper_init_ {g : Wd} (T : Top g) (j : Nat) {sp : Sp} (h : ∀ vs H Q E, sp vs H Q E → vs.length = 2 ∧ rd_RuleKeeper_init_ g j E { nx := fun _ H1 => Q .non H1, rt := Q } (L2.start ["self", "text"] vs) H) : FnG g (j + 2) (mad g.K (gad g.K "RuleKeeper") "__init__") sp := by
  obtain ⟨fd, F⟩ := fd_RuleKeeper_init_ T
  exact fnG_of (ok_RuleKeeper_init_ T F h) (FunD.bindsN F fun _ _ _ _ _ _ us hl => match us, hl with | [_, _], _ => rfl)
theorem sc_RuleKeeper_choose : FnScope ["self", "word", "places", "budgets", "phase", "most", "budget", "condition", "amount"] ["self", "word", "places", "budgets", "phase"] (defScope (inClass (top 26) 1)) := ⟨rfl, rfl, rfl, by decide +kernel, rfl, by decide +kernel, by decide +kernel⟩
def rd_RuleKeeper_choose (g : Wd) (j : Nat) (E : XK) : TS :=
  tSeq (tDrop (cCall g j (fun cls d _ H => E cls d H) (gad g.K "_check_moment") (tCons (cV 1) (tCons (cV 2) (tCons (cV 4) (tNil))))))
  (tSeq (tAsg (cCall g j (fun cls d _ H => E cls d H) (gad g.K "_most_allowed") (tCons (cV 1) (tCons (cV 2) (tCons (cV 3) (tCons (cV 4) (tNil)))))) (gName 5))
  (tSeq (tAsg (cMeth g j (fun cls d _ H => E cls d H) "at" (cV 3) (tCons (cV 4) (tNil))) (gName 6))
  (tSeq (tFor (iSeq g.K (cFld g.K (cV 0) "_rules")) (cgTup g.K 2 (cgCons (gName 7) (cgCons (gName 8) (cgNil)))) (tIfS (cTru g.K (cCall g j (fun cls d _ H => E cls d H) (gad g.K "_applies") (tCons (cV 7) (tCons (cV 1) (tCons (cV 2) (tCons (cV 6) (tNil))))))) (tSeq (tIfS (cTest (tOp (cEqN g.K false) (cV 8) (tC (.str "all")))) (tRet (cV 5)) (tNext))
  (tRet (tCB (cMin g.K) (tCons (cV 5) (tCons (tCB (cInt) (tCons (cV 8) (tNil))) (tNil)))))) (tNext)))
  (tRet (tC (.int 0))))))
theorem dv_RuleKeeper_choose {g : Wd} (T : Top g) {j : Nat} {f : Addr} {cdv : Value} {A : Around} {outer : List Env} {s : Shared} {H : Hp} {E : XK} (hr : Room (j + 1) (A.deeper (envOfC "RuleKeeper.choose" (defScope (inClass (top 26) 1)) s.heap.objs.size f cdv))) :
    PSs (cxOf (L2.CX g.P g.w) g.P g.w g.K g.mg g.base ["self", "word", "places", "budgets", "phase", "most", "budget", "condition", "amount"] "RuleKeeper.choose" (defScope (inClass (top 26) 1)) f cdv A outer s H E) (defBody (inClass (top 26) 1)) (rd_RuleKeeper_choose g j E) := by
  unfold rd_RuleKeeper_choose
  exact (pss_cons (ps_expr (pe_cCall (takes_of rfl rfl rfl rfl) (hr.mono (Nat.le_succ _)) (gf__check_moment T) (by rfl) (pa_cons (cv 1) (pa_cons (cv 2) (pa_cons (cv 4) pa_nil)))))
  (pss_cons (ps_set (i := 5) sc_RuleKeeper_choose.nd rfl (Or.inl rfl) (pe_cCall (takes_of rfl rfl rfl rfl) (hr.mono (Nat.le_succ _)) (gf__most_allowed T) (by rfl) (pa_cons (cv 1) (pa_cons (cv 2) (pa_cons (cv 3) (pa_cons (cv 4) pa_nil))))))
  (pss_cons (ps_set (i := 6) sc_RuleKeeper_choose.nd rfl (Or.inl rfl) (pe_cMeth (takes_of rfl rfl rfl rfl) (hr.mono (Nat.le_succ _)) (cv 3) (pa_cons (cv 4) pa_nil)))
  (pss_cons (ps_for (passes_of rfl) rfl (pi_seq (pe_cFld (cv 0))) (pg_ctup rfl (pgs_ccons (pg_name sc_RuleKeeper_choose.nd rfl (Or.inl rfl)) (pgs_ccons (pg_name sc_RuleKeeper_choose.nd rfl (Or.inl rfl)) pgs_cnil))) (pss_one (ps_if (ptv (pe_cCall (takes_of rfl rfl rfl rfl) (hr.mono (Nat.le_succ _)) (gf__applies T) (by rfl) (pa_cons (cv 7) (pa_cons (cv 1) (pa_cons (cv 2) (pa_cons (cv 6) pa_nil)))))) (pss_cons (ps_if (ptc (op_cEq hr.units) (cv 8) pe_str (nomark _)) (pss_one (ps_ret (cv 5))) pss_nil)
  (pss_one (ps_ret (pe_callB (call_cMin rfl) (by rfl) (bl_min T) bt_min (pa_cons (cv 5) (pa_cons (pe_callTy (call_cInt) (by rfl) (bl_int T) bt_int (pa_cons (cv 8) pa_nil)) pa_nil)))))) pss_nil)))
  (pss_one (ps_ret pe_int))))))
theorem ok_RuleKeeper_choose {g : Wd} (T : Top g) {fd : FuncData} (F : FunD g.K "choose" "RuleKeeper.choose" (defArgs (inClass (top 26) 1)) (defBody (inClass (top 26) 1)) (defScope (inClass (top 26) 1)) [] [] (mad g.K (gad g.K "RuleKeeper") "choose") fd) {j : Nat} {sp : Sp} (h : ∀ vs H Q E, sp vs H Q E → vs.length = 5 ∧ rd_RuleKeeper_choose g j E { nx := fun _ H1 => Q .non H1, rt := Q } (L2.start ["self", "word", "places", "budgets", "phase", "most", "budget", "condition", "amount"] vs) H) : FnOk g.P g.w g.K g.mg g.base (L2.CX g.P g.w) (j + 2) (mad g.K (gad g.K "RuleKeeper") "choose") fd ["self", "word", "places", "budgets", "phase"] sp :=
  FunD.ok F sc_RuleKeeper_choose (fun vs H Q E hh => (h vs H Q E hh).1) fun cdv A outer s H vs Q E hr hh => ⟨rd_RuleKeeper_choose g j E, dv_RuleKeeper_choose T hr, (h vs H Q E hh).2⟩
theorem fk_RuleKeeper_choose {g : Wd} (T : Top g) (j : Nat) {sp : Sp} (h : ∀ vs H Q E, sp vs H Q E → vs.length = 5 ∧ rd_RuleKeeper_choose g j E { nx := fun _ H1 => Q .non H1, rt := Q } (L2.start ["self", "word", "places", "budgets", "phase", "most", "budget", "condition", "amount"] vs) H) : FnG g (j + 2) (mad g.K (gad g.K "RuleKeeper") "choose") sp := by
  obtain ⟨fd, F⟩ := fd_RuleKeeper_choose T
  exact fnG_of (ok_RuleKeeper_choose T F h) (FunD.bindsN F fun _ _ _ _ _ _ us hl => match us, hl with | [_, _, _, _, _], _ => rfl)
theorem sc_RuleKeeper_label : FnScope ["self"] ["self"] (defScope (inClass (top 26) 2)) := ⟨rfl, rfl, rfl, by decide +kernel, rfl, by decide +kernel, by decide +kernel⟩
def rd_RuleKeeper_label (g : Wd) (j : Nat) (E : XK) : TS :=
  tRet (cJoin [tC (.str "rule "), cFmt (tCB (cLen g j) (tCons (cFld g.K (cV 0) "_rules") (tNil)))])
theorem dv_RuleKeeper_label {g : Wd} (T : Top g) {j : Nat} {f : Addr} {cdv : Value} {A : Around} {outer : List Env} {s : Shared} {H : Hp} {E : XK} (hr : Room (j + 1) (A.deeper (envOfC "RuleKeeper.label" (defScope (inClass (top 26) 2)) s.heap.objs.size f cdv))) :
    PSs (cxOf (L2.CX g.P g.w) g.P g.w g.K g.mg g.base ["self"] "RuleKeeper.label" (defScope (inClass (top 26) 2)) f cdv A outer s H E) (defBody (inClass (top 26) 2)) (rd_RuleKeeper_label g j E) := by
  unfold rd_RuleKeeper_label
  exact (pss_one (ps_ret (pe_cJoin (.cons pe_str (.cons (pe_cFmt (pe_callB (call_cLen hr) (by rfl) (bl_len T) bt_len (pa_cons (pe_cFld (cv 0)) pa_nil))) .nil)))))
theorem ok_RuleKeeper_label {g : Wd} (T : Top g) {fd : FuncData} (F : FunD g.K "label" "RuleKeeper.label" (defArgs (inClass (top 26) 2)) (defBody (inClass (top 26) 2)) (defScope (inClass (top 26) 2)) [] [] (mad g.K (gad g.K "RuleKeeper") "label") fd) {j : Nat} {sp : Sp} (h : ∀ vs H Q E, sp vs H Q E → vs.length = 1 ∧ rd_RuleKeeper_label g j E { nx := fun _ H1 => Q .non H1, rt := Q } (L2.start ["self"] vs) H) : FnOk g.P g.w g.K g.mg g.base (L2.CX g.P g.w) (j + 2) (mad g.K (gad g.K "RuleKeeper") "label") fd ["self"] sp :=
  FunD.ok F sc_RuleKeeper_label (fun vs H Q E hh => (h vs H Q E hh).1) fun cdv A outer s H vs Q E hr hh => ⟨rd_RuleKeeper_label g j E, dv_RuleKeeper_label T hr, (h vs H Q E hh).2⟩
theorem fk_RuleKeeper_label {g : Wd} (T : Top g) (j : Nat) {sp : Sp} (h : ∀ vs H Q E, sp vs H Q E → vs.length = 1 ∧ rd_RuleKeeper_label g j E { nx := fun _ H1 => Q .non H1, rt := Q } (L2.start ["self"] vs) H) : FnG g (j + 2) (mad g.K (gad g.K "RuleKeeper") "label") sp := by
  obtain ⟨fd, F⟩ := fd_RuleKeeper_label T
  exact fnG_of (ok_RuleKeeper_label T F h) (FunD.bindsN F fun _ _ _ _ _ _ us hl => match us, hl with | [_], _ => rfl)
theorem sc_Round_init_ : FnScope ["self", "budgets", "budget"] ["self", "budgets"] (defScope (inClass (top 28) 1)) := ⟨rfl, rfl, rfl, by decide +kernel, rfl, by decide +kernel, by decide +kernel⟩
def rd_Round_init_ (g : Wd) (j : Nat) (E : XK) : TS :=
  tSeq (tIfS (tNot (cTest (cChain cLe cLe (tC (.int 1)) (tCB (cLen g j) (tCons (cV 1) (tNil))) (cCv g.K (cGv g "Round") "MOST")))) (cRaise (cRais g j (gad g.K "InvalidInput") (tCons (tC (.str "budgets")) (tNil))) (fun cls d _ H => E cls d H)) (tNext))
  (tSeq (tFor (iSeq g.K (cV 1)) (gName 2) (tSeq (tDrop (cCall g j (fun cls d _ H => E cls d H) (gad g.K "whole_number") (tCons (cV 2) (tCons (tC (.str "budgets")) (tNil)))))
  (tDrop (cCall g j (fun cls d _ H => E cls d H) (gad g.K "at_least") (tCons (cV 2) (tCons (tC (.int 0)) (tCons (tC (.str "budgets")) (tNil))))))))
  (cSetF g.K (cV 0) (tCB (cTuple g.K) (tCons (cV 1) (tNil))) "_budgets"))
theorem dv_Round_init_ {g : Wd} (T : Top g) {j : Nat} {f : Addr} {cdv : Value} {A : Around} {outer : List Env} {s : Shared} {H : Hp} {E : XK} (hr : Room (j + 1) (A.deeper (envOfC "Round.__init__" (defScope (inClass (top 28) 1)) s.heap.objs.size f cdv))) :
    PSs (cxOf (L2.CX g.P g.w) g.P g.w g.K g.mg g.base ["self", "budgets", "budget"] "Round.__init__" (defScope (inClass (top 28) 1)) f cdv A outer s H E) (defBody (inClass (top 28) 1)) (rd_Round_init_ g j E) := by
  unfold rd_Round_init_
  exact (pss_cons (ps_if (pt_not (ptc2 op_cLe op_cLe pe_int (pe_callB (call_cLen hr) (by rfl) (bl_len T) bt_len (pa_cons (cv 1) pa_nil)) (pe_cCv (pe_cGv (by rfl))))) (pss_one (ps_cRaise rfl (takes_of rfl rfl rfl rfl) (hr.mono (Nat.le_succ _)) (gf_InvalidInput T) (by rfl) (pa_cons pe_str pa_nil))) pss_nil)
  (pss_cons (ps_for (passes_of rfl) rfl (pi_seq (cv 1)) (pg_name sc_Round_init_.nd rfl (Or.inl rfl)) (pss_cons (ps_expr (pe_cCall (takes_of rfl rfl rfl rfl) (hr.mono (Nat.le_succ _)) (gf_whole_number T) (by rfl) (pa_cons (cv 2) (pa_cons pe_str pa_nil))))
  (pss_one (ps_expr (pe_cCall (takes_of rfl rfl rfl rfl) (hr.mono (Nat.le_succ _)) (gf_at_least T) (by rfl) (pa_cons (cv 2) (pa_cons pe_int (pa_cons pe_str pa_nil))))))))
  (pss_one (ps_cSetF (cv 0) (pe_callTy (call_cTuple) (by rfl) (bl_tuple T) bt_tuple (pa_cons (cv 1) pa_nil))))))
theorem sc_Round_budgets : FnScope ["self"] ["self"] (defScope (inClass (top 28) 3)) := ⟨rfl, rfl, rfl, by decide +kernel, rfl, by decide +kernel, by decide +kernel⟩
def rd_Round_budgets (g : Wd) (j : Nat) (E : XK) : TS :=
  tRet (tCB (cList g.K) (tCons (cFld g.K (cV 0) "_budgets") (tNil)))
theorem dv_Round_budgets {g : Wd} (T : Top g) {j : Nat} {f : Addr} {cdv : Value} {A : Around} {outer : List Env} {s : Shared} {H : Hp} {E : XK} (hr : Room (j + 1) (A.deeper (envOfC "Round.budgets" (defScope (inClass (top 28) 3)) s.heap.objs.size f cdv))) :
    PSs (cxOf (L2.CX g.P g.w) g.P g.w g.K g.mg g.base ["self"] "Round.budgets" (defScope (inClass (top 28) 3)) f cdv A outer s H E) (defBody (inClass (top 28) 3)) (rd_Round_budgets g j E) := by
  unfold rd_Round_budgets
  exact (pss_one (ps_ret (pe_callTy (call_cList) (by rfl) (bl_list T) bt_list (pa_cons (pe_cFld (cv 0)) pa_nil))))
theorem ok_Round_budgets {g : Wd} (T : Top g) {fd : FuncData} (F : FunD g.K "budgets" "Round.budgets" (defArgs (inClass (top 28) 3)) (defBody (inClass (top 28) 3)) (defScope (inClass (top 28) 3)) [] [] (pgt g.K "Round" "budgets") fd) {j : Nat} {sp : Sp} (h : ∀ vs H Q E, sp vs H Q E → vs.length = 1 ∧ rd_Round_budgets g j E { nx := fun _ H1 => Q .non H1, rt := Q } (L2.start ["self"] vs) H) : FnOk g.P g.w g.K g.mg g.base (L2.CX g.P g.w) (j + 2) (pgt g.K "Round" "budgets") fd ["self"] sp :=
  FunD.ok F sc_Round_budgets (fun vs H Q E hh => (h vs H Q E hh).1) fun cdv A outer s H vs Q E hr hh => ⟨rd_Round_budgets g j E, dv_Round_budgets T hr, (h vs H Q E hh).2⟩
theorem fk_Round_budgets {g : Wd} (T : Top g) (j : Nat) {sp : Sp} (h : ∀ vs H Q E, sp vs H Q E → vs.length = 1 ∧ rd_Round_budgets g j E { nx := fun _ H1 => Q .non H1, rt := Q } (L2.start ["self"] vs) H) : FnG g (j + 2) (pgt g.K "Round" "budgets") sp := by
  obtain ⟨fd, F⟩ := fd_Round_budgets T
  exact fnG_of (ok_Round_budgets T F h) (FunD.bindsN F fun _ _ _ _ _ _ us hl => match us, hl with | [_], _ => rfl)
theorem sc_Round_len_ : FnScope ["self"] ["self"] (defScope (inClass (top 28) 4)) := ⟨rfl, rfl, rfl, by decide +kernel, rfl, by decide +kernel, by decide +kernel⟩
def rd_Round_len_ (g : Wd) (j : Nat) (E : XK) : TS :=
  tRet (tCB (cLen g j) (tCons (cFld g.K (cV 0) "_budgets") (tNil)))
theorem dv_Round_len_ {g : Wd} (T : Top g) {j : Nat} {f : Addr} {cdv : Value} {A : Around} {outer : List Env} {s : Shared} {H : Hp} {E : XK} (hr : Room (j + 1) (A.deeper (envOfC "Round.__len__" (defScope (inClass (top 28) 4)) s.heap.objs.size f cdv))) :
    PSs (cxOf (L2.CX g.P g.w) g.P g.w g.K g.mg g.base ["self"] "Round.__len__" (defScope (inClass (top 28) 4)) f cdv A outer s H E) (defBody (inClass (top 28) 4)) (rd_Round_len_ g j E) := by
  unfold rd_Round_len_
  exact (pss_one (ps_ret (pe_callB (call_cLen hr) (by rfl) (bl_len T) bt_len (pa_cons (pe_cFld (cv 0)) pa_nil))))
theorem ok_Round_len_ {g : Wd} (T : Top g) {fd : FuncData} (F : FunD g.K "__len__" "Round.__len__" (defArgs (inClass (top 28) 4)) (defBody (inClass (top 28) 4)) (defScope (inClass (top 28) 4)) [] [] (mad g.K (gad g.K "Round") "__len__") fd) {j : Nat} {sp : Sp} (h : ∀ vs H Q E, sp vs H Q E → vs.length = 1 ∧ rd_Round_len_ g j E { nx := fun _ H1 => Q .non H1, rt := Q } (L2.start ["self"] vs) H) : FnOk g.P g.w g.K g.mg g.base (L2.CX g.P g.w) (j + 2) (mad g.K (gad g.K "Round") "__len__") fd ["self"] sp :=
  FunD.ok F sc_Round_len_ (fun vs H Q E hh => (h vs H Q E hh).1) fun cdv A outer s H vs Q E hr hh => ⟨rd_Round_len_ g j E, dv_Round_len_ T hr, (h vs H Q E hh).2⟩
theorem fk_Round_len_ {g : Wd} (T : Top g) (j : Nat) {sp : Sp} (h : ∀ vs H Q E, sp vs H Q E → vs.length = 1 ∧ rd_Round_len_ g j E { nx := fun _ H1 => Q .non H1, rt := Q } (L2.start ["self"] vs) H) : FnG g (j + 2) (mad g.K (gad g.K "Round") "__len__") sp := by
  obtain ⟨fd, F⟩ := fd_Round_len_ T
  exact fnG_of (ok_Round_len_ T F h) (FunD.bindsN F fun _ _ _ _ _ _ us hl => match us, hl with | [_], _ => rfl)
theorem sc_Round_eq_ : FnScope ["self", "other"] ["self", "other"] (defScope (inClass (top 28) 5)) := ⟨rfl, rfl, rfl, by decide +kernel, rfl, by decide +kernel, by decide +kernel⟩
def rd_Round_eq_ (g : Wd) (j : Nat) (E : XK) : TS :=
  tRet (cAndV (tCB (cIsi g.K) (tCons (cV 1) (tCons (cGv g "Round") (tNil)))) (tOp (cEqN g.K false) (cFld g.K (cV 0) "_budgets") (cFld g.K (cV 1) "_budgets")))
theorem dv_Round_eq_ {g : Wd} (T : Top g) {j : Nat} {f : Addr} {cdv : Value} {A : Around} {outer : List Env} {s : Shared} {H : Hp} {E : XK} (hr : Room (j + 1) (A.deeper (envOfC "Round.__eq__" (defScope (inClass (top 28) 5)) s.heap.objs.size f cdv))) :
    PSs (cxOf (L2.CX g.P g.w) g.P g.w g.K g.mg g.base ["self", "other"] "Round.__eq__" (defScope (inClass (top 28) 5)) f cdv A outer s H E) (defBody (inClass (top 28) 5)) (rd_Round_eq_ g j E) := by
  unfold rd_Round_eq_
  exact (pss_one (ps_ret (pe_cAnd (pe_callB (call_cIsi) (by rfl) (bl_isinstance T) bt_isinstance (pa_cons (cv 1) (pa_cons (pe_cGv (by rfl)) pa_nil))) (pe_one (pe_cmpR (op_cEq hr.units) (pe_cFld (cv 0)) (pe_cFld (cv 1)) (nomark _))))))
theorem ok_Round_eq_ {g : Wd} (T : Top g) {fd : FuncData} (F : FunD g.K "__eq__" "Round.__eq__" (defArgs (inClass (top 28) 5)) (defBody (inClass (top 28) 5)) (defScope (inClass (top 28) 5)) [] [] (mad g.K (gad g.K "Round") "__eq__") fd) {j : Nat} {sp : Sp} (h : ∀ vs H Q E, sp vs H Q E → vs.length = 2 ∧ rd_Round_eq_ g j E { nx := fun _ H1 => Q .non H1, rt := Q } (L2.start ["self", "other"] vs) H) : FnOk g.P g.w g.K g.mg g.base (L2.CX g.P g.w) (j + 2) (mad g.K (gad g.K "Round") "__eq__") fd ["self", "other"] sp :=
  FunD.ok F sc_Round_eq_ (fun vs H Q E hh => (h vs H Q E hh).1) fun cdv A outer s H vs Q E hr hh => ⟨rd_Round_eq_ g j E, dv_Round_eq_ T hr, (h vs H Q E hh).2⟩
theorem fk_Round_eq_ {g : Wd} (T : Top g) (j : Nat) {sp : Sp} (h : ∀ vs H Q E, sp vs H Q E → vs.length = 2 ∧ rd_Round_eq_ g j E { nx := fun _ H1 => Q .non H1, rt := Q } (L2.start ["self", "other"] vs) H) : FnG g (j + 2) (mad g.K (gad g.K "Round") "__eq__") sp := by
  obtain ⟨fd, F⟩ := fd_Round_eq_ T
  exact fnG_of (ok_Round_eq_ T F h) (FunD.bindsN F fun _ _ _ _ _ _ us hl => match us, hl with | [_, _], _ => rfl)
theorem sc_Round_add_ : FnScope ["self", "other", "joined"] ["self", "other"] (defScope (inClass (top 28) 6)) := ⟨rfl, rfl, rfl, by decide +kernel, rfl, by decide +kernel, by decide +kernel⟩
def rd_Round_add_ (g : Wd) (j : Nat) (E : XK) : TS :=
  tSeq (tIfS (tNot (cTru g.K (tCB (cIsi g.K) (tCons (cV 1) (tCons (cGv g "Round") (tNil)))))) (tNever) (tNext))
  (tSeq (tAsg (tOp (cAdd g.K noOw) (cFld g.K (cV 0) "_budgets") (cFld g.K (cV 1) "_budgets")) (gName 2))
  (tRet (cMakeS g j (fun cls d _ H => E cls d H) (gad g.K "Round") (cV 2))))
theorem dv_Round_add_ {g : Wd} (T : Top g) {j : Nat} {f : Addr} {cdv : Value} {A : Around} {outer : List Env} {s : Shared} {H : Hp} {E : XK} (hr : Room (j + 1) (A.deeper (envOfC "Round.__add__" (defScope (inClass (top 28) 6)) s.heap.objs.size f cdv))) :
    PSs (cxOf (L2.CX g.P g.w) g.P g.w g.K g.mg g.base ["self", "other", "joined"] "Round.__add__" (defScope (inClass (top 28) 6)) f cdv A outer s H E) (defBody (inClass (top 28) 6)) (rd_Round_add_ g j E) := by
  unfold rd_Round_add_
  exact (pss_cons (ps_if (pt_not (ptv (pe_callB (call_cIsi) (by rfl) (bl_isinstance T) bt_isinstance (pa_cons (cv 1) (pa_cons (pe_cGv (by rfl)) pa_nil))))) (pss_one ps_never) pss_nil)
  (pss_cons (ps_set (i := 2) sc_Round_add_.nd rfl (Or.inl rfl) (pe_op (op_cAdd noOw_ok) (pe_cFld (cv 0)) (pe_cFld (cv 1))))
  (pss_one (ps_ret (pe_cMakeS (takes_of rfl rfl rfl rfl) (hr.mono (Nat.le_succ _)) (gf_Round T) (by rfl) (cv 2))))))
theorem ok_Round_add_ {g : Wd} (T : Top g) {fd : FuncData} (F : FunD g.K "__add__" "Round.__add__" (defArgs (inClass (top 28) 6)) (defBody (inClass (top 28) 6)) (defScope (inClass (top 28) 6)) [] [] (mad g.K (gad g.K "Round") "__add__") fd) {j : Nat} {sp : Sp} (h : ∀ vs H Q E, sp vs H Q E → vs.length = 2 ∧ rd_Round_add_ g j E { nx := fun _ H1 => Q .non H1, rt := Q } (L2.start ["self", "other", "joined"] vs) H) : FnOk g.P g.w g.K g.mg g.base (L2.CX g.P g.w) (j + 2) (mad g.K (gad g.K "Round") "__add__") fd ["self", "other"] sp :=
  FunD.ok F sc_Round_add_ (fun vs H Q E hh => (h vs H Q E hh).1) fun cdv A outer s H vs Q E hr hh => ⟨rd_Round_add_ g j E, dv_Round_add_ T hr, (h vs H Q E hh).2⟩
theorem fk_Round_add_ {g : Wd} (T : Top g) (j : Nat) {sp : Sp} (h : ∀ vs H Q E, sp vs H Q E → vs.length = 2 ∧ rd_Round_add_ g j E { nx := fun _ H1 => Q .non H1, rt := Q } (L2.start ["self", "other", "joined"] vs) H) : FnG g (j + 2) (mad g.K (gad g.K "Round") "__add__") sp := by
  obtain ⟨fd, F⟩ := fd_Round_add_ T
  exact fnG_of (ok_Round_add_ T F h) (FunD.bindsN F fun _ _ _ _ _ _ us hl => match us, hl with | [_, _], _ => rfl)
theorem sc_Round_at : FnScope ["self", "t"] ["self", "t"] (defScope (inClass (top 28) 7)) := ⟨rfl, rfl, rfl, by decide +kernel, rfl, by decide +kernel, by decide +kernel⟩
def rd_Round_at (g : Wd) (j : Nat) (E : XK) : TS :=
  tSeq (tDrop (cCall g j (fun cls d _ H => E cls d H) (gad g.K "at_least") (tCons (cV 1) (tCons (tC (.int 0)) (tCons (tC (.str "t")) (tNil))))))
  (tRet (tOp (cIx g.K) (cFld g.K (cV 0) "_budgets") (tOp cMod (cV 1) (tCB (cLen g j) (tCons (cFld g.K (cV 0) "_budgets") (tNil))))))
theorem dv_Round_at {g : Wd} (T : Top g) {j : Nat} {f : Addr} {cdv : Value} {A : Around} {outer : List Env} {s : Shared} {H : Hp} {E : XK} (hr : Room (j + 1) (A.deeper (envOfC "Round.at" (defScope (inClass (top 28) 7)) s.heap.objs.size f cdv))) :
    PSs (cxOf (L2.CX g.P g.w) g.P g.w g.K g.mg g.base ["self", "t"] "Round.at" (defScope (inClass (top 28) 7)) f cdv A outer s H E) (defBody (inClass (top 28) 7)) (rd_Round_at g j E) := by
  unfold rd_Round_at
  exact (pss_cons (ps_expr (pe_cCall (takes_of rfl rfl rfl rfl) (hr.mono (Nat.le_succ _)) (gf_at_least T) (by rfl) (pa_cons (cv 1) (pa_cons pe_int (pa_cons pe_str pa_nil)))))
  (pss_one (ps_ret (pe_ix ix_c (pe_cFld (cv 0)) (pe_op op_cMod (cv 1) (pe_callB (call_cLen hr) (by rfl) (bl_len T) bt_len (pa_cons (pe_cFld (cv 0)) pa_nil))) (fun _ _ => rfl)))))
theorem ok_Round_at {g : Wd} (T : Top g) {fd : FuncData} (F : FunD g.K "at" "Round.at" (defArgs (inClass (top 28) 7)) (defBody (inClass (top 28) 7)) (defScope (inClass (top 28) 7)) [] [] (mad g.K (gad g.K "Round") "at") fd) {j : Nat} {sp : Sp} (h : ∀ vs H Q E, sp vs H Q E → vs.length = 2 ∧ rd_Round_at g j E { nx := fun _ H1 => Q .non H1, rt := Q } (L2.start ["self", "t"] vs) H) : FnOk g.P g.w g.K g.mg g.base (L2.CX g.P g.w) (j + 2) (mad g.K (gad g.K "Round") "at") fd ["self", "t"] sp :=
  FunD.ok F sc_Round_at (fun vs H Q E hh => (h vs H Q E hh).1) fun cdv A outer s H vs Q E hr hh => ⟨rd_Round_at g j E, dv_Round_at T hr, (h vs H Q E hh).2⟩
theorem fk_Round_at {g : Wd} (T : Top g) (j : Nat) {sp : Sp} (h : ∀ vs H Q E, sp vs H Q E → vs.length = 2 ∧ rd_Round_at g j E { nx := fun _ H1 => Q .non H1, rt := Q } (L2.start ["self", "t"] vs) H) : FnG g (j + 2) (mad g.K (gad g.K "Round") "at") sp := by
  obtain ⟨fd, F⟩ := fd_Round_at T
  exact fnG_of (ok_Round_at T F h) (FunD.bindsN F fun _ _ _ _ _ _ us hl => match us, hl with | [_, _], _ => rfl)
theorem sc_Round_total : FnScope ["self", "start", "count"] ["self", "start", "count"] (defScope (inClass (top 28) 9)) := ⟨rfl, rfl, rfl, by decide +kernel, rfl, by decide +kernel, by decide +kernel⟩
def rd_Round_total (g : Wd) (j : Nat) (E : XK) : TS :=
  tSeq (tDrop (cCall g j (fun cls d _ H => E cls d H) (gad g.K "at_least") (tCons (cV 1) (tCons (tC (.int 0)) (tCons (tC (.str "start")) (tNil))))))
  (tSeq (tDrop (cCall g j (fun cls d _ H => E cls d H) (gad g.K "at_least") (tCons (cV 2) (tCons (tC (.int 0)) (tCons (tC (.str "count")) (tNil))))))
  (tRet (cMeth g j (fun cls d _ H => E cls d H) "_window" (cV 0) (tCons (cV 1) (tCons (cV 2) (tNil))))))
theorem dv_Round_total {g : Wd} (T : Top g) {j : Nat} {f : Addr} {cdv : Value} {A : Around} {outer : List Env} {s : Shared} {H : Hp} {E : XK} (hr : Room (j + 1) (A.deeper (envOfC "Round.total" (defScope (inClass (top 28) 9)) s.heap.objs.size f cdv))) :
    PSs (cxOf (L2.CX g.P g.w) g.P g.w g.K g.mg g.base ["self", "start", "count"] "Round.total" (defScope (inClass (top 28) 9)) f cdv A outer s H E) (defBody (inClass (top 28) 9)) (rd_Round_total g j E) := by
  unfold rd_Round_total
  exact (pss_cons (ps_expr (pe_cCall (takes_of rfl rfl rfl rfl) (hr.mono (Nat.le_succ _)) (gf_at_least T) (by rfl) (pa_cons (cv 1) (pa_cons pe_int (pa_cons pe_str pa_nil)))))
  (pss_cons (ps_expr (pe_cCall (takes_of rfl rfl rfl rfl) (hr.mono (Nat.le_succ _)) (gf_at_least T) (by rfl) (pa_cons (cv 2) (pa_cons pe_int (pa_cons pe_str pa_nil)))))
  (pss_one (ps_ret (pe_cMeth (takes_of rfl rfl rfl rfl) (hr.mono (Nat.le_succ _)) (cv 0) (pa_cons (cv 1) (pa_cons (cv 2) pa_nil)))))))
theorem ok_Round_total {g : Wd} (T : Top g) {fd : FuncData} (F : FunD g.K "total" "Round.total" (defArgs (inClass (top 28) 9)) (defBody (inClass (top 28) 9)) (defScope (inClass (top 28) 9)) [] [] (mad g.K (gad g.K "Round") "total") fd) {j : Nat} {sp : Sp} (h : ∀ vs H Q E, sp vs H Q E → vs.length = 3 ∧ rd_Round_total g j E { nx := fun _ H1 => Q .non H1, rt := Q } (L2.start ["self", "start", "count"] vs) H) : FnOk g.P g.w g.K g.mg g.base (L2.CX g.P g.w) (j + 2) (mad g.K (gad g.K "Round") "total") fd ["self", "start", "count"] sp :=
  FunD.ok F sc_Round_total (fun vs H Q E hh => (h vs H Q E hh).1) fun cdv A outer s H vs Q E hr hh => ⟨rd_Round_total g j E, dv_Round_total T hr, (h vs H Q E hh).2⟩
theorem fk_Round_total {g : Wd} (T : Top g) (j : Nat) {sp : Sp} (h : ∀ vs H Q E, sp vs H Q E → vs.length = 3 ∧ rd_Round_total g j E { nx := fun _ H1 => Q .non H1, rt := Q } (L2.start ["self", "start", "count"] vs) H) : FnG g (j + 2) (mad g.K (gad g.K "Round") "total") sp := by
  obtain ⟨fd, F⟩ := fd_Round_total T
  exact fnG_of (ok_Round_total T F h) (FunD.bindsN F fun _ _ _ _ _ _ us hl => match us, hl with | [_, _, _], _ => rfl)
theorem sc_Round_least : FnScope ["self", "count"] ["self", "count"] (defScope (inClass (top 28) 10)) := ⟨rfl, rfl, rfl, by decide +kernel, rfl, by decide +kernel, by decide +kernel⟩
def rd_Round_least (g : Wd) (j : Nat) (E : XK) : TS :=
  tSeq (tDrop (cCall g j (fun cls d _ H => E cls d H) (gad g.K "at_least") (tCons (cV 1) (tCons (tC (.int 0)) (tCons (tC (.str "count")) (tNil))))))
  (tRet (tCB (cMin g.K) (tCons (cMeth g j (fun cls d _ H => E cls d H) "_windows" (cV 0) (tCons (cV 1) (tNil))) (tNil))))
theorem dv_Round_least {g : Wd} (T : Top g) {j : Nat} {f : Addr} {cdv : Value} {A : Around} {outer : List Env} {s : Shared} {H : Hp} {E : XK} (hr : Room (j + 1) (A.deeper (envOfC "Round.least" (defScope (inClass (top 28) 10)) s.heap.objs.size f cdv))) :
    PSs (cxOf (L2.CX g.P g.w) g.P g.w g.K g.mg g.base ["self", "count"] "Round.least" (defScope (inClass (top 28) 10)) f cdv A outer s H E) (defBody (inClass (top 28) 10)) (rd_Round_least g j E) := by
  unfold rd_Round_least
  exact (pss_cons (ps_expr (pe_cCall (takes_of rfl rfl rfl rfl) (hr.mono (Nat.le_succ _)) (gf_at_least T) (by rfl) (pa_cons (cv 1) (pa_cons pe_int (pa_cons pe_str pa_nil)))))
  (pss_one (ps_ret (pe_callB (call_cMin rfl) (by rfl) (bl_min T) bt_min (pa_cons (pe_cMeth (takes_of rfl rfl rfl rfl) (hr.mono (Nat.le_succ _)) (cv 0) (pa_cons (cv 1) pa_nil)) pa_nil)))))
theorem ok_Round_least {g : Wd} (T : Top g) {fd : FuncData} (F : FunD g.K "least" "Round.least" (defArgs (inClass (top 28) 10)) (defBody (inClass (top 28) 10)) (defScope (inClass (top 28) 10)) [] [] (mad g.K (gad g.K "Round") "least") fd) {j : Nat} {sp : Sp} (h : ∀ vs H Q E, sp vs H Q E → vs.length = 2 ∧ rd_Round_least g j E { nx := fun _ H1 => Q .non H1, rt := Q } (L2.start ["self", "count"] vs) H) : FnOk g.P g.w g.K g.mg g.base (L2.CX g.P g.w) (j + 2) (mad g.K (gad g.K "Round") "least") fd ["self", "count"] sp :=
  FunD.ok F sc_Round_least (fun vs H Q E hh => (h vs H Q E hh).1) fun cdv A outer s H vs Q E hr hh => ⟨rd_Round_least g j E, dv_Round_least T hr, (h vs H Q E hh).2⟩
theorem fk_Round_least {g : Wd} (T : Top g) (j : Nat) {sp : Sp} (h : ∀ vs H Q E, sp vs H Q E → vs.length = 2 ∧ rd_Round_least g j E { nx := fun _ H1 => Q .non H1, rt := Q } (L2.start ["self", "count"] vs) H) : FnG g (j + 2) (mad g.K (gad g.K "Round") "least") sp := by
  obtain ⟨fd, F⟩ := fd_Round_least T
  exact fnG_of (ok_Round_least T F h) (FunD.bindsN F fun _ _ _ _ _ _ us hl => match us, hl with | [_, _], _ => rfl)
theorem sc_Round__window : FnScope ["self", "start", "count", "turns", "rest", "first", "twice"] ["self", "start", "count"] (defScope (inClass (top 28) 13)) := ⟨rfl, rfl, rfl, by decide +kernel, rfl, by decide +kernel, by decide +kernel⟩
def rd_Round__window (g : Wd) (j : Nat) (E : XK) : TS :=
  tSeq (tAsg (tCB (cDivmod) (tCons (cV 2) (tCons (tCB (cLen g j) (tCons (cFld g.K (cV 0) "_budgets") (tNil))) (tNil)))) (cgTup g.K 2 (cgCons (gName 3) (cgCons (gName 4) (cgNil)))))
  (tSeq (tAsg (tOp cMod (cV 1) (tCB (cLen g j) (tCons (cFld g.K (cV 0) "_budgets") (tNil)))) (gName 5))
  (tSeq (tAsg (tOp (cAdd g.K noOw) (cFld g.K (cV 0) "_budgets") (cFld g.K (cV 0) "_budgets")) (gName 6))
  (tRet (tOp (cAdd g.K noOw) (tOp cMul (cV 3) (tCB (cSum g.K) (tCons (cFld g.K (cV 0) "_budgets") (tNil)))) (tCB (cSum g.K) (tCons (tSl (cSl g.K) (cV 6) (cPart (cV 5)) (cPart (tOp (cAdd g.K noOw) (cV 5) (cV 4)))) (tNil)))))))
theorem dv_Round__window {g : Wd} (T : Top g) {j : Nat} {f : Addr} {cdv : Value} {A : Around} {outer : List Env} {s : Shared} {H : Hp} {E : XK} (hr : Room (j + 1) (A.deeper (envOfC "Round._window" (defScope (inClass (top 28) 13)) s.heap.objs.size f cdv))) :
    PSs (cxOf (L2.CX g.P g.w) g.P g.w g.K g.mg g.base ["self", "start", "count", "turns", "rest", "first", "twice"] "Round._window" (defScope (inClass (top 28) 13)) f cdv A outer s H E) (defBody (inClass (top 28) 13)) (rd_Round__window g j E) := by
  unfold rd_Round__window
  exact (pss_cons (ps_asg (pe_callB (call_cDivmod) (by rfl) (bl_divmod T) bt_divmod (pa_cons (cv 2) (pa_cons (pe_callB (call_cLen hr) (by rfl) (bl_len T) bt_len (pa_cons (pe_cFld (cv 0)) pa_nil)) pa_nil))) (pg_ctup rfl (pgs_ccons (pg_name sc_Round__window.nd rfl (Or.inl rfl)) (pgs_ccons (pg_name sc_Round__window.nd rfl (Or.inl rfl)) pgs_cnil))))
  (pss_cons (ps_set (i := 5) sc_Round__window.nd rfl (Or.inl rfl) (pe_op op_cMod (cv 1) (pe_callB (call_cLen hr) (by rfl) (bl_len T) bt_len (pa_cons (pe_cFld (cv 0)) pa_nil))))
  (pss_cons (ps_set (i := 6) sc_Round__window.nd rfl (Or.inl rfl) (pe_op (op_cAdd noOw_ok) (pe_cFld (cv 0)) (pe_cFld (cv 0))))
  (pss_one (ps_ret (pe_op (op_cAdd noOw_ok) (pe_op op_cMul (cv 3) (pe_callB (call_cSum rfl) (by rfl) (bl_sum T) bt_sum (pa_cons (pe_cFld (cv 0)) pa_nil))) (pe_callB (call_cSum rfl) (by rfl) (bl_sum T) bt_sum (pa_cons (pe_slice sl_c (cv 6) (po_c (cv 5)) (po_c (pe_op (op_cAdd noOw_ok) (cv 5) (cv 4)))) pa_nil))))))))
theorem ok_Round__window {g : Wd} (T : Top g) {fd : FuncData} (F : FunD g.K "_window" "Round._window" (defArgs (inClass (top 28) 13)) (defBody (inClass (top 28) 13)) (defScope (inClass (top 28) 13)) [] [] (mad g.K (gad g.K "Round") "_window") fd) {j : Nat} {sp : Sp} (h : ∀ vs H Q E, sp vs H Q E → vs.length = 3 ∧ rd_Round__window g j E { nx := fun _ H1 => Q .non H1, rt := Q } (L2.start ["self", "start", "count", "turns", "rest", "first", "twice"] vs) H) : FnOk g.P g.w g.K g.mg g.base (L2.CX g.P g.w) (j + 2) (mad g.K (gad g.K "Round") "_window") fd ["self", "start", "count"] sp :=
  FunD.ok F sc_Round__window (fun vs H Q E hh => (h vs H Q E hh).1) fun cdv A outer s H vs Q E hr hh => ⟨rd_Round__window g j E, dv_Round__window T hr, (h vs H Q E hh).2⟩
theorem fk_Round__window {g : Wd} (T : Top g) (j : Nat) {sp : Sp} (h : ∀ vs H Q E, sp vs H Q E → vs.length = 3 ∧ rd_Round__window g j E { nx := fun _ H1 => Q .non H1, rt := Q } (L2.start ["self", "start", "count", "turns", "rest", "first", "twice"] vs) H) : FnG g (j + 2) (mad g.K (gad g.K "Round") "_window") sp := by
  obtain ⟨fd, F⟩ := fd_Round__window T
  exact fnG_of (ok_Round__window T F h) (FunD.bindsN F fun _ _ _ _ _ _ us hl => match us, hl with | [_, _, _], _ => rfl)
theorem sc_Round__windows : FnScope ["self", "count", "start"] ["self", "count"] (defScope (inClass (top 28) 14)) := ⟨rfl, rfl, rfl, by decide +kernel, rfl, by decide +kernel, by decide +kernel⟩
def rd_Round__windows (g : Wd) (j : Nat) (E : XK) : TS :=
  tRet (tLc (iRng1 (tCons (tCB (cLen g j) (tCons (cFld g.K (cV 0) "_budgets") (tNil))) (tNil))) (gName 2) (tYes) (cMeth g j (fun _ _ _ _ => False) "_window" (cV 0) (tCons (cV 2) (tCons (cV 1) (tNil)))) [2])
theorem dv_Round__windows {g : Wd} (T : Top g) {j : Nat} {f : Addr} {cdv : Value} {A : Around} {outer : List Env} {s : Shared} {H : Hp} {E : XK} (hr : Room (j + 1) (A.deeper (envOfC "Round._windows" (defScope (inClass (top 28) 14)) s.heap.objs.size f cdv))) :
    PSs (cxOf (L2.CX g.P g.w) g.P g.w g.K g.mg g.base ["self", "count", "start"] "Round._windows" (defScope (inClass (top 28) 14)) f cdv A outer s H E) (defBody (inClass (top 28) 14)) (rd_Round__windows g j E) := by
  unfold rd_Round__windows
  exact (pss_one (ps_ret (pe_lc rfl sc_Round__windows.nd (pi_range1 (by rfl) (bl_range T) (pa_cons (pe_callB (call_cLen hr) (by rfl) (bl_len T) bt_len (pa_cons (pe_cFld (cv 0)) pa_nil)) pa_nil)) (blkOk_by (own := [("start", 2)]) (by change blkC ["self", "count", "start"] (defScope (inClass (top 28) 14)) _ _ = true; decide +kernel)) (fun s H C cl fp => (pg_name sc_Round__windows.nd rfl (Or.inl rfl))) (fun s H C cl fp => pts_nil) (fun s H C cl fp => (pe_cMeth takes0 (hr.mono (Nat.le_succ _)) (cv 0) (pa_cons (cv 2) (pa_cons (cv 1) pa_nil)))))))
theorem ok_Round__windows {g : Wd} (T : Top g) {fd : FuncData} (F : FunD g.K "_windows" "Round._windows" (defArgs (inClass (top 28) 14)) (defBody (inClass (top 28) 14)) (defScope (inClass (top 28) 14)) [] [] (mad g.K (gad g.K "Round") "_windows") fd) {j : Nat} {sp : Sp} (h : ∀ vs H Q E, sp vs H Q E → vs.length = 2 ∧ rd_Round__windows g j E { nx := fun _ H1 => Q .non H1, rt := Q } (L2.start ["self", "count", "start"] vs) H) : FnOk g.P g.w g.K g.mg g.base (L2.CX g.P g.w) (j + 2) (mad g.K (gad g.K "Round") "_windows") fd ["self", "count"] sp :=
  FunD.ok F sc_Round__windows (fun vs H Q E hh => (h vs H Q E hh).1) fun cdv A outer s H vs Q E hr hh => ⟨rd_Round__windows g j E, dv_Round__windows T hr, (h vs H Q E hh).2⟩
theorem fk_Round__windows {g : Wd} (T : Top g) (j : Nat) {sp : Sp} (h : ∀ vs H Q E, sp vs H Q E → vs.length = 2 ∧ rd_Round__windows g j E { nx := fun _ H1 => Q .non H1, rt := Q } (L2.start ["self", "count", "start"] vs) H) : FnG g (j + 2) (mad g.K (gad g.K "Round") "_windows") sp := by
  obtain ⟨fd, F⟩ := fd_Round__windows T
  exact fnG_of (ok_Round__windows T F h) (FunD.bindsN F fun _ _ _ _ _ _ us hl => match us, hl with | [_, _], _ => rfl)
theorem sc__law_is_count : FnScope ["_law_thing"] ["_law_thing"] (defScope (top 30)) := ⟨rfl, rfl, rfl, by decide +kernel, rfl, by decide +kernel, by decide +kernel⟩
def rd__law_is_count (g : Wd) (j : Nat) (E : XK) : TS :=
  tRet (cAndV (tCB (cIsi g.K) (tCons (cV 0) (tCons (tC (.ty "int")) (tNil)))) (cNotV (tCB (cIsi g.K) (tCons (cV 0) (tCons (tC (.ty "bool")) (tNil))))))
theorem dv__law_is_count {g : Wd} (T : Top g) {j : Nat} {f : Addr} {cdv : Value} {A : Around} {outer : List Env} {s : Shared} {H : Hp} {E : XK} (hr : Room (j + 1) (A.deeper (envOfC "_law_is_count" (defScope (top 30)) s.heap.objs.size f cdv))) :
    PSs (cxOf (L2.CX g.P g.w) g.P g.w g.K g.mg g.base ["_law_thing"] "_law_is_count" (defScope (top 30)) f cdv A outer s H E) (defBody (top 30)) (rd__law_is_count g j E) := by
  unfold rd__law_is_count
  exact (pss_one (ps_ret (pe_cAnd (pe_callB (call_cIsi) (by rfl) (bl_isinstance T) bt_isinstance (pa_cons (cv 0) (pa_cons (pe_bltn (v := .ty "int") (by rfl) (bl_int T) bt_int (by rfl)) pa_nil))) (pe_one (pe_cNot (pe_callB (call_cIsi) (by rfl) (bl_isinstance T) bt_isinstance (pa_cons (cv 0) (pa_cons (pe_bltn (v := .ty "bool") (by rfl) (bl_bool T) bt_bool (by rfl)) pa_nil))))))))
theorem ok__law_is_count {g : Wd} (T : Top g) {fd : FuncData} (F : FunD g.K "_law_is_count" "_law_is_count" (defArgs (top 30)) (defBody (top 30)) (defScope (top 30)) [] [] (gad g.K "_law_is_count") fd) {j : Nat} {sp : Sp} (h : ∀ vs H Q E, sp vs H Q E → vs.length = 1 ∧ rd__law_is_count g j E { nx := fun _ H1 => Q .non H1, rt := Q } (L2.start ["_law_thing"] vs) H) : FnOk g.P g.w g.K g.mg g.base (L2.CX g.P g.w) (j + 2) (gad g.K "_law_is_count") fd ["_law_thing"] sp :=
  FunD.ok F sc__law_is_count (fun vs H Q E hh => (h vs H Q E hh).1) fun cdv A outer s H vs Q E hr hh => ⟨rd__law_is_count g j E, dv__law_is_count T hr, (h vs H Q E hh).2⟩
theorem fk__law_is_count {g : Wd} (T : Top g) (j : Nat) {sp : Sp} (h : ∀ vs H Q E, sp vs H Q E → vs.length = 1 ∧ rd__law_is_count g j E { nx := fun _ H1 => Q .non H1, rt := Q } (L2.start ["_law_thing"] vs) H) : FnG g (j + 2) (gad g.K "_law_is_count") sp := by
  obtain ⟨fd, F⟩ := fd__law_is_count T
  exact fnG_of (ok__law_is_count T F h) (FunD.bindsN F fun _ _ _ _ _ _ us hl => match us, hl with | [_], _ => rfl)
theorem sc__law_box : FnScope ["_law_script", "_law_at", "_law_seed", "_law_cell"] ["_law_script", "_law_at"] (defScope (top 31)) := ⟨rfl, rfl, rfl, by decide +kernel, rfl, by decide +kernel, by decide +kernel⟩
def rd__law_box (g : Wd) (j : Nat) (E : XK) : TS :=
  tSeq (tAsg (tCB (cSum g.K) (tCons (tLc (iSeq g.K (tSl (cSl g.K) (cV 0) (tNoPart) (cPart (tC (.int 63))))) (gName 3) (tYes) (tOp cMod (tCB (cInt) (tCons (cV 3) (tNil))) (tC (.int 1000003))) [3]) (tNil))) (gName 2))
  (tRet (tLst (tCons (tC (.int 0)) (tCons (tOp cMod (tCB (cInt) (tCons (tOp (cAdd g.K noOw) (tOp (cAdd g.K noOw) (cV 2) (tOp cMul (tC (.int 7919)) (cV 1))) (tC (.int 101))) (tNil))) (tC (.int 2147483647))) (tCons (tC (.int 0)) (tCons (cV 1) (tNil)))))))
theorem dv__law_box {g : Wd} (T : Top g) {j : Nat} {f : Addr} {cdv : Value} {A : Around} {outer : List Env} {s : Shared} {H : Hp} {E : XK} (hr : Room (j + 1) (A.deeper (envOfC "_law_box" (defScope (top 31)) s.heap.objs.size f cdv))) :
    PSs (cxOf (L2.CX g.P g.w) g.P g.w g.K g.mg g.base ["_law_script", "_law_at", "_law_seed", "_law_cell"] "_law_box" (defScope (top 31)) f cdv A outer s H E) (defBody (top 31)) (rd__law_box g j E) := by
  unfold rd__law_box
  exact (pss_cons (ps_set (i := 2) sc__law_box.nd rfl (Or.inl rfl) (pe_callB (call_cSum rfl) (by rfl) (bl_sum T) bt_sum (pa_cons (pe_lc rfl sc__law_box.nd (pi_seq (pe_slice sl_c (cv 0) po_none (po_c pe_int))) (blkOk_by (own := [("_law_cell", 3)]) (by change blkC ["_law_script", "_law_at", "_law_seed", "_law_cell"] (defScope (top 31)) _ _ = true; decide +kernel)) (fun s H C cl fp => (pg_name sc__law_box.nd rfl (Or.inl rfl))) (fun s H C cl fp => pts_nil) (fun s H C cl fp => (pe_op op_cMod (pe_callTy (call_cInt) (by rfl) (bl_int T) bt_int (pa_cons (cv 3) pa_nil)) pe_int))) pa_nil)))
  (pss_one (ps_ret (pe_lst (pa_cons pe_int (pa_cons (pe_op op_cMod (pe_callTy (call_cInt) (by rfl) (bl_int T) bt_int (pa_cons (pe_op (op_cAdd noOw_ok) (pe_op (op_cAdd noOw_ok) (cv 2) (pe_op op_cMul pe_int (cv 1))) pe_int) pa_nil)) pe_int) (pa_cons pe_int (pa_cons (cv 1) pa_nil))))))))
theorem ok__law_box {g : Wd} (T : Top g) {fd : FuncData} (F : FunD g.K "_law_box" "_law_box" (defArgs (top 31)) (defBody (top 31)) (defScope (top 31)) [] [] (gad g.K "_law_box") fd) {j : Nat} {sp : Sp} (h : ∀ vs H Q E, sp vs H Q E → vs.length = 2 ∧ rd__law_box g j E { nx := fun _ H1 => Q .non H1, rt := Q } (L2.start ["_law_script", "_law_at", "_law_seed", "_law_cell"] vs) H) : FnOk g.P g.w g.K g.mg g.base (L2.CX g.P g.w) (j + 2) (gad g.K "_law_box") fd ["_law_script", "_law_at"] sp :=
  FunD.ok F sc__law_box (fun vs H Q E hh => (h vs H Q E hh).1) fun cdv A outer s H vs Q E hr hh => ⟨rd__law_box g j E, dv__law_box T hr, (h vs H Q E hh).2⟩
theorem fk__law_box {g : Wd} (T : Top g) (j : Nat) {sp : Sp} (h : ∀ vs H Q E, sp vs H Q E → vs.length = 2 ∧ rd__law_box g j E { nx := fun _ H1 => Q .non H1, rt := Q } (L2.start ["_law_script", "_law_at", "_law_seed", "_law_cell"] vs) H) : FnG g (j + 2) (gad g.K "_law_box") sp := by
  obtain ⟨fd, F⟩ := fd__law_box T
  exact fnG_of (ok__law_box T F h) (FunD.bindsN F fun _ _ _ _ _ _ us hl => match us, hl with | [_, _], _ => rfl)
theorem sc__law_take : FnScope ["_law_script", "_law_box_here", "_law_many", "_law_cell", "_law_digit"] ["_law_script", "_law_box_here", "_law_many"] (defScope (top 32)) := ⟨rfl, rfl, rfl, by decide +kernel, rfl, by decide +kernel, by decide +kernel⟩
def rd__law_take (g : Wd) (j : Nat) (E : XK) : TS :=
  tSeq (tIfS (tAnd (cTest (tOp (cEqN g.K false) (tOp (cIx g.K) (cV 1) (tC (.int 0))) (tC (.int 0)))) (cTest (tOp cLt (tOp (cIx g.K) (cV 1) (tC (.int 3))) (tCB (cMin g.K) (tCons (tC (.int 63)) (tCons (tCB (cLen g j) (tCons (cV 0) (tNil))) (tNil))))))) (tSeq (tAsg (tCB (cInt) (tCons (tOp (cIx g.K) (cV 0) (tOp (cIx g.K) (cV 1) (tC (.int 3)))) (tNil))) (gName 3))
  (tSeq (tAsg (tOp (cAdd g.K noOw) (tOp (cIx g.K) (cV 1) (tC (.int 3))) (tC (.int 5))) (gSub (cV 1) (tC (.int 3)) cSetIx))
  (tSeq (tAsg (tOp cMod (tCB (cInt) (tCons (tOp (cAdd g.K noOw) (tOp (cAdd g.K noOw) (tOp cMul (tOp (cIx g.K) (cV 1) (tC (.int 1))) (tC (.int 31))) (cV 3)) (tC (.int 17))) (tNil))) (tC (.int 2147483647))) (gSub (cV 1) (tC (.int 1)) cSetIx))
  (tIfS (cTest (tOp cGe (tCB (cAbs) (tCons (cV 3) (tNil))) (tOp cPow (tC (.int 10)) (tC (.int 18))))) (tAsg (tCB (cAbs) (tCons (cV 3) (tNil))) (gSub (cV 1) (tC (.int 0)) cSetIx)) (tNext))))) (tNext))
  (tSeq (tIfS (cTest (tOp cGt (tOp (cIx g.K) (cV 1) (tC (.int 0))) (tC (.int 0)))) (tSeq (tAsg (tOp cMod (tCB (cInt) (tCons (tOp (cIx g.K) (cV 1) (tC (.int 0))) (tNil))) (cV 2)) (gName 4))
  (tSeq (tAsg (tOp cDiv (tOp (cIx g.K) (cV 1) (tC (.int 0))) (cV 2)) (gSub (cV 1) (tC (.int 0)) cSetIx))
  (tRet (cV 4)))) (tNext))
  (tSeq (tAsg (tOp (cAdd g.K noOw) (tOp (cIx g.K) (cV 1) (tC (.int 2))) (tC (.int 1))) (gSub (cV 1) (tC (.int 2)) cSetIx))
  (tSeq (tAsg (tOp cMod (tCB (cInt) (tCons (tOp (cAdd g.K noOw) (tOp (cAdd g.K noOw) (tOp cMul (tOp (cIx g.K) (cV 1) (tC (.int 1))) (tC (.int 48271))) (tOp cMul (tOp (cIx g.K) (cV 1) (tC (.int 2))) (tC (.int 69621)))) (tC (.int 12345))) (tNil))) (tC (.int 2147483647))) (gSub (cV 1) (tC (.int 1)) cSetIx))
  (tRet (tOp cMod (tOp cDiv (tOp cMod (tCB (cInt) (tCons (tOp (cAdd g.K noOw) (tOp cMul (tOp cDiv (tOp (cIx g.K) (cV 1) (tC (.int 1))) (tC (.int 16))) (tC (.int 40692))) (tOp cMul (tOp (cIx g.K) (cV 1) (tC (.int 2))) (tC (.int 7)))) (tNil))) (tC (.int 2147483399))) (tC (.int 8))) (cV 2))))))
theorem dv__law_take {g : Wd} (T : Top g) {j : Nat} {f : Addr} {cdv : Value} {A : Around} {outer : List Env} {s : Shared} {H : Hp} {E : XK} (hr : Room (j + 1) (A.deeper (envOfC "_law_take" (defScope (top 32)) s.heap.objs.size f cdv))) :
    PSs (cxOf (L2.CX g.P g.w) g.P g.w g.K g.mg g.base ["_law_script", "_law_box_here", "_law_many", "_law_cell", "_law_digit"] "_law_take" (defScope (top 32)) f cdv A outer s H E) (defBody (top 32)) (rd__law_take g j E) := by
  unfold rd__law_take
  exact (pss_cons (ps_if (pw_and (ptc (op_cEq hr.units) (pe_ix ix_c (cv 1) pe_int (fun _ _ => rfl)) pe_int (nomark _)) (pw_and1 (ptc op_cLt (pe_ix ix_c (cv 1) pe_int (fun _ _ => rfl)) (pe_callB (call_cMin rfl) (by rfl) (bl_min T) bt_min (pa_cons pe_int (pa_cons (pe_callB (call_cLen hr) (by rfl) (bl_len T) bt_len (pa_cons (cv 0) pa_nil)) pa_nil))) (nomark _)))).pt (pss_cons (ps_set (i := 3) sc__law_take.nd rfl (Or.inl rfl) (pe_callTy (call_cInt) (by rfl) (bl_int T) bt_int (pa_cons (pe_ix ix_c (cv 0) (pe_ix ix_c (cv 1) pe_int (fun _ _ => rfl)) (fun _ _ => rfl)) pa_nil)))
  (pss_cons (ps_asg (pe_op (op_cAdd noOw_ok) (pe_ix ix_c (cv 1) pe_int (fun _ _ => rfl)) pe_int) (pg_sub (cv 1) pe_int set_c))
  (pss_cons (ps_asg (pe_op op_cMod (pe_callTy (call_cInt) (by rfl) (bl_int T) bt_int (pa_cons (pe_op (op_cAdd noOw_ok) (pe_op (op_cAdd noOw_ok) (pe_op op_cMul (pe_ix ix_c (cv 1) pe_int (fun _ _ => rfl)) pe_int) (cv 3)) pe_int) pa_nil)) pe_int) (pg_sub (cv 1) pe_int set_c))
  (pss_one (ps_if (ptc op_cGe (pe_callB (call_cAbs) (by rfl) (bl_abs T) bt_abs (pa_cons (cv 3) pa_nil)) (pe_op op_cPow pe_int pe_int) (nomark _)) (pss_one (ps_asg (pe_callB (call_cAbs) (by rfl) (bl_abs T) bt_abs (pa_cons (cv 3) pa_nil)) (pg_sub (cv 1) pe_int set_c))) pss_nil))))) pss_nil)
  (pss_cons (ps_if (ptc op_cGt (pe_ix ix_c (cv 1) pe_int (fun _ _ => rfl)) pe_int (nomark _)) (pss_cons (ps_set (i := 4) sc__law_take.nd rfl (Or.inl rfl) (pe_op op_cMod (pe_callTy (call_cInt) (by rfl) (bl_int T) bt_int (pa_cons (pe_ix ix_c (cv 1) pe_int (fun _ _ => rfl)) pa_nil)) (cv 2)))
  (pss_cons (ps_asg (pe_op op_cDiv (pe_ix ix_c (cv 1) pe_int (fun _ _ => rfl)) (cv 2)) (pg_sub (cv 1) pe_int set_c))
  (pss_one (ps_ret (cv 4))))) pss_nil)
  (pss_cons (ps_asg (pe_op (op_cAdd noOw_ok) (pe_ix ix_c (cv 1) pe_int (fun _ _ => rfl)) pe_int) (pg_sub (cv 1) pe_int set_c))
  (pss_cons (ps_asg (pe_op op_cMod (pe_callTy (call_cInt) (by rfl) (bl_int T) bt_int (pa_cons (pe_op (op_cAdd noOw_ok) (pe_op (op_cAdd noOw_ok) (pe_op op_cMul (pe_ix ix_c (cv 1) pe_int (fun _ _ => rfl)) pe_int) (pe_op op_cMul (pe_ix ix_c (cv 1) pe_int (fun _ _ => rfl)) pe_int)) pe_int) pa_nil)) pe_int) (pg_sub (cv 1) pe_int set_c))
  (pss_one (ps_ret (pe_op op_cMod (pe_op op_cDiv (pe_op op_cMod (pe_callTy (call_cInt) (by rfl) (bl_int T) bt_int (pa_cons (pe_op (op_cAdd noOw_ok) (pe_op op_cMul (pe_op op_cDiv (pe_ix ix_c (cv 1) pe_int (fun _ _ => rfl)) pe_int) pe_int) (pe_op op_cMul (pe_ix ix_c (cv 1) pe_int (fun _ _ => rfl)) pe_int)) pa_nil)) pe_int) pe_int) (cv 2))))))))
theorem ok__law_take {g : Wd} (T : Top g) {fd : FuncData} (F : FunD g.K "_law_take" "_law_take" (defArgs (top 32)) (defBody (top 32)) (defScope (top 32)) [] [] (gad g.K "_law_take") fd) {j : Nat} {sp : Sp} (h : ∀ vs H Q E, sp vs H Q E → vs.length = 3 ∧ rd__law_take g j E { nx := fun _ H1 => Q .non H1, rt := Q } (L2.start ["_law_script", "_law_box_here", "_law_many", "_law_cell", "_law_digit"] vs) H) : FnOk g.P g.w g.K g.mg g.base (L2.CX g.P g.w) (j + 2) (gad g.K "_law_take") fd ["_law_script", "_law_box_here", "_law_many"] sp :=
  FunD.ok F sc__law_take (fun vs H Q E hh => (h vs H Q E hh).1) fun cdv A outer s H vs Q E hr hh => ⟨rd__law_take g j E, dv__law_take T hr, (h vs H Q E hh).2⟩
theorem fk__law_take {g : Wd} (T : Top g) (j : Nat) {sp : Sp} (h : ∀ vs H Q E, sp vs H Q E → vs.length = 3 ∧ rd__law_take g j E { nx := fun _ H1 => Q .non H1, rt := Q } (L2.start ["_law_script", "_law_box_here", "_law_many", "_law_cell", "_law_digit"] vs) H) : FnG g (j + 2) (gad g.K "_law_take") sp := by
  obtain ⟨fd, F⟩ := fd__law_take T
  exact fnG_of (ok__law_take T F h) (FunD.bindsN F fun _ _ _ _ _ _ us hl => match us, hl with | [_, _, _], _ => rfl)
theorem sc__law_round : FnScope ["_law_pays_here", "_law_made", "_law_pay"] ["_law_pays_here"] (defScope (top 33)) := ⟨rfl, rfl, rfl, by decide +kernel, rfl, by decide +kernel, by decide +kernel⟩
def rd__law_round (g : Wd) (j : Nat) (E : XK) : TS :=
  tSeq (tAsg (cMake g j (fun cls d _ H => E cls d H) (gad g.K "Round") (tCons (tOp (cIx g.K) (cV 0) (tC (.int 0))) (tNil))) (gName 1))
  (tSeq (tFor (iSeq g.K (tSl (cSl g.K) (cV 0) (cPart (tC (.int 1))) (tNoPart))) (gName 2) (tAsg (tOp (cAdd g.K (OwAdd g j)) (cV 1) (cMake g j (fun cls d _ H => E cls d H) (gad g.K "Round") (tCons (cV 2) (tNil)))) (gName 1)))
  (tRet (cV 1)))
theorem dv__law_round {g : Wd} (T : Top g) {j : Nat} {f : Addr} {cdv : Value} {A : Around} {outer : List Env} {s : Shared} {H : Hp} {E : XK} (hr : Room (j + 1) (A.deeper (envOfC "_law_round" (defScope (top 33)) s.heap.objs.size f cdv))) :
    PSs (cxOf (L2.CX g.P g.w) g.P g.w g.K g.mg g.base ["_law_pays_here", "_law_made", "_law_pay"] "_law_round" (defScope (top 33)) f cdv A outer s H E) (defBody (top 33)) (rd__law_round g j E) := by
  unfold rd__law_round
  exact (pss_cons (ps_set (i := 1) sc__law_round.nd rfl (Or.inl rfl) (pe_cMake (takes_of rfl rfl rfl rfl) (hr.mono (Nat.le_succ _)) (gf_Round T) (by rfl) (pa_cons (pe_ix ix_c (cv 0) pe_int (fun _ _ => rfl)) pa_nil)))
  (pss_cons (ps_for (passes_of rfl) rfl (pi_seq (pe_slice sl_c (cv 0) (po_c pe_int) po_none)) (pg_name sc__law_round.nd rfl (Or.inl rfl)) (pss_one (ps_set (i := 1) sc__law_round.nd rfl (Or.inl rfl) (pe_op (op_cAdd (owAdd_ok (hr.mono (Nat.le_succ _)))) (cv 1) (pe_cMake (takes_of rfl rfl rfl rfl) (hr.mono (Nat.le_succ _)) (gf_Round T) (by rfl) (pa_cons (cv 2) pa_nil))))))
  (pss_one (ps_ret (cv 1)))))
theorem ok__law_round {g : Wd} (T : Top g) {fd : FuncData} (F : FunD g.K "_law_round" "_law_round" (defArgs (top 33)) (defBody (top 33)) (defScope (top 33)) [] [] (gad g.K "_law_round") fd) {j : Nat} {sp : Sp} (h : ∀ vs H Q E, sp vs H Q E → vs.length = 1 ∧ rd__law_round g j E { nx := fun _ H1 => Q .non H1, rt := Q } (L2.start ["_law_pays_here", "_law_made", "_law_pay"] vs) H) : FnOk g.P g.w g.K g.mg g.base (L2.CX g.P g.w) (j + 2) (gad g.K "_law_round") fd ["_law_pays_here"] sp :=
  FunD.ok F sc__law_round (fun vs H Q E hh => (h vs H Q E hh).1) fun cdv A outer s H vs Q E hr hh => ⟨rd__law_round g j E, dv__law_round T hr, (h vs H Q E hh).2⟩
theorem fk__law_round {g : Wd} (T : Top g) (j : Nat) {sp : Sp} (h : ∀ vs H Q E, sp vs H Q E → vs.length = 1 ∧ rd__law_round g j E { nx := fun _ H1 => Q .non H1, rt := Q } (L2.start ["_law_pays_here", "_law_made", "_law_pay"] vs) H) : FnG g (j + 2) (gad g.K "_law_round") sp := by
  obtain ⟨fd, F⟩ := fd__law_round T
  exact fnG_of (ok__law_round T F h) (FunD.bindsN F fun _ _ _ _ _ _ us hl => match us, hl with | [_], _ => rfl)
theorem sc__law_pays : FnScope ["_law_script", "_law_box_here", "_law_pays_here", "_law_k", "_law_top"] ["_law_script", "_law_box_here"] (defScope (top 34)) := ⟨rfl, rfl, rfl, by decide +kernel, rfl, by decide +kernel, by decide +kernel⟩
def rd__law_pays (g : Wd) (j : Nat) (E : XK) : TS :=
  tSeq (tAsg (tLst (tNil)) (gName 2))
  (tSeq (tFor (iRng1 (tCons (tOp (cAdd g.K noOw) (tC (.int 1)) (cCall g j (fun cls d _ H => E cls d H) (gad g.K "_law_take") (tCons (cV 0) (tCons (cV 1) (tCons (tC (.int 12)) (tNil)))))) (tNil))) (gName 3) (tSeq (tAsg (tOp (cIx g.K) (tLst (tCons (tC (.int 2)) (tCons (tC (.int 4)) (tCons (tC (.int 9)) (tCons (tC (.int 70)) (tCons (tC (.int 70)) (tCons (tOp (cAdd g.K noOw) (tOp cPow (tC (.int 10)) (tC (.int 30))) (tC (.int 1))) (tNil)))))))) (cCall g j (fun cls d _ H => E cls d H) (gad g.K "_law_take") (tCons (cV 0) (tCons (cV 1) (tCons (tC (.int 6)) (tNil)))))) (gName 4))
  (tDrop (cApp g.K (cV 2) (tCons (cCall g j (fun cls d _ H => E cls d H) (gad g.K "_law_take") (tCons (cV 0) (tCons (cV 1) (tCons (cV 4) (tNil))))) (tNil))))))
  (tRet (cV 2)))
theorem dv__law_pays {g : Wd} (T : Top g) {j : Nat} {f : Addr} {cdv : Value} {A : Around} {outer : List Env} {s : Shared} {H : Hp} {E : XK} (hr : Room (j + 1) (A.deeper (envOfC "_law_pays" (defScope (top 34)) s.heap.objs.size f cdv))) :
    PSs (cxOf (L2.CX g.P g.w) g.P g.w g.K g.mg g.base ["_law_script", "_law_box_here", "_law_pays_here", "_law_k", "_law_top"] "_law_pays" (defScope (top 34)) f cdv A outer s H E) (defBody (top 34)) (rd__law_pays g j E) := by
  unfold rd__law_pays
  exact (pss_cons (ps_set (i := 2) sc__law_pays.nd rfl (Or.inl rfl) (pe_lst pa_nil))
  (pss_cons (ps_for (passes_of rfl) rfl (pi_range1 (by rfl) (bl_range T) (pa_cons (pe_op (op_cAdd noOw_ok) pe_int (pe_cCall (takes_of rfl rfl rfl rfl) (hr.mono (Nat.le_succ _)) (gf__law_take T) (by rfl) (pa_cons (cv 0) (pa_cons (cv 1) (pa_cons pe_int pa_nil))))) pa_nil)) (pg_name sc__law_pays.nd rfl (Or.inl rfl)) (pss_cons (ps_set (i := 4) sc__law_pays.nd rfl (Or.inl rfl) (pe_ix ix_c (pe_lst (pa_cons pe_int (pa_cons pe_int (pa_cons pe_int (pa_cons pe_int (pa_cons pe_int (pa_cons (pe_op (op_cAdd noOw_ok) (pe_op op_cPow pe_int pe_int) pe_int) pa_nil))))))) (pe_cCall (takes_of rfl rfl rfl rfl) (hr.mono (Nat.le_succ _)) (gf__law_take T) (by rfl) (pa_cons (cv 0) (pa_cons (cv 1) (pa_cons pe_int pa_nil)))) (fun _ _ => rfl)))
  (pss_one (ps_expr (pe_cApp (cv 2) (pa_cons (pe_cCall (takes_of rfl rfl rfl rfl) (hr.mono (Nat.le_succ _)) (gf__law_take T) (by rfl) (pa_cons (cv 0) (pa_cons (cv 1) (pa_cons (cv 4) pa_nil)))) pa_nil))))))
  (pss_one (ps_ret (cv 2)))))
theorem ok__law_pays {g : Wd} (T : Top g) {fd : FuncData} (F : FunD g.K "_law_pays" "_law_pays" (defArgs (top 34)) (defBody (top 34)) (defScope (top 34)) [] [] (gad g.K "_law_pays") fd) {j : Nat} {sp : Sp} (h : ∀ vs H Q E, sp vs H Q E → vs.length = 2 ∧ rd__law_pays g j E { nx := fun _ H1 => Q .non H1, rt := Q } (L2.start ["_law_script", "_law_box_here", "_law_pays_here", "_law_k", "_law_top"] vs) H) : FnOk g.P g.w g.K g.mg g.base (L2.CX g.P g.w) (j + 2) (gad g.K "_law_pays") fd ["_law_script", "_law_box_here"] sp :=
  FunD.ok F sc__law_pays (fun vs H Q E hh => (h vs H Q E hh).1) fun cdv A outer s H vs Q E hr hh => ⟨rd__law_pays g j E, dv__law_pays T hr, (h vs H Q E hh).2⟩
theorem fk__law_pays {g : Wd} (T : Top g) (j : Nat) {sp : Sp} (h : ∀ vs H Q E, sp vs H Q E → vs.length = 2 ∧ rd__law_pays g j E { nx := fun _ H1 => Q .non H1, rt := Q } (L2.start ["_law_script", "_law_box_here", "_law_pays_here", "_law_k", "_law_top"] vs) H) : FnG g (j + 2) (gad g.K "_law_pays") sp := by
  obtain ⟨fd, F⟩ := fd__law_pays T
  exact fnG_of (ok__law_pays T F h) (FunD.bindsN F fun _ _ _ _ _ _ us hl => match us, hl with | [_, _], _ => rfl)
theorem sc__law_word : FnScope ["_law_script", "_law_box_here", "_law_wide", "_law_size", "_law_way", "_law_kind", "_law_text_here", "_law_k", "_law_digit"] ["_law_script", "_law_box_here", "_law_wide"] (defScope (top 35)) := ⟨rfl, rfl, rfl, by decide +kernel, rfl, by decide +kernel, by decide +kernel⟩
def rd__law_word (g : Wd) (j : Nat) (E : XK) : TS :=
  tSeq (tAsg (cCall g j (fun cls d _ H => E cls d H) (gad g.K "_law_take") (tCons (cV 0) (tCons (cV 1) (tCons (tOp (cAdd g.K noOw) (cV 2) (tC (.int 1))) (tNil))))) (gName 3))
  (tSeq (tAsg (cCall g j (fun cls d _ H => E cls d H) (gad g.K "_law_take") (tCons (cV 0) (tCons (cV 1) (tCons (tC (.int 5)) (tNil))))) (gName 4))
  (tSeq (tIfS (cTest (tOp (cEqN g.K false) (cV 4) (tC (.int 0)))) (tAsg (cV 2) (gName 3)) (tNext))
  (tSeq (tIfS (tOr (cTest (tOp (cEqN g.K false) (cV 4) (tC (.int 1)))) (cTest (tOp (cEqN g.K false) (cV 4) (tC (.int 2))))) (tAsg (tCB (cMax g.K) (tCons (tC (.int 0)) (tCons (tOp cSub (tOp cSub (cV 2) (tC (.int 1))) (tOp cDiv (cV 3) (tC (.int 4)))) (tNil)))) (gName 3)) (tNext))
  (tSeq (tIfS (cTest (tOp (cEqN g.K false) (cV 3) (tC (.int 0)))) (tRet (tC (.str ""))) (tNext))
  (tSeq (tAsg (cCall g j (fun cls d _ H => E cls d H) (gad g.K "_law_take") (tCons (cV 0) (tCons (cV 1) (tCons (tC (.int 3)) (tNil))))) (gName 5))
  (tSeq (tAsg (tC (.str "1")) (gName 6))
  (tSeq (tFor (iRng1 (tCons (tOp cSub (cV 3) (tC (.int 1))) (tNil))) (gName 7) (tSeq (tAsg (cCall g j (fun cls d _ H => E cls d H) (gad g.K "_law_take") (tCons (cV 0) (tCons (cV 1) (tCons (tOp (cIx g.K) (tLst (tCons (tC (.int 2)) (tCons (tC (.int 5)) (tCons (tC (.int 5)) (tNil))))) (cV 5)) (tNil))))) (gName 8))
  (tAsg (tOp (cAdd g.K noOw) (cV 6) (tOp (cIx g.K) (tC (.str "01")) (tCB (cInt) (tCons (cOrV (tOp (cEqN g.K false) (cV 8) (tC (.int 1))) (cAndV (tOp (cEqN g.K false) (cV 5) (tC (.int 2))) (tOp cGt (cV 8) (tC (.int 0))))) (tNil))))) (gName 6))))
  (tRet (cV 6)))))))))
theorem dv__law_word {g : Wd} (T : Top g) {j : Nat} {f : Addr} {cdv : Value} {A : Around} {outer : List Env} {s : Shared} {H : Hp} {E : XK} (hr : Room (j + 1) (A.deeper (envOfC "_law_word" (defScope (top 35)) s.heap.objs.size f cdv))) :
    PSs (cxOf (L2.CX g.P g.w) g.P g.w g.K g.mg g.base ["_law_script", "_law_box_here", "_law_wide", "_law_size", "_law_way", "_law_kind", "_law_text_here", "_law_k", "_law_digit"] "_law_word" (defScope (top 35)) f cdv A outer s H E) (defBody (top 35)) (rd__law_word g j E) := by
  unfold rd__law_word
  exact (pss_cons (ps_set (i := 3) sc__law_word.nd rfl (Or.inl rfl) (pe_cCall (takes_of rfl rfl rfl rfl) (hr.mono (Nat.le_succ _)) (gf__law_take T) (by rfl) (pa_cons (cv 0) (pa_cons (cv 1) (pa_cons (pe_op (op_cAdd noOw_ok) (cv 2) pe_int) pa_nil)))))
  (pss_cons (ps_set (i := 4) sc__law_word.nd rfl (Or.inl rfl) (pe_cCall (takes_of rfl rfl rfl rfl) (hr.mono (Nat.le_succ _)) (gf__law_take T) (by rfl) (pa_cons (cv 0) (pa_cons (cv 1) (pa_cons pe_int pa_nil)))))
  (pss_cons (ps_if (ptc (op_cEq hr.units) (cv 4) pe_int (nomark _)) (pss_one (ps_set (i := 3) sc__law_word.nd rfl (Or.inl rfl) (cv 2))) pss_nil)
  (pss_cons (ps_if (pw_or (ptc (op_cEq hr.units) (cv 4) pe_int (nomark _)) (pw_or1 (ptc (op_cEq hr.units) (cv 4) pe_int (nomark _)))).pt (pss_one (ps_set (i := 3) sc__law_word.nd rfl (Or.inl rfl) (pe_callB (call_cMax rfl) (by rfl) (bl_max T) bt_max (pa_cons pe_int (pa_cons (pe_op op_cSub (pe_op op_cSub (cv 2) pe_int) (pe_op op_cDiv (cv 3) pe_int)) pa_nil))))) pss_nil)
  (pss_cons (ps_if (ptc (op_cEq hr.units) (cv 3) pe_int (nomark _)) (pss_one (ps_ret pe_str)) pss_nil)
  (pss_cons (ps_set (i := 5) sc__law_word.nd rfl (Or.inl rfl) (pe_cCall (takes_of rfl rfl rfl rfl) (hr.mono (Nat.le_succ _)) (gf__law_take T) (by rfl) (pa_cons (cv 0) (pa_cons (cv 1) (pa_cons pe_int pa_nil)))))
  (pss_cons (ps_set (i := 6) sc__law_word.nd rfl (Or.inl rfl) pe_str)
  (pss_cons (ps_for (passes_of rfl) rfl (pi_range1 (by rfl) (bl_range T) (pa_cons (pe_op op_cSub (cv 3) pe_int) pa_nil)) (pg_name sc__law_word.nd rfl (Or.inl rfl)) (pss_cons (ps_set (i := 8) sc__law_word.nd rfl (Or.inl rfl) (pe_cCall (takes_of rfl rfl rfl rfl) (hr.mono (Nat.le_succ _)) (gf__law_take T) (by rfl) (pa_cons (cv 0) (pa_cons (cv 1) (pa_cons (pe_ix ix_c (pe_lst (pa_cons pe_int (pa_cons pe_int (pa_cons pe_int pa_nil)))) (cv 5) (fun _ _ => rfl)) pa_nil)))))
  (pss_one (ps_set (i := 6) sc__law_word.nd rfl (Or.inl rfl) (pe_op (op_cAdd noOw_ok) (cv 6) (pe_ix ix_c pe_str (pe_callTy (call_cInt) (by rfl) (bl_int T) bt_int (pa_cons (pe_cOr (pe_cmpR (op_cEq hr.units) (cv 8) pe_int (nomark _)) (pe_one (pe_cAnd (pe_cmpR (op_cEq hr.units) (cv 5) pe_int (nomark _)) (pe_one (pe_cmpR op_cGt (cv 8) pe_int (nomark _)))))) pa_nil)) (fun _ _ => rfl)))))))
  (pss_one (ps_ret (cv 6)))))))))))
theorem ok__law_word {g : Wd} (T : Top g) {fd : FuncData} (F : FunD g.K "_law_word" "_law_word" (defArgs (top 35)) (defBody (top 35)) (defScope (top 35)) [] [] (gad g.K "_law_word") fd) {j : Nat} {sp : Sp} (h : ∀ vs H Q E, sp vs H Q E → vs.length = 3 ∧ rd__law_word g j E { nx := fun _ H1 => Q .non H1, rt := Q } (L2.start ["_law_script", "_law_box_here", "_law_wide", "_law_size", "_law_way", "_law_kind", "_law_text_here", "_law_k", "_law_digit"] vs) H) : FnOk g.P g.w g.K g.mg g.base (L2.CX g.P g.w) (j + 2) (gad g.K "_law_word") fd ["_law_script", "_law_box_here", "_law_wide"] sp :=
  FunD.ok F sc__law_word (fun vs H Q E hh => (h vs H Q E hh).1) fun cdv A outer s H vs Q E hr hh => ⟨rd__law_word g j E, dv__law_word T hr, (h vs H Q E hh).2⟩
theorem fk__law_word {g : Wd} (T : Top g) (j : Nat) {sp : Sp} (h : ∀ vs H Q E, sp vs H Q E → vs.length = 3 ∧ rd__law_word g j E { nx := fun _ H1 => Q .non H1, rt := Q } (L2.start ["_law_script", "_law_box_here", "_law_wide", "_law_size", "_law_way", "_law_kind", "_law_text_here", "_law_k", "_law_digit"] vs) H) : FnG g (j + 2) (gad g.K "_law_word") sp := by
  obtain ⟨fd, F⟩ := fd__law_word T
  exact fnG_of (ok__law_word T F h) (FunD.bindsN F fun _ _ _ _ _ _ us hl => match us, hl with | [_, _, _], _ => rfl)
theorem sc__law_stand : FnScope ["_law_script", "_law_box_here", "_law_wide", "_law_beat"] ["_law_script", "_law_box_here"] (defScope (top 36)) := ⟨rfl, rfl, rfl, by decide +kernel, rfl, by decide +kernel, by decide +kernel⟩
def rd__law_stand (g : Wd) (j : Nat) (E : XK) : TS :=
  tSeq (tAsg (tOp (cAdd g.K noOw) (tC (.int 1)) (cCall g j (fun cls d _ H => E cls d H) (gad g.K "_law_take") (tCons (cV 0) (tCons (cV 1) (tCons (tOp (cIx g.K) (tLst (tCons (tC (.int 6)) (tCons (tC (.int 64)) (tCons (tC (.int 64)) (tNil))))) (cCall g j (fun cls d _ H => E cls d H) (gad g.K "_law_take") (tCons (cV 0) (tCons (cV 1) (tCons (tC (.int 3)) (tNil)))))) (tNil)))))) (gName 2))
  (tSeq (tAsg (cCall g j (fun cls d _ H => E cls d H) (gad g.K "_law_take") (tCons (cV 0) (tCons (cV 1) (tCons (tOp (cIx g.K) (tLst (tCons (tC (.int 12)) (tCons (tC (.int 12)) (tCons (tOp cPow (tC (.int 10)) (tC (.int 6))) (tNil))))) (cCall g j (fun cls d _ H => E cls d H) (gad g.K "_law_take") (tCons (cV 0) (tCons (cV 1) (tCons (tC (.int 3)) (tNil)))))) (tNil))))) (gName 3))
  (tRet (tLst (tCons (cCall g j (fun cls d _ H => E cls d H) (gad g.K "_law_word") (tCons (cV 0) (tCons (cV 1) (tCons (cV 2) (tNil))))) (tCons (cV 2) (tCons (cV 3) (tNil)))))))
theorem dv__law_stand {g : Wd} (T : Top g) {j : Nat} {f : Addr} {cdv : Value} {A : Around} {outer : List Env} {s : Shared} {H : Hp} {E : XK} (hr : Room (j + 1) (A.deeper (envOfC "_law_stand" (defScope (top 36)) s.heap.objs.size f cdv))) :
    PSs (cxOf (L2.CX g.P g.w) g.P g.w g.K g.mg g.base ["_law_script", "_law_box_here", "_law_wide", "_law_beat"] "_law_stand" (defScope (top 36)) f cdv A outer s H E) (defBody (top 36)) (rd__law_stand g j E) := by
  unfold rd__law_stand
  exact (pss_cons (ps_set (i := 2) sc__law_stand.nd rfl (Or.inl rfl) (pe_op (op_cAdd noOw_ok) pe_int (pe_cCall (takes_of rfl rfl rfl rfl) (hr.mono (Nat.le_succ _)) (gf__law_take T) (by rfl) (pa_cons (cv 0) (pa_cons (cv 1) (pa_cons (pe_ix ix_c (pe_lst (pa_cons pe_int (pa_cons pe_int (pa_cons pe_int pa_nil)))) (pe_cCall (takes_of rfl rfl rfl rfl) (hr.mono (Nat.le_succ _)) (gf__law_take T) (by rfl) (pa_cons (cv 0) (pa_cons (cv 1) (pa_cons pe_int pa_nil)))) (fun _ _ => rfl)) pa_nil))))))
  (pss_cons (ps_set (i := 3) sc__law_stand.nd rfl (Or.inl rfl) (pe_cCall (takes_of rfl rfl rfl rfl) (hr.mono (Nat.le_succ _)) (gf__law_take T) (by rfl) (pa_cons (cv 0) (pa_cons (cv 1) (pa_cons (pe_ix ix_c (pe_lst (pa_cons pe_int (pa_cons pe_int (pa_cons (pe_op op_cPow pe_int pe_int) pa_nil)))) (pe_cCall (takes_of rfl rfl rfl rfl) (hr.mono (Nat.le_succ _)) (gf__law_take T) (by rfl) (pa_cons (cv 0) (pa_cons (cv 1) (pa_cons pe_int pa_nil)))) (fun _ _ => rfl)) pa_nil)))))
  (pss_one (ps_ret (pe_lst (pa_cons (pe_cCall (takes_of rfl rfl rfl rfl) (hr.mono (Nat.le_succ _)) (gf__law_word T) (by rfl) (pa_cons (cv 0) (pa_cons (cv 1) (pa_cons (cv 2) pa_nil)))) (pa_cons (cv 2) (pa_cons (cv 3) pa_nil))))))))
theorem ok__law_stand {g : Wd} (T : Top g) {fd : FuncData} (F : FunD g.K "_law_stand" "_law_stand" (defArgs (top 36)) (defBody (top 36)) (defScope (top 36)) [] [] (gad g.K "_law_stand") fd) {j : Nat} {sp : Sp} (h : ∀ vs H Q E, sp vs H Q E → vs.length = 2 ∧ rd__law_stand g j E { nx := fun _ H1 => Q .non H1, rt := Q } (L2.start ["_law_script", "_law_box_here", "_law_wide", "_law_beat"] vs) H) : FnOk g.P g.w g.K g.mg g.base (L2.CX g.P g.w) (j + 2) (gad g.K "_law_stand") fd ["_law_script", "_law_box_here"] sp :=
  FunD.ok F sc__law_stand (fun vs H Q E hh => (h vs H Q E hh).1) fun cdv A outer s H vs Q E hr hh => ⟨rd__law_stand g j E, dv__law_stand T hr, (h vs H Q E hh).2⟩
theorem fk__law_stand {g : Wd} (T : Top g) (j : Nat) {sp : Sp} (h : ∀ vs H Q E, sp vs H Q E → vs.length = 2 ∧ rd__law_stand g j E { nx := fun _ H1 => Q .non H1, rt := Q } (L2.start ["_law_script", "_law_box_here", "_law_wide", "_law_beat"] vs) H) : FnG g (j + 2) (gad g.K "_law_stand") sp := by
  obtain ⟨fd, F⟩ := fd__law_stand T
  exact fnG_of (ok__law_stand T F h) (FunD.bindsN F fun _ _ _ _ _ _ us hl => match us, hl with | [_, _], _ => rfl)
theorem sc__law_value : FnScope ["_law_name", "_law_stand_here", "_law_pays_here", "_law_word_here"] ["_law_name", "_law_stand_here", "_law_pays_here"] (defScope (top 37)) := ⟨rfl, rfl, rfl, by decide +kernel, rfl, by decide +kernel, by decide +kernel⟩
def rd__law_value (g : Wd) (j : Nat) (E : XK) : TS :=
  tSeq (tAsg (tOp (cIx g.K) (cV 1) (tC (.int 0))) (gName 3))
  (tSeq (tIfS (cTest (tOp (cEqN g.K false) (cV 0) (tC (.str "free")))) (tRet (tOp cSub (tOp (cIx g.K) (cV 1) (tC (.int 1))) (tCB (cLen g j) (tCons (cV 3) (tNil))))) (tNext))
  (tSeq (tIfS (cTest (tOp (cEqN g.K false) (cV 0) (tC (.str "living")))) (tRet (cStrM mCount (cV 3) (tCons (tC (.str "1")) (tNil)))) (tNext))
  (tSeq (tIfS (cTest (tOp (cEqN g.K false) (cV 0) (tC (.str "dead")))) (tRet (cStrM mCount (cV 3) (tCons (tC (.str "0")) (tNil)))) (tNext))
  (tSeq (tIfS (cTest (tOp (cEqN g.K false) (cV 0) (tC (.str "gap")))) (tRet (tOp cSub (tCB (cLen g j) (tCons (tSl (cSl g.K) (cV 3) (cPart (tC (.int 1))) (tNoPart)) (tNil))) (tCB (cLen g j) (tCons (cStrM mLstrip (tSl (cSl g.K) (cV 3) (cPart (tC (.int 1))) (tNoPart)) (tCons (tC (.str "0")) (tNil))) (tNil))))) (tNext))
  (tRet (tOp (cIx g.K) (cV 2) (tOp cMod (tCB (cInt) (tCons (tOp (cIx g.K) (cV 1) (tC (.int 2))) (tNil))) (tCB (cLen g j) (tCons (cV 2) (tNil))))))))))
theorem dv__law_value {g : Wd} (T : Top g) {j : Nat} {f : Addr} {cdv : Value} {A : Around} {outer : List Env} {s : Shared} {H : Hp} {E : XK} (hr : Room (j + 1) (A.deeper (envOfC "_law_value" (defScope (top 37)) s.heap.objs.size f cdv))) :
    PSs (cxOf (L2.CX g.P g.w) g.P g.w g.K g.mg g.base ["_law_name", "_law_stand_here", "_law_pays_here", "_law_word_here"] "_law_value" (defScope (top 37)) f cdv A outer s H E) (defBody (top 37)) (rd__law_value g j E) := by
  unfold rd__law_value
  exact (pss_cons (ps_set (i := 3) sc__law_value.nd rfl (Or.inl rfl) (pe_ix ix_c (cv 1) pe_int (fun _ _ => rfl)))
  (pss_cons (ps_if (ptc (op_cEq hr.units) (cv 0) pe_str (nomark _)) (pss_one (ps_ret (pe_op op_cSub (pe_ix ix_c (cv 1) pe_int (fun _ _ => rfl)) (pe_callB (call_cLen hr) (by rfl) (bl_len T) bt_len (pa_cons (cv 3) pa_nil))))) pss_nil)
  (pss_cons (ps_if (ptc (op_cEq hr.units) (cv 0) pe_str (nomark _)) (pss_one (ps_ret (pe_sm PySem.F.slot_str_count PySem.F.type_str_count m_count (cv 3) (pa_cons pe_str pa_nil)))) pss_nil)
  (pss_cons (ps_if (ptc (op_cEq hr.units) (cv 0) pe_str (nomark _)) (pss_one (ps_ret (pe_sm PySem.F.slot_str_count PySem.F.type_str_count m_count (cv 3) (pa_cons pe_str pa_nil)))) pss_nil)
  (pss_cons (ps_if (ptc (op_cEq hr.units) (cv 0) pe_str (nomark _)) (pss_one (ps_ret (pe_op op_cSub (pe_callB (call_cLen hr) (by rfl) (bl_len T) bt_len (pa_cons (pe_slice sl_c (cv 3) (po_c pe_int) po_none) pa_nil)) (pe_callB (call_cLen hr) (by rfl) (bl_len T) bt_len (pa_cons (pe_sm PySem.F.slot_str_lstrip PySem.F.type_str_lstrip m_lstrip (pe_slice sl_c (cv 3) (po_c pe_int) po_none) (pa_cons pe_str pa_nil)) pa_nil))))) pss_nil)
  (pss_one (ps_ret (pe_ix ix_c (cv 2) (pe_op op_cMod (pe_callTy (call_cInt) (by rfl) (bl_int T) bt_int (pa_cons (pe_ix ix_c (cv 1) pe_int (fun _ _ => rfl)) pa_nil)) (pe_callB (call_cLen hr) (by rfl) (bl_len T) bt_len (pa_cons (cv 2) pa_nil))) (fun _ _ => rfl)))))))))
theorem ok__law_value {g : Wd} (T : Top g) {fd : FuncData} (F : FunD g.K "_law_value" "_law_value" (defArgs (top 37)) (defBody (top 37)) (defScope (top 37)) [] [] (gad g.K "_law_value") fd) {j : Nat} {sp : Sp} (h : ∀ vs H Q E, sp vs H Q E → vs.length = 3 ∧ rd__law_value g j E { nx := fun _ H1 => Q .non H1, rt := Q } (L2.start ["_law_name", "_law_stand_here", "_law_pays_here", "_law_word_here"] vs) H) : FnOk g.P g.w g.K g.mg g.base (L2.CX g.P g.w) (j + 2) (gad g.K "_law_value") fd ["_law_name", "_law_stand_here", "_law_pays_here"] sp :=
  FunD.ok F sc__law_value (fun vs H Q E hh => (h vs H Q E hh).1) fun cdv A outer s H vs Q E hr hh => ⟨rd__law_value g j E, dv__law_value T hr, (h vs H Q E hh).2⟩
theorem fk__law_value {g : Wd} (T : Top g) (j : Nat) {sp : Sp} (h : ∀ vs H Q E, sp vs H Q E → vs.length = 3 ∧ rd__law_value g j E { nx := fun _ H1 => Q .non H1, rt := Q } (L2.start ["_law_name", "_law_stand_here", "_law_pays_here", "_law_word_here"] vs) H) : FnG g (j + 2) (gad g.K "_law_value") sp := by
  obtain ⟨fd, F⟩ := fd__law_value T
  exact fnG_of (ok__law_value T F h) (FunD.bindsN F fun _ _ _ _ _ _ us hl => match us, hl with | [_, _, _], _ => rfl)
theorem sc__law_digits : FnScope ["_law_script", "_law_box_here", "_law_number_here"] ["_law_script", "_law_box_here", "_law_number_here"] (defScope (top 38)) := ⟨rfl, rfl, rfl, by decide +kernel, rfl, by decide +kernel, by decide +kernel⟩
def rd__law_digits (g : Wd) (j : Nat) (E : XK) : TS :=
  tRet (cStrM mZfill (tCB (cStr) (tCons (cV 2) (tNil))) (tCons (cCall g j (fun cls d _ H => E cls d H) (gad g.K "_law_take") (tCons (cV 0) (tCons (cV 1) (tCons (tC (.int 4)) (tNil))))) (tNil)))
theorem dv__law_digits {g : Wd} (T : Top g) {j : Nat} {f : Addr} {cdv : Value} {A : Around} {outer : List Env} {s : Shared} {H : Hp} {E : XK} (hr : Room (j + 1) (A.deeper (envOfC "_law_digits" (defScope (top 38)) s.heap.objs.size f cdv))) :
    PSs (cxOf (L2.CX g.P g.w) g.P g.w g.K g.mg g.base ["_law_script", "_law_box_here", "_law_number_here"] "_law_digits" (defScope (top 38)) f cdv A outer s H E) (defBody (top 38)) (rd__law_digits g j E) := by
  unfold rd__law_digits
  exact (pss_one (ps_ret (pe_sm PySem.F.slot_str_zfill PySem.F.type_str_zfill m_zfill (pe_callTy (call_cStr) (by rfl) (bl_str T) bt_str (pa_cons (cv 2) pa_nil)) (pa_cons (pe_cCall (takes_of rfl rfl rfl rfl) (hr.mono (Nat.le_succ _)) (gf__law_take T) (by rfl) (pa_cons (cv 0) (pa_cons (cv 1) (pa_cons pe_int pa_nil)))) pa_nil))))
theorem ok__law_digits {g : Wd} (T : Top g) {fd : FuncData} (F : FunD g.K "_law_digits" "_law_digits" (defArgs (top 38)) (defBody (top 38)) (defScope (top 38)) [] [] (gad g.K "_law_digits") fd) {j : Nat} {sp : Sp} (h : ∀ vs H Q E, sp vs H Q E → vs.length = 3 ∧ rd__law_digits g j E { nx := fun _ H1 => Q .non H1, rt := Q } (L2.start ["_law_script", "_law_box_here", "_law_number_here"] vs) H) : FnOk g.P g.w g.K g.mg g.base (L2.CX g.P g.w) (j + 2) (gad g.K "_law_digits") fd ["_law_script", "_law_box_here", "_law_number_here"] sp :=
  FunD.ok F sc__law_digits (fun vs H Q E hh => (h vs H Q E hh).1) fun cdv A outer s H vs Q E hr hh => ⟨rd__law_digits g j E, dv__law_digits T hr, (h vs H Q E hh).2⟩
theorem fk__law_digits {g : Wd} (T : Top g) (j : Nat) {sp : Sp} (h : ∀ vs H Q E, sp vs H Q E → vs.length = 3 ∧ rd__law_digits g j E { nx := fun _ H1 => Q .non H1, rt := Q } (L2.start ["_law_script", "_law_box_here", "_law_number_here"] vs) H) : FnG g (j + 2) (gad g.K "_law_digits") sp := by
  obtain ⟨fd, F⟩ := fd__law_digits T
  exact fnG_of (ok__law_digits T F h) (FunD.bindsN F fun _ _ _ _ _ _ us hl => match us, hl with | [_, _, _], _ => rfl)
theorem sc__law_amount_text : FnScope ["_law_script", "_law_box_here", "_law_way", "_law_number_here"] ["_law_script", "_law_box_here"] (defScope (top 39)) := ⟨rfl, rfl, rfl, by decide +kernel, rfl, by decide +kernel, by decide +kernel⟩
def rd__law_amount_text (g : Wd) (j : Nat) (E : XK) : TS :=
  tSeq (tAsg (cCall g j (fun cls d _ H => E cls d H) (gad g.K "_law_take") (tCons (cV 0) (tCons (cV 1) (tCons (tC (.int 4)) (tNil))))) (gName 2))
  (tSeq (tAsg (cCall g j (fun cls d _ H => E cls d H) (gad g.K "_law_take") (tCons (cV 0) (tCons (cV 1) (tCons (tOp (cIx g.K) (tLst (tCons (tC (.int 5)) (tCons (tC (.int 5)) (tCons (tC (.int 30)) (tCons (tC (.int 1000)) (tNil)))))) (cV 2)) (tNil))))) (gName 3))
  (tSeq (tIfS (cTest (tOp (cEqN g.K false) (cV 2) (tC (.int 1)))) (tRet (tC (.str "all"))) (tNext))
  (tRet (cCall g j (fun cls d _ H => E cls d H) (gad g.K "_law_digits") (tCons (cV 0) (tCons (cV 1) (tCons (cV 3) (tNil))))))))
theorem dv__law_amount_text {g : Wd} (T : Top g) {j : Nat} {f : Addr} {cdv : Value} {A : Around} {outer : List Env} {s : Shared} {H : Hp} {E : XK} (hr : Room (j + 1) (A.deeper (envOfC "_law_amount_text" (defScope (top 39)) s.heap.objs.size f cdv))) :
    PSs (cxOf (L2.CX g.P g.w) g.P g.w g.K g.mg g.base ["_law_script", "_law_box_here", "_law_way", "_law_number_here"] "_law_amount_text" (defScope (top 39)) f cdv A outer s H E) (defBody (top 39)) (rd__law_amount_text g j E) := by
  unfold rd__law_amount_text
  exact (pss_cons (ps_set (i := 2) sc__law_amount_text.nd rfl (Or.inl rfl) (pe_cCall (takes_of rfl rfl rfl rfl) (hr.mono (Nat.le_succ _)) (gf__law_take T) (by rfl) (pa_cons (cv 0) (pa_cons (cv 1) (pa_cons pe_int pa_nil)))))
  (pss_cons (ps_set (i := 3) sc__law_amount_text.nd rfl (Or.inl rfl) (pe_cCall (takes_of rfl rfl rfl rfl) (hr.mono (Nat.le_succ _)) (gf__law_take T) (by rfl) (pa_cons (cv 0) (pa_cons (cv 1) (pa_cons (pe_ix ix_c (pe_lst (pa_cons pe_int (pa_cons pe_int (pa_cons pe_int (pa_cons pe_int pa_nil))))) (cv 2) (fun _ _ => rfl)) pa_nil)))))
  (pss_cons (ps_if (ptc (op_cEq hr.units) (cv 2) pe_int (nomark _)) (pss_one (ps_ret pe_str)) pss_nil)
  (pss_one (ps_ret (pe_cCall (takes_of rfl rfl rfl rfl) (hr.mono (Nat.le_succ _)) (gf__law_digits T) (by rfl) (pa_cons (cv 0) (pa_cons (cv 1) (pa_cons (cv 3) pa_nil)))))))))
theorem ok__law_amount_text {g : Wd} (T : Top g) {fd : FuncData} (F : FunD g.K "_law_amount_text" "_law_amount_text" (defArgs (top 39)) (defBody (top 39)) (defScope (top 39)) [] [] (gad g.K "_law_amount_text") fd) {j : Nat} {sp : Sp} (h : ∀ vs H Q E, sp vs H Q E → vs.length = 2 ∧ rd__law_amount_text g j E { nx := fun _ H1 => Q .non H1, rt := Q } (L2.start ["_law_script", "_law_box_here", "_law_way", "_law_number_here"] vs) H) : FnOk g.P g.w g.K g.mg g.base (L2.CX g.P g.w) (j + 2) (gad g.K "_law_amount_text") fd ["_law_script", "_law_box_here"] sp :=
  FunD.ok F sc__law_amount_text (fun vs H Q E hh => (h vs H Q E hh).1) fun cdv A outer s H vs Q E hr hh => ⟨rd__law_amount_text g j E, dv__law_amount_text T hr, (h vs H Q E hh).2⟩
theorem fk__law_amount_text {g : Wd} (T : Top g) (j : Nat) {sp : Sp} (h : ∀ vs H Q E, sp vs H Q E → vs.length = 2 ∧ rd__law_amount_text g j E { nx := fun _ H1 => Q .non H1, rt := Q } (L2.start ["_law_script", "_law_box_here", "_law_way", "_law_number_here"] vs) H) : FnG g (j + 2) (gad g.K "_law_amount_text") sp := by
  obtain ⟨fd, F⟩ := fd__law_amount_text T
  exact fnG_of (ok__law_amount_text T F h) (FunD.bindsN F fun _ _ _ _ _ _ us hl => match us, hl with | [_, _], _ => rfl)
theorem sc__law_line : FnScope ["_law_script", "_law_box_here", "_law_stands", "_law_pays_here", "_law_end", "_law_name", "_law_sign_here", "_law_stand_here", "_law_number_here"] ["_law_script", "_law_box_here", "_law_stands", "_law_pays_here"] (defScope (top 40)) := ⟨rfl, rfl, rfl, by decide +kernel, rfl, by decide +kernel, by decide +kernel⟩
def rd__law_line (g : Wd) (j : Nat) (E : XK) : TS :=
  tSeq (tAsg (tLst (tCons (tC (.str "carry")) (tCons (cCall g j (fun cls d _ H => E cls d H) (gad g.K "_law_amount_text") (tCons (cV 0) (tCons (cV 1) (tNil)))) (tNil)))) (gName 4))
  (tSeq (tIfS (cTest (tOp (cEqN g.K false) (cCall g j (fun cls d _ H => E cls d H) (gad g.K "_law_take") (tCons (cV 0) (tCons (cV 1) (tCons (tC (.int 6)) (tNil))))) (tC (.int 0)))) (tRet (cStrM (mJoin g.K) (tC (.str " ")) (tCons (tOp (cAdd g.K noOw) (tLst (tCons (tC (.str "else")) (tNil))) (cV 4)) (tNil)))) (tNext))
  (tSeq (tAsg (tOp (cIx g.K) (tLst (tCons (tC (.str "free")) (tCons (tC (.str "living")) (tCons (tC (.str "dead")) (tCons (tC (.str "gap")) (tCons (tC (.str "budget")) (tNil))))))) (cCall g j (fun cls d _ H => E cls d H) (gad g.K "_law_take") (tCons (cV 0) (tCons (cV 1) (tCons (tC (.int 5)) (tNil)))))) (gName 5))
  (tSeq (tAsg (tOp (cIx g.K) (tLst (tCons (tC (.str "<=")) (tCons (tC (.str ">=")) (tCons (tC (.str "==")) (tNil))))) (cCall g j (fun cls d _ H => E cls d H) (gad g.K "_law_take") (tCons (cV 0) (tCons (cV 1) (tCons (tC (.int 3)) (tNil)))))) (gName 6))
  (tSeq (tAsg (tOp (cIx g.K) (cV 2) (cCall g j (fun cls d _ H => E cls d H) (gad g.K "_law_take") (tCons (cV 0) (tCons (cV 1) (tCons (tC (.int 3)) (tNil)))))) (gName 7))
  (tSeq (tAsg (tOp cSub (tOp (cAdd g.K noOw) (cCall g j (fun cls d _ H => E cls d H) (gad g.K "_law_value") (tCons (cV 5) (tCons (cV 7) (tCons (cV 3) (tNil))))) (cCall g j (fun cls d _ H => E cls d H) (gad g.K "_law_take") (tCons (cV 0) (tCons (cV 1) (tCons (tC (.int 3)) (tNil)))))) (tC (.int 1))) (gName 8))
  (tSeq (tIfS (cTest (tOp (cEqN g.K false) (cCall g j (fun cls d _ H => E cls d H) (gad g.K "_law_take") (tCons (cV 0) (tCons (cV 1) (tCons (tC (.int 4)) (tNil))))) (tC (.int 0)))) (tAsg (cCall g j (fun cls d _ H => E cls d H) (gad g.K "_law_take") (tCons (cV 0) (tCons (cV 1) (tCons (tC (.int 1000)) (tNil))))) (gName 8)) (tNext))
  (tSeq (tAsg (tCB (cMax g.K) (tCons (tC (.int 0)) (tCons (tCB (cMin g.K) (tCons (tC (.int 999)) (tCons (cV 8) (tNil)))) (tNil)))) (gName 8))
  (tRet (cStrM (mJoin g.K) (tC (.str " ")) (tCons (tOp (cAdd g.K noOw) (tLst (tCons (tC (.str "when")) (tCons (cV 5) (tCons (cV 6) (tCons (cCall g j (fun cls d _ H => E cls d H) (gad g.K "_law_digits") (tCons (cV 0) (tCons (cV 1) (tCons (cV 8) (tNil))))) (tNil)))))) (cV 4)) (tNil)))))))))))
theorem dv__law_line {g : Wd} (T : Top g) {j : Nat} {f : Addr} {cdv : Value} {A : Around} {outer : List Env} {s : Shared} {H : Hp} {E : XK} (hr : Room (j + 1) (A.deeper (envOfC "_law_line" (defScope (top 40)) s.heap.objs.size f cdv))) :
    PSs (cxOf (L2.CX g.P g.w) g.P g.w g.K g.mg g.base ["_law_script", "_law_box_here", "_law_stands", "_law_pays_here", "_law_end", "_law_name", "_law_sign_here", "_law_stand_here", "_law_number_here"] "_law_line" (defScope (top 40)) f cdv A outer s H E) (defBody (top 40)) (rd__law_line g j E) := by
  unfold rd__law_line
  exact (pss_cons (ps_set (i := 4) sc__law_line.nd rfl (Or.inl rfl) (pe_lst (pa_cons pe_str (pa_cons (pe_cCall (takes_of rfl rfl rfl rfl) (hr.mono (Nat.le_succ _)) (gf__law_amount_text T) (by rfl) (pa_cons (cv 0) (pa_cons (cv 1) pa_nil))) pa_nil))))
  (pss_cons (ps_if (ptc (op_cEq hr.units) (pe_cCall (takes_of rfl rfl rfl rfl) (hr.mono (Nat.le_succ _)) (gf__law_take T) (by rfl) (pa_cons (cv 0) (pa_cons (cv 1) (pa_cons pe_int pa_nil)))) pe_int (nomark _)) (pss_one (ps_ret (pe_sm PySem.F.slot_str_join PySem.F.type_str_join m_join pe_str (pa_cons (pe_op (op_cAdd noOw_ok) (pe_lst (pa_cons pe_str pa_nil)) (cv 4)) pa_nil)))) pss_nil)
  (pss_cons (ps_set (i := 5) sc__law_line.nd rfl (Or.inl rfl) (pe_ix ix_c (pe_lst (pa_cons pe_str (pa_cons pe_str (pa_cons pe_str (pa_cons pe_str (pa_cons pe_str pa_nil)))))) (pe_cCall (takes_of rfl rfl rfl rfl) (hr.mono (Nat.le_succ _)) (gf__law_take T) (by rfl) (pa_cons (cv 0) (pa_cons (cv 1) (pa_cons pe_int pa_nil)))) (fun _ _ => rfl)))
  (pss_cons (ps_set (i := 6) sc__law_line.nd rfl (Or.inl rfl) (pe_ix ix_c (pe_lst (pa_cons pe_str (pa_cons pe_str (pa_cons pe_str pa_nil)))) (pe_cCall (takes_of rfl rfl rfl rfl) (hr.mono (Nat.le_succ _)) (gf__law_take T) (by rfl) (pa_cons (cv 0) (pa_cons (cv 1) (pa_cons pe_int pa_nil)))) (fun _ _ => rfl)))
  (pss_cons (ps_set (i := 7) sc__law_line.nd rfl (Or.inl rfl) (pe_ix ix_c (cv 2) (pe_cCall (takes_of rfl rfl rfl rfl) (hr.mono (Nat.le_succ _)) (gf__law_take T) (by rfl) (pa_cons (cv 0) (pa_cons (cv 1) (pa_cons pe_int pa_nil)))) (fun _ _ => rfl)))
  (pss_cons (ps_set (i := 8) sc__law_line.nd rfl (Or.inl rfl) (pe_op op_cSub (pe_op (op_cAdd noOw_ok) (pe_cCall (takes_of rfl rfl rfl rfl) (hr.mono (Nat.le_succ _)) (gf__law_value T) (by rfl) (pa_cons (cv 5) (pa_cons (cv 7) (pa_cons (cv 3) pa_nil)))) (pe_cCall (takes_of rfl rfl rfl rfl) (hr.mono (Nat.le_succ _)) (gf__law_take T) (by rfl) (pa_cons (cv 0) (pa_cons (cv 1) (pa_cons pe_int pa_nil))))) pe_int))
  (pss_cons (ps_if (ptc (op_cEq hr.units) (pe_cCall (takes_of rfl rfl rfl rfl) (hr.mono (Nat.le_succ _)) (gf__law_take T) (by rfl) (pa_cons (cv 0) (pa_cons (cv 1) (pa_cons pe_int pa_nil)))) pe_int (nomark _)) (pss_one (ps_set (i := 8) sc__law_line.nd rfl (Or.inl rfl) (pe_cCall (takes_of rfl rfl rfl rfl) (hr.mono (Nat.le_succ _)) (gf__law_take T) (by rfl) (pa_cons (cv 0) (pa_cons (cv 1) (pa_cons pe_int pa_nil)))))) pss_nil)
  (pss_cons (ps_set (i := 8) sc__law_line.nd rfl (Or.inl rfl) (pe_callB (call_cMax rfl) (by rfl) (bl_max T) bt_max (pa_cons pe_int (pa_cons (pe_callB (call_cMin rfl) (by rfl) (bl_min T) bt_min (pa_cons pe_int (pa_cons (cv 8) pa_nil))) pa_nil))))
  (pss_one (ps_ret (pe_sm PySem.F.slot_str_join PySem.F.type_str_join m_join pe_str (pa_cons (pe_op (op_cAdd noOw_ok) (pe_lst (pa_cons pe_str (pa_cons (cv 5) (pa_cons (cv 6) (pa_cons (pe_cCall (takes_of rfl rfl rfl rfl) (hr.mono (Nat.le_succ _)) (gf__law_digits T) (by rfl) (pa_cons (cv 0) (pa_cons (cv 1) (pa_cons (cv 8) pa_nil)))) pa_nil))))) (cv 4)) pa_nil))))))))))))
theorem ok__law_line {g : Wd} (T : Top g) {fd : FuncData} (F : FunD g.K "_law_line" "_law_line" (defArgs (top 40)) (defBody (top 40)) (defScope (top 40)) [] [] (gad g.K "_law_line") fd) {j : Nat} {sp : Sp} (h : ∀ vs H Q E, sp vs H Q E → vs.length = 4 ∧ rd__law_line g j E { nx := fun _ H1 => Q .non H1, rt := Q } (L2.start ["_law_script", "_law_box_here", "_law_stands", "_law_pays_here", "_law_end", "_law_name", "_law_sign_here", "_law_stand_here", "_law_number_here"] vs) H) : FnOk g.P g.w g.K g.mg g.base (L2.CX g.P g.w) (j + 2) (gad g.K "_law_line") fd ["_law_script", "_law_box_here", "_law_stands", "_law_pays_here"] sp :=
  FunD.ok F sc__law_line (fun vs H Q E hh => (h vs H Q E hh).1) fun cdv A outer s H vs Q E hr hh => ⟨rd__law_line g j E, dv__law_line T hr, (h vs H Q E hh).2⟩
theorem fk__law_line {g : Wd} (T : Top g) (j : Nat) {sp : Sp} (h : ∀ vs H Q E, sp vs H Q E → vs.length = 4 ∧ rd__law_line g j E { nx := fun _ H1 => Q .non H1, rt := Q } (L2.start ["_law_script", "_law_box_here", "_law_stands", "_law_pays_here", "_law_end", "_law_name", "_law_sign_here", "_law_stand_here", "_law_number_here"] vs) H) : FnG g (j + 2) (gad g.K "_law_line") sp := by
  obtain ⟨fd, F⟩ := fd__law_line T
  exact fnG_of (ok__law_line T F h) (FunD.bindsN F fun _ _ _ _ _ _ us hl => match us, hl with | [_, _, _, _], _ => rfl)
theorem sc__law_odd_word : FnScope ["_law_script", "_law_box_here", "_law_words"] ["_law_script", "_law_box_here"] (defScope (top 41)) := ⟨rfl, rfl, rfl, by decide +kernel, rfl, by decide +kernel, by decide +kernel⟩
def rd__law_odd_word (g : Wd) (j : Nat) (E : XK) : TS :=
  tSeq (tAsg (tLst (tCons (tC (.str "")) (tCons (tC (.str "when")) (tCons (tC (.str "else")) (tCons (tC (.str "carry")) (tCons (tC (.str "all")) (tCons (tC (.str "free")) (tCons (tC (.str "living")) (tCons (tC (.str "dead")) (tCons (tC (.str "gap")) (tCons (tC (.str "budget")) (tCons (tC (.str "<=")) (tCons (tC (.str ">=")) (tCons (tC (.str "==")) (tNil))))))))))))))) (gName 2))
  (tSeq (tAsg (tOp (cAdd g.K noOw) (cV 2) (tLst (tCons (tC (.str "<")) (tCons (tC (.str ">")) (tCons (tC (.str "=")) (tCons (tC (.str "!=")) (tCons (tC (.str "=<")) (tCons (tC (.str "0000")) (tCons (tC (.str "1000")) (tCons (tC (.str "-1")) (tCons (tC (.str "+1")) (tCons (tC (.str "007")) (tCons (tC (.str "1.0")) (tCons (tC (.str "x")) (tCons (tC (.str "age")) (tCons (tC (.str "none")) (tNil))))))))))))))))) (gName 2))
  (tRet (tOp (cIx g.K) (cV 2) (cCall g j (fun cls d _ H => E cls d H) (gad g.K "_law_take") (tCons (cV 0) (tCons (cV 1) (tCons (tCB (cLen g j) (tCons (cV 2) (tNil))) (tNil))))))))
theorem dv__law_odd_word {g : Wd} (T : Top g) {j : Nat} {f : Addr} {cdv : Value} {A : Around} {outer : List Env} {s : Shared} {H : Hp} {E : XK} (hr : Room (j + 1) (A.deeper (envOfC "_law_odd_word" (defScope (top 41)) s.heap.objs.size f cdv))) :
    PSs (cxOf (L2.CX g.P g.w) g.P g.w g.K g.mg g.base ["_law_script", "_law_box_here", "_law_words"] "_law_odd_word" (defScope (top 41)) f cdv A outer s H E) (defBody (top 41)) (rd__law_odd_word g j E) := by
  unfold rd__law_odd_word
  exact (pss_cons (ps_set (i := 2) sc__law_odd_word.nd rfl (Or.inl rfl) (pe_lst (pa_cons pe_str (pa_cons pe_str (pa_cons pe_str (pa_cons pe_str (pa_cons pe_str (pa_cons pe_str (pa_cons pe_str (pa_cons pe_str (pa_cons pe_str (pa_cons pe_str (pa_cons pe_str (pa_cons pe_str (pa_cons pe_str pa_nil)))))))))))))))
  (pss_cons (ps_set (i := 2) sc__law_odd_word.nd rfl (Or.inl rfl) (pe_op (op_cAdd noOw_ok) (cv 2) (pe_lst (pa_cons pe_str (pa_cons pe_str (pa_cons pe_str (pa_cons pe_str (pa_cons pe_str (pa_cons pe_str (pa_cons pe_str (pa_cons pe_str (pa_cons pe_str (pa_cons pe_str (pa_cons pe_str (pa_cons pe_str (pa_cons pe_str (pa_cons pe_str pa_nil)))))))))))))))))
  (pss_one (ps_ret (pe_ix ix_c (cv 2) (pe_cCall (takes_of rfl rfl rfl rfl) (hr.mono (Nat.le_succ _)) (gf__law_take T) (by rfl) (pa_cons (cv 0) (pa_cons (cv 1) (pa_cons (pe_callB (call_cLen hr) (by rfl) (bl_len T) bt_len (pa_cons (cv 2) pa_nil)) pa_nil)))) (fun _ _ => rfl))))))
theorem ok__law_odd_word {g : Wd} (T : Top g) {fd : FuncData} (F : FunD g.K "_law_odd_word" "_law_odd_word" (defArgs (top 41)) (defBody (top 41)) (defScope (top 41)) [] [] (gad g.K "_law_odd_word") fd) {j : Nat} {sp : Sp} (h : ∀ vs H Q E, sp vs H Q E → vs.length = 2 ∧ rd__law_odd_word g j E { nx := fun _ H1 => Q .non H1, rt := Q } (L2.start ["_law_script", "_law_box_here", "_law_words"] vs) H) : FnOk g.P g.w g.K g.mg g.base (L2.CX g.P g.w) (j + 2) (gad g.K "_law_odd_word") fd ["_law_script", "_law_box_here"] sp :=
  FunD.ok F sc__law_odd_word (fun vs H Q E hh => (h vs H Q E hh).1) fun cdv A outer s H vs Q E hr hh => ⟨rd__law_odd_word g j E, dv__law_odd_word T hr, (h vs H Q E hh).2⟩
theorem fk__law_odd_word {g : Wd} (T : Top g) (j : Nat) {sp : Sp} (h : ∀ vs H Q E, sp vs H Q E → vs.length = 2 ∧ rd__law_odd_word g j E { nx := fun _ H1 => Q .non H1, rt := Q } (L2.start ["_law_script", "_law_box_here", "_law_words"] vs) H) : FnG g (j + 2) (gad g.K "_law_odd_word") sp := by
  obtain ⟨fd, F⟩ := fd__law_odd_word T
  exact fnG_of (ok__law_odd_word T F h) (FunD.bindsN F fun _ _ _ _ _ _ us hl => match us, hl with | [_, _], _ => rfl)
theorem sc__law_odd_line : FnScope ["_law_script", "_law_box_here", "_law_lines"] ["_law_script", "_law_box_here"] (defScope (top 42)) := ⟨rfl, rfl, rfl, by decide +kernel, rfl, by decide +kernel, by decide +kernel⟩
def rd__law_odd_line (g : Wd) (j : Nat) (E : XK) : TS :=
  tSeq (tAsg (tLst (tCons (tC (.str "")) (tCons (tC (.str " ")) (tCons (tC (.str "else")) (tCons (tC (.str "when")) (tCons (tC (.str "carry all")) (tCons (tC (.str "else all")) (tCons (tC (.str "else carry")) (tCons (tC (.str "else carry all all")) (tNil)))))))))) (gName 2))
  (tSeq (tAsg (tOp (cAdd g.K noOw) (cV 2) (tLst (tCons (tC (.str "when free carry 1")) (tCons (tC (.str "when free <= 1")) (tCons (tC (.str "when free <= carry 1")) (tCons (tC (.str "when free <= 1 carry")) (tNil))))))) (gName 2))
  (tSeq (tAsg (tOp (cAdd g.K noOw) (cV 2) (tLst (tCons (tC (.str "else when free <= 1 carry 1")) (tCons (tC (.str "when free <= 1 carry 1 else carry 2")) (tCons (tC (.str "else carries 1")) (tNil)))))) (gName 2))
  (tSeq (tAsg (tOp (cAdd g.K noOw) (cV 2) (tLst (tCons (tC (.str "when free <= 1 and gap >= 1 carry 1")) (tCons (tC (.str "when 1 >= free carry 1")) (tCons (tC (.str "free <= 1 carry 1")) (tNil)))))) (gName 2))
  (tSeq (tAsg (tOp (cAdd g.K noOw) (cV 2) (tLst (tCons (tC (.str "When free <= 1 carry 1")) (tCons (tC (.str "when free <= 1 carry -1")) (tCons (tC (.str "when free <=1 carry 1")) (tNil)))))) (gName 2))
  (tSeq (tAsg (tOp (cAdd g.K noOw) (cV 2) (tLst (tCons (tC (.str "else: carry 1")) (tCons (tC (.str "else carry 0001")) (tNil))))) (gName 2))
  (tRet (tOp (cIx g.K) (cV 2) (cCall g j (fun cls d _ H => E cls d H) (gad g.K "_law_take") (tCons (cV 0) (tCons (cV 1) (tCons (tCB (cLen g j) (tCons (cV 2) (tNil))) (tNil))))))))))))
theorem dv__law_odd_line {g : Wd} (T : Top g) {j : Nat} {f : Addr} {cdv : Value} {A : Around} {outer : List Env} {s : Shared} {H : Hp} {E : XK} (hr : Room (j + 1) (A.deeper (envOfC "_law_odd_line" (defScope (top 42)) s.heap.objs.size f cdv))) :
    PSs (cxOf (L2.CX g.P g.w) g.P g.w g.K g.mg g.base ["_law_script", "_law_box_here", "_law_lines"] "_law_odd_line" (defScope (top 42)) f cdv A outer s H E) (defBody (top 42)) (rd__law_odd_line g j E) := by
  unfold rd__law_odd_line
  exact (pss_cons (ps_set (i := 2) sc__law_odd_line.nd rfl (Or.inl rfl) (pe_lst (pa_cons pe_str (pa_cons pe_str (pa_cons pe_str (pa_cons pe_str (pa_cons pe_str (pa_cons pe_str (pa_cons pe_str (pa_cons pe_str pa_nil))))))))))
  (pss_cons (ps_set (i := 2) sc__law_odd_line.nd rfl (Or.inl rfl) (pe_op (op_cAdd noOw_ok) (cv 2) (pe_lst (pa_cons pe_str (pa_cons pe_str (pa_cons pe_str (pa_cons pe_str pa_nil)))))))
  (pss_cons (ps_set (i := 2) sc__law_odd_line.nd rfl (Or.inl rfl) (pe_op (op_cAdd noOw_ok) (cv 2) (pe_lst (pa_cons pe_str (pa_cons pe_str (pa_cons pe_str pa_nil))))))
  (pss_cons (ps_set (i := 2) sc__law_odd_line.nd rfl (Or.inl rfl) (pe_op (op_cAdd noOw_ok) (cv 2) (pe_lst (pa_cons pe_str (pa_cons pe_str (pa_cons pe_str pa_nil))))))
  (pss_cons (ps_set (i := 2) sc__law_odd_line.nd rfl (Or.inl rfl) (pe_op (op_cAdd noOw_ok) (cv 2) (pe_lst (pa_cons pe_str (pa_cons pe_str (pa_cons pe_str pa_nil))))))
  (pss_cons (ps_set (i := 2) sc__law_odd_line.nd rfl (Or.inl rfl) (pe_op (op_cAdd noOw_ok) (cv 2) (pe_lst (pa_cons pe_str (pa_cons pe_str pa_nil)))))
  (pss_one (ps_ret (pe_ix ix_c (cv 2) (pe_cCall (takes_of rfl rfl rfl rfl) (hr.mono (Nat.le_succ _)) (gf__law_take T) (by rfl) (pa_cons (cv 0) (pa_cons (cv 1) (pa_cons (pe_callB (call_cLen hr) (by rfl) (bl_len T) bt_len (pa_cons (cv 2) pa_nil)) pa_nil)))) (fun _ _ => rfl))))))))))
theorem ok__law_odd_line {g : Wd} (T : Top g) {fd : FuncData} (F : FunD g.K "_law_odd_line" "_law_odd_line" (defArgs (top 42)) (defBody (top 42)) (defScope (top 42)) [] [] (gad g.K "_law_odd_line") fd) {j : Nat} {sp : Sp} (h : ∀ vs H Q E, sp vs H Q E → vs.length = 2 ∧ rd__law_odd_line g j E { nx := fun _ H1 => Q .non H1, rt := Q } (L2.start ["_law_script", "_law_box_here", "_law_lines"] vs) H) : FnOk g.P g.w g.K g.mg g.base (L2.CX g.P g.w) (j + 2) (gad g.K "_law_odd_line") fd ["_law_script", "_law_box_here"] sp :=
  FunD.ok F sc__law_odd_line (fun vs H Q E hh => (h vs H Q E hh).1) fun cdv A outer s H vs Q E hr hh => ⟨rd__law_odd_line g j E, dv__law_odd_line T hr, (h vs H Q E hh).2⟩
theorem fk__law_odd_line {g : Wd} (T : Top g) (j : Nat) {sp : Sp} (h : ∀ vs H Q E, sp vs H Q E → vs.length = 2 ∧ rd__law_odd_line g j E { nx := fun _ H1 => Q .non H1, rt := Q } (L2.start ["_law_script", "_law_box_here", "_law_lines"] vs) H) : FnG g (j + 2) (gad g.K "_law_odd_line") sp := by
  obtain ⟨fd, F⟩ := fd__law_odd_line T
  exact fnG_of (ok__law_odd_line T F h) (FunD.bindsN F fun _ _ _ _ _ _ us hl => match us, hl with | [_, _], _ => rfl)
theorem sc__law_sign : FnScope ["_law_script", "_law_box_here", "_law_signs"] ["_law_script", "_law_box_here"] (defScope (top 43)) := ⟨rfl, rfl, rfl, by decide +kernel, rfl, by decide +kernel, by decide +kernel⟩
def rd__law_sign (g : Wd) (j : Nat) (E : XK) : TS :=
  tSeq (tAsg (tC (.str " !\"#$&'()*+,-./0123456789:;<=>?@ABCDEFGHIJKLMNOPQRSTUVWXYZ[\\]^_`")) (gName 2))
  (tSeq (tAsg (tOp (cAdd g.K noOw) (cV 2) (tC (.str "abcdefghijklmnopqrstuvwxyz{|}~\n\t"))) (gName 2))
  (tRet (tOp (cIx g.K) (cV 2) (cCall g j (fun cls d _ H => E cls d H) (gad g.K "_law_take") (tCons (cV 0) (tCons (cV 1) (tCons (tCB (cLen g j) (tCons (cV 2) (tNil))) (tNil))))))))
theorem dv__law_sign {g : Wd} (T : Top g) {j : Nat} {f : Addr} {cdv : Value} {A : Around} {outer : List Env} {s : Shared} {H : Hp} {E : XK} (hr : Room (j + 1) (A.deeper (envOfC "_law_sign" (defScope (top 43)) s.heap.objs.size f cdv))) :
    PSs (cxOf (L2.CX g.P g.w) g.P g.w g.K g.mg g.base ["_law_script", "_law_box_here", "_law_signs"] "_law_sign" (defScope (top 43)) f cdv A outer s H E) (defBody (top 43)) (rd__law_sign g j E) := by
  unfold rd__law_sign
  exact (pss_cons (ps_set (i := 2) sc__law_sign.nd rfl (Or.inl rfl) pe_str)
  (pss_cons (ps_set (i := 2) sc__law_sign.nd rfl (Or.inl rfl) (pe_op (op_cAdd noOw_ok) (cv 2) pe_str))
  (pss_one (ps_ret (pe_ix ix_c (cv 2) (pe_cCall (takes_of rfl rfl rfl rfl) (hr.mono (Nat.le_succ _)) (gf__law_take T) (by rfl) (pa_cons (cv 0) (pa_cons (cv 1) (pa_cons (pe_callB (call_cLen hr) (by rfl) (bl_len T) bt_len (pa_cons (cv 2) pa_nil)) pa_nil)))) (fun _ _ => rfl))))))
theorem ok__law_sign {g : Wd} (T : Top g) {fd : FuncData} (F : FunD g.K "_law_sign" "_law_sign" (defArgs (top 43)) (defBody (top 43)) (defScope (top 43)) [] [] (gad g.K "_law_sign") fd) {j : Nat} {sp : Sp} (h : ∀ vs H Q E, sp vs H Q E → vs.length = 2 ∧ rd__law_sign g j E { nx := fun _ H1 => Q .non H1, rt := Q } (L2.start ["_law_script", "_law_box_here", "_law_signs"] vs) H) : FnOk g.P g.w g.K g.mg g.base (L2.CX g.P g.w) (j + 2) (gad g.K "_law_sign") fd ["_law_script", "_law_box_here"] sp :=
  FunD.ok F sc__law_sign (fun vs H Q E hh => (h vs H Q E hh).1) fun cdv A outer s H vs Q E hr hh => ⟨rd__law_sign g j E, dv__law_sign T hr, (h vs H Q E hh).2⟩
theorem fk__law_sign {g : Wd} (T : Top g) (j : Nat) {sp : Sp} (h : ∀ vs H Q E, sp vs H Q E → vs.length = 2 ∧ rd__law_sign g j E { nx := fun _ H1 => Q .non H1, rt := Q } (L2.start ["_law_script", "_law_box_here", "_law_signs"] vs) H) : FnG g (j + 2) (gad g.K "_law_sign") sp := by
  obtain ⟨fd, F⟩ := fd__law_sign T
  exact fnG_of (ok__law_sign T F h) (FunD.bindsN F fun _ _ _ _ _ _ us hl => match us, hl with | [_, _], _ => rfl)
theorem sc__law_bent : FnScope ["_law_script", "_law_box_here", "_law_line_here", "_law_way", "_law_words", "_law_k", "_law_spot"] ["_law_script", "_law_box_here", "_law_line_here"] (defScope (top 44)) := ⟨rfl, rfl, rfl, by decide +kernel, rfl, by decide +kernel, by decide +kernel⟩
def rd__law_bent (g : Wd) (j : Nat) (E : XK) : TS :=
  tSeq (tAsg (cCall g j (fun cls d _ H => E cls d H) (gad g.K "_law_take") (tCons (cV 0) (tCons (cV 1) (tCons (tC (.int 12)) (tNil))))) (gName 3))
  (tSeq (tAsg (cStrM mSplit (cV 2) (tCons (tC (.str " ")) (tNil))) (gName 4))
  (tSeq (tAsg (cCall g j (fun cls d _ H => E cls d H) (gad g.K "_law_take") (tCons (cV 0) (tCons (cV 1) (tCons (tCB (cLen g j) (tCons (cV 4) (tNil))) (tNil))))) (gName 5))
  (tSeq (tAsg (cCall g j (fun cls d _ H => E cls d H) (gad g.K "_law_take") (tCons (cV 0) (tCons (cV 1) (tCons (tCB (cLen g j) (tCons (cV 2) (tNil))) (tNil))))) (gName 6))
  (tSeq (tIfS (cTest (tOp (cEqN g.K false) (cV 3) (tC (.int 0)))) (tRet (cStrM (mJoin g.K) (tC (.str " ")) (tCons (tOp (cAdd g.K noOw) (tSl (cSl g.K) (cV 4) (tNoPart) (cPart (cV 5))) (tSl (cSl g.K) (cV 4) (cPart (tOp (cAdd g.K noOw) (cV 5) (tC (.int 1)))) (tNoPart))) (tNil)))) (tNext))
  (tSeq (tIfS (cTest (tOp (cEqN g.K false) (cV 3) (tC (.int 1)))) (tRet (cStrM (mJoin g.K) (tC (.str " ")) (tCons (tOp (cAdd g.K noOw) (tSl (cSl g.K) (cV 4) (tNoPart) (cPart (tOp (cAdd g.K noOw) (cV 5) (tC (.int 1))))) (tSl (cSl g.K) (cV 4) (cPart (cV 5)) (tNoPart))) (tNil)))) (tNext))
  (tSeq (tIfS (cTest (tOp (cEqN g.K false) (cV 3) (tC (.int 2)))) (tRet (cStrM (mJoin g.K) (tC (.str " ")) (tCons (tOp (cAdd g.K noOw) (tOp (cAdd g.K noOw) (tSl (cSl g.K) (cV 4) (tNoPart) (cPart (cV 5))) (tLst (tCons (cCall g j (fun cls d _ H => E cls d H) (gad g.K "_law_odd_word") (tCons (cV 0) (tCons (cV 1) (tNil)))) (tNil)))) (tSl (cSl g.K) (cV 4) (cPart (tOp (cAdd g.K noOw) (cV 5) (tC (.int 1)))) (tNoPart))) (tNil)))) (tNext))
  (tSeq (tIfS (cTest (tOp (cEqN g.K false) (cV 3) (tC (.int 3)))) (tRet (cStrM (mJoin g.K) (tC (.str " ")) (tCons (tOp (cAdd g.K noOw) (tOp (cAdd g.K noOw) (tSl (cSl g.K) (cV 4) (tNoPart) (cPart (cV 5))) (tLst (tCons (cStrM0 mUpper (tOp (cIx g.K) (cV 4) (cV 5))) (tNil)))) (tSl (cSl g.K) (cV 4) (cPart (tOp (cAdd g.K noOw) (cV 5) (tC (.int 1)))) (tNoPart))) (tNil)))) (tNext))
  (tSeq (tIfS (cTest (tOp (cEqN g.K false) (cV 3) (tC (.int 4)))) (tRet (cStrM (mJoin g.K) (tC (.str " ")) (tCons (tOp (cAdd g.K noOw) (tOp (cAdd g.K noOw) (tOp (cAdd g.K noOw) (tSl (cSl g.K) (cV 4) (tNoPart) (cPart (cV 5))) (tSl (cSl g.K) (cV 4) (cPart (tOp (cAdd g.K noOw) (cV 5) (tC (.int 1)))) (cPart (tOp (cAdd g.K noOw) (cV 5) (tC (.int 2)))))) (tLst (tCons (tOp (cIx g.K) (cV 4) (cV 5)) (tNil)))) (tSl (cSl g.K) (cV 4) (cPart (tOp (cAdd g.K noOw) (cV 5) (tC (.int 2)))) (tNoPart))) (tNil)))) (tNext))
  (tSeq (tIfS (cTest (tOp (cEqN g.K false) (cV 3) (tC (.int 5)))) (tRet (cStrM (mJoin g.K) (tC (.str " ")) (tCons (tOp (cAdd g.K noOw) (tOp (cAdd g.K noOw) (tSl (cSl g.K) (cV 4) (tNoPart) (cPart (cV 5))) (tLst (tCons (tC (.str "")) (tNil)))) (tSl (cSl g.K) (cV 4) (cPart (cV 5)) (tNoPart))) (tNil)))) (tNext))
  (tSeq (tIfS (cTest (tOp (cEqN g.K false) (cV 3) (tC (.int 6)))) (tRet (tOp (cAdd g.K noOw) (cV 2) (tC (.str " ")))) (tNext))
  (tSeq (tIfS (cTest (tOp (cEqN g.K false) (cV 3) (tC (.int 7)))) (tRet (cStrM (mJoin g.K) (tC (.str " ")) (tCons (tOp (cAdd g.K noOw) (tOp (cAdd g.K noOw) (tSl (cSl g.K) (cV 4) (tNoPart) (cPart (cV 5))) (tLst (tCons (cStrM (mJoin g.K) (tC (.str "\t")) (tCons (tSl (cSl g.K) (cV 4) (cPart (cV 5)) (cPart (tOp (cAdd g.K noOw) (cV 5) (tC (.int 2))))) (tNil))) (tNil)))) (tSl (cSl g.K) (cV 4) (cPart (tOp (cAdd g.K noOw) (cV 5) (tC (.int 2)))) (tNoPart))) (tNil)))) (tNext))
  (tSeq (tIfS (cTest (tOp (cEqN g.K false) (cV 3) (tC (.int 8)))) (tRet (tOp (cAdd g.K noOw) (tOp (cAdd g.K noOw) (tSl (cSl g.K) (cV 2) (tNoPart) (cPart (cV 6))) (cCall g j (fun cls d _ H => E cls d H) (gad g.K "_law_sign") (tCons (cV 0) (tCons (cV 1) (tNil))))) (tSl (cSl g.K) (cV 2) (cPart (cV 6)) (tNoPart)))) (tNext))
  (tSeq (tIfS (cTest (tOp (cEqN g.K false) (cV 3) (tC (.int 9)))) (tRet (tOp (cAdd g.K noOw) (tSl (cSl g.K) (cV 2) (tNoPart) (cPart (cV 6))) (tSl (cSl g.K) (cV 2) (cPart (tOp (cAdd g.K noOw) (cV 6) (tC (.int 1)))) (tNoPart)))) (tNext))
  (tSeq (tIfS (cTest (tOp (cEqN g.K false) (cV 3) (tC (.int 10)))) (tRet (tOp (cAdd g.K noOw) (cV 2) (cCall g j (fun cls d _ H => E cls d H) (gad g.K "_law_sign") (tCons (cV 0) (tCons (cV 1) (tNil)))))) (tNext))
  (tRet (cCall g j (fun cls d _ H => E cls d H) (gad g.K "_law_odd_line") (tCons (cV 0) (tCons (cV 1) (tNil)))))))))))))))))))
theorem dv__law_bent {g : Wd} (T : Top g) {j : Nat} {f : Addr} {cdv : Value} {A : Around} {outer : List Env} {s : Shared} {H : Hp} {E : XK} (hr : Room (j + 1) (A.deeper (envOfC "_law_bent" (defScope (top 44)) s.heap.objs.size f cdv))) :
    PSs (cxOf (L2.CX g.P g.w) g.P g.w g.K g.mg g.base ["_law_script", "_law_box_here", "_law_line_here", "_law_way", "_law_words", "_law_k", "_law_spot"] "_law_bent" (defScope (top 44)) f cdv A outer s H E) (defBody (top 44)) (rd__law_bent g j E) := by
  unfold rd__law_bent
  exact (pss_cons (ps_set (i := 3) sc__law_bent.nd rfl (Or.inl rfl) (pe_cCall (takes_of rfl rfl rfl rfl) (hr.mono (Nat.le_succ _)) (gf__law_take T) (by rfl) (pa_cons (cv 0) (pa_cons (cv 1) (pa_cons pe_int pa_nil)))))
  (pss_cons (ps_set (i := 4) sc__law_bent.nd rfl (Or.inl rfl) (pe_sm PySem.F.slot_str_split PySem.F.type_str_split m_split (cv 2) (pa_cons pe_str pa_nil)))
  (pss_cons (ps_set (i := 5) sc__law_bent.nd rfl (Or.inl rfl) (pe_cCall (takes_of rfl rfl rfl rfl) (hr.mono (Nat.le_succ _)) (gf__law_take T) (by rfl) (pa_cons (cv 0) (pa_cons (cv 1) (pa_cons (pe_callB (call_cLen hr) (by rfl) (bl_len T) bt_len (pa_cons (cv 4) pa_nil)) pa_nil)))))
  (pss_cons (ps_set (i := 6) sc__law_bent.nd rfl (Or.inl rfl) (pe_cCall (takes_of rfl rfl rfl rfl) (hr.mono (Nat.le_succ _)) (gf__law_take T) (by rfl) (pa_cons (cv 0) (pa_cons (cv 1) (pa_cons (pe_callB (call_cLen hr) (by rfl) (bl_len T) bt_len (pa_cons (cv 2) pa_nil)) pa_nil)))))
  (pss_cons (ps_if (ptc (op_cEq hr.units) (cv 3) pe_int (nomark _)) (pss_one (ps_ret (pe_sm PySem.F.slot_str_join PySem.F.type_str_join m_join pe_str (pa_cons (pe_op (op_cAdd noOw_ok) (pe_slice sl_c (cv 4) po_none (po_c (cv 5))) (pe_slice sl_c (cv 4) (po_c (pe_op (op_cAdd noOw_ok) (cv 5) pe_int)) po_none)) pa_nil)))) pss_nil)
  (pss_cons (ps_if (ptc (op_cEq hr.units) (cv 3) pe_int (nomark _)) (pss_one (ps_ret (pe_sm PySem.F.slot_str_join PySem.F.type_str_join m_join pe_str (pa_cons (pe_op (op_cAdd noOw_ok) (pe_slice sl_c (cv 4) po_none (po_c (pe_op (op_cAdd noOw_ok) (cv 5) pe_int))) (pe_slice sl_c (cv 4) (po_c (cv 5)) po_none)) pa_nil)))) pss_nil)
  (pss_cons (ps_if (ptc (op_cEq hr.units) (cv 3) pe_int (nomark _)) (pss_one (ps_ret (pe_sm PySem.F.slot_str_join PySem.F.type_str_join m_join pe_str (pa_cons (pe_op (op_cAdd noOw_ok) (pe_op (op_cAdd noOw_ok) (pe_slice sl_c (cv 4) po_none (po_c (cv 5))) (pe_lst (pa_cons (pe_cCall (takes_of rfl rfl rfl rfl) (hr.mono (Nat.le_succ _)) (gf__law_odd_word T) (by rfl) (pa_cons (cv 0) (pa_cons (cv 1) pa_nil))) pa_nil))) (pe_slice sl_c (cv 4) (po_c (pe_op (op_cAdd noOw_ok) (cv 5) pe_int)) po_none)) pa_nil)))) pss_nil)
  (pss_cons (ps_if (ptc (op_cEq hr.units) (cv 3) pe_int (nomark _)) (pss_one (ps_ret (pe_sm PySem.F.slot_str_join PySem.F.type_str_join m_join pe_str (pa_cons (pe_op (op_cAdd noOw_ok) (pe_op (op_cAdd noOw_ok) (pe_slice sl_c (cv 4) po_none (po_c (cv 5))) (pe_lst (pa_cons (pe_sm0 PySem.F.slot_str_upper PySem.F.type_str_upper m_upper (pe_ix ix_c (cv 4) (cv 5) (fun _ _ => rfl))) pa_nil))) (pe_slice sl_c (cv 4) (po_c (pe_op (op_cAdd noOw_ok) (cv 5) pe_int)) po_none)) pa_nil)))) pss_nil)
  (pss_cons (ps_if (ptc (op_cEq hr.units) (cv 3) pe_int (nomark _)) (pss_one (ps_ret (pe_sm PySem.F.slot_str_join PySem.F.type_str_join m_join pe_str (pa_cons (pe_op (op_cAdd noOw_ok) (pe_op (op_cAdd noOw_ok) (pe_op (op_cAdd noOw_ok) (pe_slice sl_c (cv 4) po_none (po_c (cv 5))) (pe_slice sl_c (cv 4) (po_c (pe_op (op_cAdd noOw_ok) (cv 5) pe_int)) (po_c (pe_op (op_cAdd noOw_ok) (cv 5) pe_int)))) (pe_lst (pa_cons (pe_ix ix_c (cv 4) (cv 5) (fun _ _ => rfl)) pa_nil))) (pe_slice sl_c (cv 4) (po_c (pe_op (op_cAdd noOw_ok) (cv 5) pe_int)) po_none)) pa_nil)))) pss_nil)
  (pss_cons (ps_if (ptc (op_cEq hr.units) (cv 3) pe_int (nomark _)) (pss_one (ps_ret (pe_sm PySem.F.slot_str_join PySem.F.type_str_join m_join pe_str (pa_cons (pe_op (op_cAdd noOw_ok) (pe_op (op_cAdd noOw_ok) (pe_slice sl_c (cv 4) po_none (po_c (cv 5))) (pe_lst (pa_cons pe_str pa_nil))) (pe_slice sl_c (cv 4) (po_c (cv 5)) po_none)) pa_nil)))) pss_nil)
  (pss_cons (ps_if (ptc (op_cEq hr.units) (cv 3) pe_int (nomark _)) (pss_one (ps_ret (pe_op (op_cAdd noOw_ok) (cv 2) pe_str))) pss_nil)
  (pss_cons (ps_if (ptc (op_cEq hr.units) (cv 3) pe_int (nomark _)) (pss_one (ps_ret (pe_sm PySem.F.slot_str_join PySem.F.type_str_join m_join pe_str (pa_cons (pe_op (op_cAdd noOw_ok) (pe_op (op_cAdd noOw_ok) (pe_slice sl_c (cv 4) po_none (po_c (cv 5))) (pe_lst (pa_cons (pe_sm PySem.F.slot_str_join PySem.F.type_str_join m_join pe_str (pa_cons (pe_slice sl_c (cv 4) (po_c (cv 5)) (po_c (pe_op (op_cAdd noOw_ok) (cv 5) pe_int))) pa_nil)) pa_nil))) (pe_slice sl_c (cv 4) (po_c (pe_op (op_cAdd noOw_ok) (cv 5) pe_int)) po_none)) pa_nil)))) pss_nil)
  (pss_cons (ps_if (ptc (op_cEq hr.units) (cv 3) pe_int (nomark _)) (pss_one (ps_ret (pe_op (op_cAdd noOw_ok) (pe_op (op_cAdd noOw_ok) (pe_slice sl_c (cv 2) po_none (po_c (cv 6))) (pe_cCall (takes_of rfl rfl rfl rfl) (hr.mono (Nat.le_succ _)) (gf__law_sign T) (by rfl) (pa_cons (cv 0) (pa_cons (cv 1) pa_nil)))) (pe_slice sl_c (cv 2) (po_c (cv 6)) po_none)))) pss_nil)
  (pss_cons (ps_if (ptc (op_cEq hr.units) (cv 3) pe_int (nomark _)) (pss_one (ps_ret (pe_op (op_cAdd noOw_ok) (pe_slice sl_c (cv 2) po_none (po_c (cv 6))) (pe_slice sl_c (cv 2) (po_c (pe_op (op_cAdd noOw_ok) (cv 6) pe_int)) po_none)))) pss_nil)
  (pss_cons (ps_if (ptc (op_cEq hr.units) (cv 3) pe_int (nomark _)) (pss_one (ps_ret (pe_op (op_cAdd noOw_ok) (cv 2) (pe_cCall (takes_of rfl rfl rfl rfl) (hr.mono (Nat.le_succ _)) (gf__law_sign T) (by rfl) (pa_cons (cv 0) (pa_cons (cv 1) pa_nil)))))) pss_nil)
  (pss_one (ps_ret (pe_cCall (takes_of rfl rfl rfl rfl) (hr.mono (Nat.le_succ _)) (gf__law_odd_line T) (by rfl) (pa_cons (cv 0) (pa_cons (cv 1) pa_nil))))))))))))))))))))
theorem ok__law_bent {g : Wd} (T : Top g) {fd : FuncData} (F : FunD g.K "_law_bent" "_law_bent" (defArgs (top 44)) (defBody (top 44)) (defScope (top 44)) [] [] (gad g.K "_law_bent") fd) {j : Nat} {sp : Sp} (h : ∀ vs H Q E, sp vs H Q E → vs.length = 3 ∧ rd__law_bent g j E { nx := fun _ H1 => Q .non H1, rt := Q } (L2.start ["_law_script", "_law_box_here", "_law_line_here", "_law_way", "_law_words", "_law_k", "_law_spot"] vs) H) : FnOk g.P g.w g.K g.mg g.base (L2.CX g.P g.w) (j + 2) (gad g.K "_law_bent") fd ["_law_script", "_law_box_here", "_law_line_here"] sp :=
  FunD.ok F sc__law_bent (fun vs H Q E hh => (h vs H Q E hh).1) fun cdv A outer s H vs Q E hr hh => ⟨rd__law_bent g j E, dv__law_bent T hr, (h vs H Q E hh).2⟩
theorem fk__law_bent {g : Wd} (T : Top g) (j : Nat) {sp : Sp} (h : ∀ vs H Q E, sp vs H Q E → vs.length = 3 ∧ rd__law_bent g j E { nx := fun _ H1 => Q .non H1, rt := Q } (L2.start ["_law_script", "_law_box_here", "_law_line_here", "_law_way", "_law_words", "_law_k", "_law_spot"] vs) H) : FnG g (j + 2) (gad g.K "_law_bent") sp := by
  obtain ⟨fd, F⟩ := fd__law_bent T
  exact fnG_of (ok__law_bent T F h) (FunD.bindsN F fun _ _ _ _ _ _ us hl => match us, hl with | [_, _, _], _ => rfl)
theorem sc__law_text : FnScope ["_law_script", "_law_box_here", "_law_stands", "_law_pays_here", "_law_many", "_law_bends", "_law_ends", "_law_lines", "_law_k", "_law_spot"] ["_law_script", "_law_box_here", "_law_stands", "_law_pays_here"] (defScope (top 45)) := ⟨rfl, rfl, rfl, by decide +kernel, rfl, by decide +kernel, by decide +kernel⟩
def rd__law_text (g : Wd) (j : Nat) (E : XK) : TS :=
  tSeq (tAsg (tOp (cAdd g.K noOw) (tC (.int 1)) (cCall g j (fun cls d _ H => E cls d H) (gad g.K "_law_take") (tCons (cV 0) (tCons (cV 1) (tCons (tC (.int 6)) (tNil)))))) (gName 4))
  (tSeq (tIfS (cTest (tOp (cEqN g.K false) (cCall g j (fun cls d _ H => E cls d H) (gad g.K "_law_take") (tCons (cV 0) (tCons (cV 1) (tCons (tC (.int 8)) (tNil))))) (tC (.int 0)))) (tAsg (tOp (cAdd g.K noOw) (tC (.int 7)) (cCall g j (fun cls d _ H => E cls d H) (gad g.K "_law_take") (tCons (cV 0) (tCons (cV 1) (tCons (tC (.int 24)) (tNil)))))) (gName 4)) (tNext))
  (tSeq (tAsg (tOp (cIx g.K) (tLst (tCons (tC (.int 0)) (tCons (tC (.int 0)) (tCons (tC (.int 1)) (tCons (tC (.int 2)) (tNil)))))) (cCall g j (fun cls d _ H => E cls d H) (gad g.K "_law_take") (tCons (cV 0) (tCons (cV 1) (tCons (tC (.int 4)) (tNil)))))) (gName 5))
  (tSeq (tAsg (cCall g j (fun cls d _ H => E cls d H) (gad g.K "_law_take") (tCons (cV 0) (tCons (cV 1) (tCons (tC (.int 8)) (tNil))))) (gName 6))
  (tSeq (tAsg (tLst (tNil)) (gName 7))
  (tSeq (tFor (iRng1 (tCons (cV 4) (tNil))) (gName 8) (tDrop (cApp g.K (cV 7) (tCons (cCall g j (fun cls d _ H => E cls d H) (gad g.K "_law_line") (tCons (cV 0) (tCons (cV 1) (tCons (cV 2) (tCons (cV 3) (tNil)))))) (tNil)))))
  (tSeq (tFor (iRng1 (tCons (cV 5) (tNil))) (gName 8) (tSeq (tAsg (cCall g j (fun cls d _ H => E cls d H) (gad g.K "_law_take") (tCons (cV 0) (tCons (cV 1) (tCons (cV 4) (tNil))))) (gName 9))
  (tIfS (cTest (tOp (cEqN g.K true) (tOp (cIx g.K) (cV 7) (cV 9)) (tC (.str "")))) (tAsg (cCall g j (fun cls d _ H => E cls d H) (gad g.K "_law_bent") (tCons (cV 0) (tCons (cV 1) (tCons (tOp (cIx g.K) (cV 7) (cV 9)) (tNil))))) (gSub (cV 7) (cV 9) cSetIx)) (tNext))))
  (tSeq (tIfS (cTest (tOp (cEqN g.K false) (cV 6) (tC (.int 1)))) (tDrop (cApp g.K (cV 7) (tCons (tC (.str "")) (tNil)))) (tNext))
  (tRet (cStrM (mJoin g.K) (tC (.str "\n")) (tCons (cV 7) (tNil)))))))))))
theorem dv__law_text {g : Wd} (T : Top g) {j : Nat} {f : Addr} {cdv : Value} {A : Around} {outer : List Env} {s : Shared} {H : Hp} {E : XK} (hr : Room (j + 1) (A.deeper (envOfC "_law_text" (defScope (top 45)) s.heap.objs.size f cdv))) :
    PSs (cxOf (L2.CX g.P g.w) g.P g.w g.K g.mg g.base ["_law_script", "_law_box_here", "_law_stands", "_law_pays_here", "_law_many", "_law_bends", "_law_ends", "_law_lines", "_law_k", "_law_spot"] "_law_text" (defScope (top 45)) f cdv A outer s H E) (defBody (top 45)) (rd__law_text g j E) := by
  unfold rd__law_text
  exact (pss_cons (ps_set (i := 4) sc__law_text.nd rfl (Or.inl rfl) (pe_op (op_cAdd noOw_ok) pe_int (pe_cCall (takes_of rfl rfl rfl rfl) (hr.mono (Nat.le_succ _)) (gf__law_take T) (by rfl) (pa_cons (cv 0) (pa_cons (cv 1) (pa_cons pe_int pa_nil))))))
  (pss_cons (ps_if (ptc (op_cEq hr.units) (pe_cCall (takes_of rfl rfl rfl rfl) (hr.mono (Nat.le_succ _)) (gf__law_take T) (by rfl) (pa_cons (cv 0) (pa_cons (cv 1) (pa_cons pe_int pa_nil)))) pe_int (nomark _)) (pss_one (ps_set (i := 4) sc__law_text.nd rfl (Or.inl rfl) (pe_op (op_cAdd noOw_ok) pe_int (pe_cCall (takes_of rfl rfl rfl rfl) (hr.mono (Nat.le_succ _)) (gf__law_take T) (by rfl) (pa_cons (cv 0) (pa_cons (cv 1) (pa_cons pe_int pa_nil))))))) pss_nil)
  (pss_cons (ps_set (i := 5) sc__law_text.nd rfl (Or.inl rfl) (pe_ix ix_c (pe_lst (pa_cons pe_int (pa_cons pe_int (pa_cons pe_int (pa_cons pe_int pa_nil))))) (pe_cCall (takes_of rfl rfl rfl rfl) (hr.mono (Nat.le_succ _)) (gf__law_take T) (by rfl) (pa_cons (cv 0) (pa_cons (cv 1) (pa_cons pe_int pa_nil)))) (fun _ _ => rfl)))
  (pss_cons (ps_set (i := 6) sc__law_text.nd rfl (Or.inl rfl) (pe_cCall (takes_of rfl rfl rfl rfl) (hr.mono (Nat.le_succ _)) (gf__law_take T) (by rfl) (pa_cons (cv 0) (pa_cons (cv 1) (pa_cons pe_int pa_nil)))))
  (pss_cons (ps_set (i := 7) sc__law_text.nd rfl (Or.inl rfl) (pe_lst pa_nil))
  (pss_cons (ps_for (passes_of rfl) rfl (pi_range1 (by rfl) (bl_range T) (pa_cons (cv 4) pa_nil)) (pg_name sc__law_text.nd rfl (Or.inl rfl)) (pss_one (ps_expr (pe_cApp (cv 7) (pa_cons (pe_cCall (takes_of rfl rfl rfl rfl) (hr.mono (Nat.le_succ _)) (gf__law_line T) (by rfl) (pa_cons (cv 0) (pa_cons (cv 1) (pa_cons (cv 2) (pa_cons (cv 3) pa_nil))))) pa_nil)))))
  (pss_cons (ps_for (passes_of rfl) rfl (pi_range1 (by rfl) (bl_range T) (pa_cons (cv 5) pa_nil)) (pg_name sc__law_text.nd rfl (Or.inl rfl)) (pss_cons (ps_set (i := 9) sc__law_text.nd rfl (Or.inl rfl) (pe_cCall (takes_of rfl rfl rfl rfl) (hr.mono (Nat.le_succ _)) (gf__law_take T) (by rfl) (pa_cons (cv 0) (pa_cons (cv 1) (pa_cons (cv 4) pa_nil)))))
  (pss_one (ps_if (ptc (op_cNe hr.units) (pe_ix ix_c (cv 7) (cv 9) (fun _ _ => rfl)) pe_str (nomark _)) (pss_one (ps_asg (pe_cCall (takes_of rfl rfl rfl rfl) (hr.mono (Nat.le_succ _)) (gf__law_bent T) (by rfl) (pa_cons (cv 0) (pa_cons (cv 1) (pa_cons (pe_ix ix_c (cv 7) (cv 9) (fun _ _ => rfl)) pa_nil)))) (pg_sub (cv 7) (cv 9) set_c))) pss_nil))))
  (pss_cons (ps_if (ptc (op_cEq hr.units) (cv 6) pe_int (nomark _)) (pss_one (ps_expr (pe_cApp (cv 7) (pa_cons pe_str pa_nil)))) pss_nil)
  (pss_one (ps_ret (pe_sm PySem.F.slot_str_join PySem.F.type_str_join m_join pe_str (pa_cons (cv 7) pa_nil))))))))))))
theorem ok__law_text {g : Wd} (T : Top g) {fd : FuncData} (F : FunD g.K "_law_text" "_law_text" (defArgs (top 45)) (defBody (top 45)) (defScope (top 45)) [] [] (gad g.K "_law_text") fd) {j : Nat} {sp : Sp} (h : ∀ vs H Q E, sp vs H Q E → vs.length = 4 ∧ rd__law_text g j E { nx := fun _ H1 => Q .non H1, rt := Q } (L2.start ["_law_script", "_law_box_here", "_law_stands", "_law_pays_here", "_law_many", "_law_bends", "_law_ends", "_law_lines", "_law_k", "_law_spot"] vs) H) : FnOk g.P g.w g.K g.mg g.base (L2.CX g.P g.w) (j + 2) (gad g.K "_law_text") fd ["_law_script", "_law_box_here", "_law_stands", "_law_pays_here"] sp :=
  FunD.ok F sc__law_text (fun vs H Q E hh => (h vs H Q E hh).1) fun cdv A outer s H vs Q E hr hh => ⟨rd__law_text g j E, dv__law_text T hr, (h vs H Q E hh).2⟩
theorem fk__law_text {g : Wd} (T : Top g) (j : Nat) {sp : Sp} (h : ∀ vs H Q E, sp vs H Q E → vs.length = 4 ∧ rd__law_text g j E { nx := fun _ H1 => Q .non H1, rt := Q } (L2.start ["_law_script", "_law_box_here", "_law_stands", "_law_pays_here", "_law_many", "_law_bends", "_law_ends", "_law_lines", "_law_k", "_law_spot"] vs) H) : FnG g (j + 2) (gad g.K "_law_text") sp := by
  obtain ⟨fd, F⟩ := fd__law_text T
  exact fnG_of (ok__law_text T F h) (FunD.bindsN F fun _ _ _ _ _ _ us hl => match us, hl with | [_, _, _, _], _ => rfl)
theorem sc__law_number : FnScope ["_law_text_here", "_law_sign_here"] ["_law_text_here"] (defScope (top 46)) := ⟨rfl, rfl, rfl, by decide +kernel, rfl, by decide +kernel, by decide +kernel⟩
def rd__law_number (g : Wd) (j : Nat) (E : XK) : TS :=
  tSeq (tIfS (tOr (cTest (tOp cLt (tCB (cLen g j) (tCons (cV 0) (tNil))) (tC (.int 1)))) (cTest (tOp cGt (tCB (cLen g j) (tCons (cV 0) (tNil))) (tC (.int 3))))) (tRet (tUn cNeg (tC (.int 1)))) (tNext))
  (tSeq (tFor (iSeq g.K (cV 0)) (gName 1) (tIfS (cTest (tOp (cIn g.K true) (cV 1) (tC (.str "0123456789")))) (tRet (tUn cNeg (tC (.int 1)))) (tNext)))
  (tRet (tCB (cInt) (tCons (cV 0) (tNil)))))
theorem dv__law_number {g : Wd} (T : Top g) {j : Nat} {f : Addr} {cdv : Value} {A : Around} {outer : List Env} {s : Shared} {H : Hp} {E : XK} (hr : Room (j + 1) (A.deeper (envOfC "_law_number" (defScope (top 46)) s.heap.objs.size f cdv))) :
    PSs (cxOf (L2.CX g.P g.w) g.P g.w g.K g.mg g.base ["_law_text_here", "_law_sign_here"] "_law_number" (defScope (top 46)) f cdv A outer s H E) (defBody (top 46)) (rd__law_number g j E) := by
  unfold rd__law_number
  exact (pss_cons (ps_if (pw_or (ptc op_cLt (pe_callB (call_cLen hr) (by rfl) (bl_len T) bt_len (pa_cons (cv 0) pa_nil)) pe_int (nomark _)) (pw_or1 (ptc op_cGt (pe_callB (call_cLen hr) (by rfl) (bl_len T) bt_len (pa_cons (cv 0) pa_nil)) pe_int (nomark _)))).pt (pss_one (ps_ret (pe_un un_cNeg pe_int))) pss_nil)
  (pss_cons (ps_for (passes_of rfl) rfl (pi_seq (cv 0)) (pg_name sc__law_number.nd rfl (Or.inl rfl)) (pss_one (ps_if (ptc op_cNotIn (cv 1) pe_str (by with_unfolding_all rfl)) (pss_one (ps_ret (pe_un un_cNeg pe_int))) pss_nil)))
  (pss_one (ps_ret (pe_callTy (call_cInt) (by rfl) (bl_int T) bt_int (pa_cons (cv 0) pa_nil))))))
theorem ok__law_number {g : Wd} (T : Top g) {fd : FuncData} (F : FunD g.K "_law_number" "_law_number" (defArgs (top 46)) (defBody (top 46)) (defScope (top 46)) [] [] (gad g.K "_law_number") fd) {j : Nat} {sp : Sp} (h : ∀ vs H Q E, sp vs H Q E → vs.length = 1 ∧ rd__law_number g j E { nx := fun _ H1 => Q .non H1, rt := Q } (L2.start ["_law_text_here", "_law_sign_here"] vs) H) : FnOk g.P g.w g.K g.mg g.base (L2.CX g.P g.w) (j + 2) (gad g.K "_law_number") fd ["_law_text_here"] sp :=
  FunD.ok F sc__law_number (fun vs H Q E hh => (h vs H Q E hh).1) fun cdv A outer s H vs Q E hr hh => ⟨rd__law_number g j E, dv__law_number T hr, (h vs H Q E hh).2⟩
theorem fk__law_number {g : Wd} (T : Top g) (j : Nat) {sp : Sp} (h : ∀ vs H Q E, sp vs H Q E → vs.length = 1 ∧ rd__law_number g j E { nx := fun _ H1 => Q .non H1, rt := Q } (L2.start ["_law_text_here", "_law_sign_here"] vs) H) : FnG g (j + 2) (gad g.K "_law_number") sp := by
  obtain ⟨fd, F⟩ := fd__law_number T
  exact fnG_of (ok__law_number T F h) (FunD.bindsN F fun _ _ _ _ _ _ us hl => match us, hl with | [_], _ => rfl)
theorem sc__law_amount : FnScope ["_law_text_here"] ["_law_text_here"] (defScope (top 47)) := ⟨rfl, rfl, rfl, by decide +kernel, rfl, by decide +kernel, by decide +kernel⟩
def rd__law_amount (g : Wd) (j : Nat) (E : XK) : TS :=
  tSeq (tIfS (cTest (tOp (cEqN g.K false) (cV 0) (tC (.str "all")))) (tRet (tC (.int 1000))) (tNext))
  (tRet (cCall g j (fun cls d _ H => E cls d H) (gad g.K "_law_number") (tCons (cV 0) (tNil))))
theorem dv__law_amount {g : Wd} (T : Top g) {j : Nat} {f : Addr} {cdv : Value} {A : Around} {outer : List Env} {s : Shared} {H : Hp} {E : XK} (hr : Room (j + 1) (A.deeper (envOfC "_law_amount" (defScope (top 47)) s.heap.objs.size f cdv))) :
    PSs (cxOf (L2.CX g.P g.w) g.P g.w g.K g.mg g.base ["_law_text_here"] "_law_amount" (defScope (top 47)) f cdv A outer s H E) (defBody (top 47)) (rd__law_amount g j E) := by
  unfold rd__law_amount
  exact (pss_cons (ps_if (ptc (op_cEq hr.units) (cv 0) pe_str (nomark _)) (pss_one (ps_ret pe_int)) pss_nil)
  (pss_one (ps_ret (pe_cCall (takes_of rfl rfl rfl rfl) (hr.mono (Nat.le_succ _)) (gf__law_number T) (by rfl) (pa_cons (cv 0) pa_nil)))))
theorem ok__law_amount {g : Wd} (T : Top g) {fd : FuncData} (F : FunD g.K "_law_amount" "_law_amount" (defArgs (top 47)) (defBody (top 47)) (defScope (top 47)) [] [] (gad g.K "_law_amount") fd) {j : Nat} {sp : Sp} (h : ∀ vs H Q E, sp vs H Q E → vs.length = 1 ∧ rd__law_amount g j E { nx := fun _ H1 => Q .non H1, rt := Q } (L2.start ["_law_text_here"] vs) H) : FnOk g.P g.w g.K g.mg g.base (L2.CX g.P g.w) (j + 2) (gad g.K "_law_amount") fd ["_law_text_here"] sp :=
  FunD.ok F sc__law_amount (fun vs H Q E hh => (h vs H Q E hh).1) fun cdv A outer s H vs Q E hr hh => ⟨rd__law_amount g j E, dv__law_amount T hr, (h vs H Q E hh).2⟩
theorem fk__law_amount {g : Wd} (T : Top g) (j : Nat) {sp : Sp} (h : ∀ vs H Q E, sp vs H Q E → vs.length = 1 ∧ rd__law_amount g j E { nx := fun _ H1 => Q .non H1, rt := Q } (L2.start ["_law_text_here"] vs) H) : FnG g (j + 2) (gad g.K "_law_amount") sp := by
  obtain ⟨fd, F⟩ := fd__law_amount T
  exact fnG_of (ok__law_amount T F h) (FunD.bindsN F fun _ _ _ _ _ _ us hl => match us, hl with | [_], _ => rfl)
theorem sc__law_rule : FnScope ["_law_line_here", "_law_words"] ["_law_line_here"] (defScope (top 48)) := ⟨rfl, rfl, rfl, by decide +kernel, rfl, by decide +kernel, by decide +kernel⟩
def rd__law_rule (g : Wd) (j : Nat) (E : XK) : TS :=
  tSeq (tAsg (cStrM mSplit (cV 0) (tCons (tC (.str " ")) (tNil))) (gName 1))
  (tSeq (tIfS (tAnd (cTest (tOp (cEqN g.K false) (tCB (cLen g j) (tCons (cV 1) (tNil))) (tC (.int 3)))) (tAnd (cTest (tOp (cEqN g.K false) (tOp (cIx g.K) (cV 1) (tC (.int 0))) (tC (.str "else")))) (tAnd (cTest (tOp (cEqN g.K false) (tOp (cIx g.K) (cV 1) (tC (.int 1))) (tC (.str "carry")))) (cTest (tOp cGe (cCall g j (fun cls d _ H => E cls d H) (gad g.K "_law_amount") (tCons (tOp (cIx g.K) (cV 1) (tC (.int 2))) (tNil))) (tC (.int 0))))))) (tRet (tLst (tCons (tC (.str "else")) (tCons (tC (.str "")) (tCons (tC (.int 0)) (tCons (cCall g j (fun cls d _ H => E cls d H) (gad g.K "_law_amount") (tCons (tOp (cIx g.K) (cV 1) (tC (.int 2))) (tNil))) (tNil))))))) (tNext))
  (tSeq (tIfS (tOr (cTest (tOp (cEqN g.K true) (tCB (cLen g j) (tCons (cV 1) (tNil))) (tC (.int 6)))) (tOr (cTest (tOp (cEqN g.K true) (tOp (cIx g.K) (cV 1) (tC (.int 0))) (tC (.str "when")))) (cTest (tOp (cEqN g.K true) (tOp (cIx g.K) (cV 1) (tC (.int 4))) (tC (.str "carry")))))) (tRet (tLst (tNil))) (tNext))
  (tSeq (tIfS (tOr (cTest (tOp (cIn g.K true) (tOp (cIx g.K) (cV 1) (tC (.int 1))) (tLst (tCons (tC (.str "free")) (tCons (tC (.str "living")) (tCons (tC (.str "dead")) (tCons (tC (.str "gap")) (tCons (tC (.str "budget")) (tNil))))))))) (cTest (tOp (cIn g.K true) (tOp (cIx g.K) (cV 1) (tC (.int 2))) (tLst (tCons (tC (.str "<=")) (tCons (tC (.str ">=")) (tCons (tC (.str "==")) (tNil)))))))) (tRet (tLst (tNil))) (tNext))
  (tSeq (tIfS (tOr (cTest (tOp cLt (cCall g j (fun cls d _ H => E cls d H) (gad g.K "_law_number") (tCons (tOp (cIx g.K) (cV 1) (tC (.int 3))) (tNil))) (tC (.int 0)))) (cTest (tOp cLt (cCall g j (fun cls d _ H => E cls d H) (gad g.K "_law_amount") (tCons (tOp (cIx g.K) (cV 1) (tC (.int 5))) (tNil))) (tC (.int 0))))) (tRet (tLst (tNil))) (tNext))
  (tRet (tLst (tCons (tOp (cIx g.K) (cV 1) (tC (.int 1))) (tCons (tOp (cIx g.K) (cV 1) (tC (.int 2))) (tCons (cCall g j (fun cls d _ H => E cls d H) (gad g.K "_law_number") (tCons (tOp (cIx g.K) (cV 1) (tC (.int 3))) (tNil))) (tCons (cCall g j (fun cls d _ H => E cls d H) (gad g.K "_law_amount") (tCons (tOp (cIx g.K) (cV 1) (tC (.int 5))) (tNil))) (tNil)))))))))))
theorem dv__law_rule {g : Wd} (T : Top g) {j : Nat} {f : Addr} {cdv : Value} {A : Around} {outer : List Env} {s : Shared} {H : Hp} {E : XK} (hr : Room (j + 1) (A.deeper (envOfC "_law_rule" (defScope (top 48)) s.heap.objs.size f cdv))) :
    PSs (cxOf (L2.CX g.P g.w) g.P g.w g.K g.mg g.base ["_law_line_here", "_law_words"] "_law_rule" (defScope (top 48)) f cdv A outer s H E) (defBody (top 48)) (rd__law_rule g j E) := by
  unfold rd__law_rule
  exact (pss_cons (ps_set (i := 1) sc__law_rule.nd rfl (Or.inl rfl) (pe_sm PySem.F.slot_str_split PySem.F.type_str_split m_split (cv 0) (pa_cons pe_str pa_nil)))
  (pss_cons (ps_if (pw_and (ptc (op_cEq hr.units) (pe_callB (call_cLen hr) (by rfl) (bl_len T) bt_len (pa_cons (cv 1) pa_nil)) pe_int (nomark _)) (pw_and (ptc (op_cEq hr.units) (pe_ix ix_c (cv 1) pe_int (fun _ _ => rfl)) pe_str (nomark _)) (pw_and (ptc (op_cEq hr.units) (pe_ix ix_c (cv 1) pe_int (fun _ _ => rfl)) pe_str (nomark _)) (pw_and1 (ptc op_cGe (pe_cCall (takes_of rfl rfl rfl rfl) (hr.mono (Nat.le_succ _)) (gf__law_amount T) (by rfl) (pa_cons (pe_ix ix_c (cv 1) pe_int (fun _ _ => rfl)) pa_nil)) pe_int (nomark _)))))).pt (pss_one (ps_ret (pe_lst (pa_cons pe_str (pa_cons pe_str (pa_cons pe_int (pa_cons (pe_cCall (takes_of rfl rfl rfl rfl) (hr.mono (Nat.le_succ _)) (gf__law_amount T) (by rfl) (pa_cons (pe_ix ix_c (cv 1) pe_int (fun _ _ => rfl)) pa_nil)) pa_nil))))))) pss_nil)
  (pss_cons (ps_if (pw_or (ptc (op_cNe hr.units) (pe_callB (call_cLen hr) (by rfl) (bl_len T) bt_len (pa_cons (cv 1) pa_nil)) pe_int (nomark _)) (pw_or (ptc (op_cNe hr.units) (pe_ix ix_c (cv 1) pe_int (fun _ _ => rfl)) pe_str (nomark _)) (pw_or1 (ptc (op_cNe hr.units) (pe_ix ix_c (cv 1) pe_int (fun _ _ => rfl)) pe_str (nomark _))))).pt (pss_one (ps_ret (pe_lst pa_nil))) pss_nil)
  (pss_cons (ps_if (pw_or (ptc op_cNotIn (pe_ix ix_c (cv 1) pe_int (fun _ _ => rfl)) (pe_lst (pa_cons pe_str (pa_cons pe_str (pa_cons pe_str (pa_cons pe_str (pa_cons pe_str pa_nil)))))) (by with_unfolding_all rfl)) (pw_or1 (ptc op_cNotIn (pe_ix ix_c (cv 1) pe_int (fun _ _ => rfl)) (pe_lst (pa_cons pe_str (pa_cons pe_str (pa_cons pe_str pa_nil)))) (by with_unfolding_all rfl)))).pt (pss_one (ps_ret (pe_lst pa_nil))) pss_nil)
  (pss_cons (ps_if (pw_or (ptc op_cLt (pe_cCall (takes_of rfl rfl rfl rfl) (hr.mono (Nat.le_succ _)) (gf__law_number T) (by rfl) (pa_cons (pe_ix ix_c (cv 1) pe_int (fun _ _ => rfl)) pa_nil)) pe_int (nomark _)) (pw_or1 (ptc op_cLt (pe_cCall (takes_of rfl rfl rfl rfl) (hr.mono (Nat.le_succ _)) (gf__law_amount T) (by rfl) (pa_cons (pe_ix ix_c (cv 1) pe_int (fun _ _ => rfl)) pa_nil)) pe_int (nomark _)))).pt (pss_one (ps_ret (pe_lst pa_nil))) pss_nil)
  (pss_one (ps_ret (pe_lst (pa_cons (pe_ix ix_c (cv 1) pe_int (fun _ _ => rfl)) (pa_cons (pe_ix ix_c (cv 1) pe_int (fun _ _ => rfl)) (pa_cons (pe_cCall (takes_of rfl rfl rfl rfl) (hr.mono (Nat.le_succ _)) (gf__law_number T) (by rfl) (pa_cons (pe_ix ix_c (cv 1) pe_int (fun _ _ => rfl)) pa_nil)) (pa_cons (pe_cCall (takes_of rfl rfl rfl rfl) (hr.mono (Nat.le_succ _)) (gf__law_amount T) (by rfl) (pa_cons (pe_ix ix_c (cv 1) pe_int (fun _ _ => rfl)) pa_nil)) pa_nil))))))))))))
theorem ok__law_rule {g : Wd} (T : Top g) {fd : FuncData} (F : FunD g.K "_law_rule" "_law_rule" (defArgs (top 48)) (defBody (top 48)) (defScope (top 48)) [] [] (gad g.K "_law_rule") fd) {j : Nat} {sp : Sp} (h : ∀ vs H Q E, sp vs H Q E → vs.length = 1 ∧ rd__law_rule g j E { nx := fun _ H1 => Q .non H1, rt := Q } (L2.start ["_law_line_here", "_law_words"] vs) H) : FnOk g.P g.w g.K g.mg g.base (L2.CX g.P g.w) (j + 2) (gad g.K "_law_rule") fd ["_law_line_here"] sp :=
  FunD.ok F sc__law_rule (fun vs H Q E hh => (h vs H Q E hh).1) fun cdv A outer s H vs Q E hr hh => ⟨rd__law_rule g j E, dv__law_rule T hr, (h vs H Q E hh).2⟩
theorem fk__law_rule {g : Wd} (T : Top g) (j : Nat) {sp : Sp} (h : ∀ vs H Q E, sp vs H Q E → vs.length = 1 ∧ rd__law_rule g j E { nx := fun _ H1 => Q .non H1, rt := Q } (L2.start ["_law_line_here", "_law_words"] vs) H) : FnG g (j + 2) (gad g.K "_law_rule") sp := by
  obtain ⟨fd, F⟩ := fd__law_rule T
  exact fnG_of (ok__law_rule T F h) (FunD.bindsN F fun _ _ _ _ _ _ us hl => match us, hl with | [_], _ => rfl)
theorem sc__law_holds : FnScope ["_law_rule_here", "_law_stand_here", "_law_pays_here", "_law_value_here"] ["_law_rule_here", "_law_stand_here", "_law_pays_here"] (defScope (top 49)) := ⟨rfl, rfl, rfl, by decide +kernel, rfl, by decide +kernel, by decide +kernel⟩
def rd__law_holds (g : Wd) (j : Nat) (E : XK) : TS :=
  tSeq (tIfS (cTest (tOp (cEqN g.K false) (tOp (cIx g.K) (cV 0) (tC (.int 0))) (tC (.str "else")))) (tRet (tC (.bl true))) (tNext))
  (tSeq (tAsg (cCall g j (fun cls d _ H => E cls d H) (gad g.K "_law_value") (tCons (tOp (cIx g.K) (cV 0) (tC (.int 0))) (tCons (cV 1) (tCons (cV 2) (tNil))))) (gName 3))
  (tSeq (tIfS (cTest (tOp (cEqN g.K false) (tOp (cIx g.K) (cV 0) (tC (.int 1))) (tC (.str "<=")))) (tRet (tOp cLe (cV 3) (tOp (cIx g.K) (cV 0) (tC (.int 2))))) (tNext))
  (tSeq (tIfS (cTest (tOp (cEqN g.K false) (tOp (cIx g.K) (cV 0) (tC (.int 1))) (tC (.str ">=")))) (tRet (tOp cGe (cV 3) (tOp (cIx g.K) (cV 0) (tC (.int 2))))) (tNext))
  (tRet (tOp (cEqN g.K false) (cV 3) (tOp (cIx g.K) (cV 0) (tC (.int 2))))))))
theorem dv__law_holds {g : Wd} (T : Top g) {j : Nat} {f : Addr} {cdv : Value} {A : Around} {outer : List Env} {s : Shared} {H : Hp} {E : XK} (hr : Room (j + 1) (A.deeper (envOfC "_law_holds" (defScope (top 49)) s.heap.objs.size f cdv))) :
    PSs (cxOf (L2.CX g.P g.w) g.P g.w g.K g.mg g.base ["_law_rule_here", "_law_stand_here", "_law_pays_here", "_law_value_here"] "_law_holds" (defScope (top 49)) f cdv A outer s H E) (defBody (top 49)) (rd__law_holds g j E) := by
  unfold rd__law_holds
  exact (pss_cons (ps_if (ptc (op_cEq hr.units) (pe_ix ix_c (cv 0) pe_int (fun _ _ => rfl)) pe_str (nomark _)) (pss_one (ps_ret pe_bl)) pss_nil)
  (pss_cons (ps_set (i := 3) sc__law_holds.nd rfl (Or.inl rfl) (pe_cCall (takes_of rfl rfl rfl rfl) (hr.mono (Nat.le_succ _)) (gf__law_value T) (by rfl) (pa_cons (pe_ix ix_c (cv 0) pe_int (fun _ _ => rfl)) (pa_cons (cv 1) (pa_cons (cv 2) pa_nil)))))
  (pss_cons (ps_if (ptc (op_cEq hr.units) (pe_ix ix_c (cv 0) pe_int (fun _ _ => rfl)) pe_str (nomark _)) (pss_one (ps_ret (pe_cmpR op_cLe (cv 3) (pe_ix ix_c (cv 0) pe_int (fun _ _ => rfl)) (nomark _)))) pss_nil)
  (pss_cons (ps_if (ptc (op_cEq hr.units) (pe_ix ix_c (cv 0) pe_int (fun _ _ => rfl)) pe_str (nomark _)) (pss_one (ps_ret (pe_cmpR op_cGe (cv 3) (pe_ix ix_c (cv 0) pe_int (fun _ _ => rfl)) (nomark _)))) pss_nil)
  (pss_one (ps_ret (pe_cmpR (op_cEq hr.units) (cv 3) (pe_ix ix_c (cv 0) pe_int (fun _ _ => rfl)) (nomark _))))))))
theorem ok__law_holds {g : Wd} (T : Top g) {fd : FuncData} (F : FunD g.K "_law_holds" "_law_holds" (defArgs (top 49)) (defBody (top 49)) (defScope (top 49)) [] [] (gad g.K "_law_holds") fd) {j : Nat} {sp : Sp} (h : ∀ vs H Q E, sp vs H Q E → vs.length = 3 ∧ rd__law_holds g j E { nx := fun _ H1 => Q .non H1, rt := Q } (L2.start ["_law_rule_here", "_law_stand_here", "_law_pays_here", "_law_value_here"] vs) H) : FnOk g.P g.w g.K g.mg g.base (L2.CX g.P g.w) (j + 2) (gad g.K "_law_holds") fd ["_law_rule_here", "_law_stand_here", "_law_pays_here"] sp :=
  FunD.ok F sc__law_holds (fun vs H Q E hh => (h vs H Q E hh).1) fun cdv A outer s H vs Q E hr hh => ⟨rd__law_holds g j E, dv__law_holds T hr, (h vs H Q E hh).2⟩
theorem fk__law_holds {g : Wd} (T : Top g) (j : Nat) {sp : Sp} (h : ∀ vs H Q E, sp vs H Q E → vs.length = 3 ∧ rd__law_holds g j E { nx := fun _ H1 => Q .non H1, rt := Q } (L2.start ["_law_rule_here", "_law_stand_here", "_law_pays_here", "_law_value_here"] vs) H) : FnG g (j + 2) (gad g.K "_law_holds") sp := by
  obtain ⟨fd, F⟩ := fd__law_holds T
  exact fnG_of (ok__law_holds T F h) (FunD.bindsN F fun _ _ _ _ _ _ us hl => match us, hl with | [_, _, _], _ => rfl)
theorem sc__law_due : FnScope ["_law_rules", "_law_stand_here", "_law_pays_here", "_law_rule_here"] ["_law_rules", "_law_stand_here", "_law_pays_here"] (defScope (top 50)) := ⟨rfl, rfl, rfl, by decide +kernel, rfl, by decide +kernel, by decide +kernel⟩
def rd__law_due (g : Wd) (j : Nat) (E : XK) : TS :=
  tSeq (tIfS (cTest (tOp (cEqN g.K false) (tCB (cLen g j) (tCons (tOp (cIx g.K) (cV 1) (tC (.int 0))) (tNil))) (tOp (cIx g.K) (cV 1) (tC (.int 1))))) (tRet (tC (.int 0))) (tNext))
  (tSeq (tFor (iSeq g.K (cV 0)) (gName 3) (tIfS (cTru g.K (cCall g j (fun cls d _ H => E cls d H) (gad g.K "_law_holds") (tCons (cV 3) (tCons (cV 1) (tCons (cV 2) (tNil)))))) (tRet (tCB (cMin g.K) (tCons (tOp (cIx g.K) (cV 3) (tC (.int 3))) (tCons (tOp (cIx g.K) (cV 2) (tOp cMod (tCB (cInt) (tCons (tOp (cIx g.K) (cV 1) (tC (.int 2))) (tNil))) (tCB (cLen g j) (tCons (cV 2) (tNil))))) (tCons (cStrM mCount (tOp (cIx g.K) (cV 1) (tC (.int 0))) (tCons (tC (.str "1")) (tNil))) (tNil)))))) (tNext)))
  (tRet (tC (.int 0))))
theorem dv__law_due {g : Wd} (T : Top g) {j : Nat} {f : Addr} {cdv : Value} {A : Around} {outer : List Env} {s : Shared} {H : Hp} {E : XK} (hr : Room (j + 1) (A.deeper (envOfC "_law_due" (defScope (top 50)) s.heap.objs.size f cdv))) :
    PSs (cxOf (L2.CX g.P g.w) g.P g.w g.K g.mg g.base ["_law_rules", "_law_stand_here", "_law_pays_here", "_law_rule_here"] "_law_due" (defScope (top 50)) f cdv A outer s H E) (defBody (top 50)) (rd__law_due g j E) := by
  unfold rd__law_due
  exact (pss_cons (ps_if (ptc (op_cEq hr.units) (pe_callB (call_cLen hr) (by rfl) (bl_len T) bt_len (pa_cons (pe_ix ix_c (cv 1) pe_int (fun _ _ => rfl)) pa_nil)) (pe_ix ix_c (cv 1) pe_int (fun _ _ => rfl)) (nomark _)) (pss_one (ps_ret pe_int)) pss_nil)
  (pss_cons (ps_for (passes_of rfl) rfl (pi_seq (cv 0)) (pg_name sc__law_due.nd rfl (Or.inl rfl)) (pss_one (ps_if (ptv (pe_cCall (takes_of rfl rfl rfl rfl) (hr.mono (Nat.le_succ _)) (gf__law_holds T) (by rfl) (pa_cons (cv 3) (pa_cons (cv 1) (pa_cons (cv 2) pa_nil))))) (pss_one (ps_ret (pe_callB (call_cMin rfl) (by rfl) (bl_min T) bt_min (pa_cons (pe_ix ix_c (cv 3) pe_int (fun _ _ => rfl)) (pa_cons (pe_ix ix_c (cv 2) (pe_op op_cMod (pe_callTy (call_cInt) (by rfl) (bl_int T) bt_int (pa_cons (pe_ix ix_c (cv 1) pe_int (fun _ _ => rfl)) pa_nil)) (pe_callB (call_cLen hr) (by rfl) (bl_len T) bt_len (pa_cons (cv 2) pa_nil))) (fun _ _ => rfl)) (pa_cons (pe_sm PySem.F.slot_str_count PySem.F.type_str_count m_count (pe_ix ix_c (cv 1) pe_int (fun _ _ => rfl)) (pa_cons pe_str pa_nil)) pa_nil)))))) pss_nil)))
  (pss_one (ps_ret pe_int))))
theorem ok__law_due {g : Wd} (T : Top g) {fd : FuncData} (F : FunD g.K "_law_due" "_law_due" (defArgs (top 50)) (defBody (top 50)) (defScope (top 50)) [] [] (gad g.K "_law_due") fd) {j : Nat} {sp : Sp} (h : ∀ vs H Q E, sp vs H Q E → vs.length = 3 ∧ rd__law_due g j E { nx := fun _ H1 => Q .non H1, rt := Q } (L2.start ["_law_rules", "_law_stand_here", "_law_pays_here", "_law_rule_here"] vs) H) : FnOk g.P g.w g.K g.mg g.base (L2.CX g.P g.w) (j + 2) (gad g.K "_law_due") fd ["_law_rules", "_law_stand_here", "_law_pays_here"] sp :=
  FunD.ok F sc__law_due (fun vs H Q E hh => (h vs H Q E hh).1) fun cdv A outer s H vs Q E hr hh => ⟨rd__law_due g j E, dv__law_due T hr, (h vs H Q E hh).2⟩
theorem fk__law_due {g : Wd} (T : Top g) (j : Nat) {sp : Sp} (h : ∀ vs H Q E, sp vs H Q E → vs.length = 3 ∧ rd__law_due g j E { nx := fun _ H1 => Q .non H1, rt := Q } (L2.start ["_law_rules", "_law_stand_here", "_law_pays_here", "_law_rule_here"] vs) H) : FnG g (j + 2) (gad g.K "_law_due") sp := by
  obtain ⟨fd, F⟩ := fd__law_due T
  exact fnG_of (ok__law_due T F h) (FunD.bindsN F fun _ _ _ _ _ _ us hl => match us, hl with | [_, _, _], _ => rfl)
theorem sc__law_first_bad : FnScope ["_law_text_here", "_law_lines", "_law_k"] ["_law_text_here"] (defScope (top 51)) := ⟨rfl, rfl, rfl, by decide +kernel, rfl, by decide +kernel, by decide +kernel⟩
def rd__law_first_bad (g : Wd) (j : Nat) (E : XK) : TS :=
  tSeq (tAsg (cStrM mSplit (cV 0) (tCons (tC (.str "\n")) (tNil))) (gName 1))
  (tSeq (tFor (iRng1 (tCons (tCB (cLen g j) (tCons (cV 1) (tNil))) (tNil))) (gName 2) (tIfS (cTest (tOp (cEqN g.K false) (cCall g j (fun cls d _ H => E cls d H) (gad g.K "_law_rule") (tCons (tOp (cIx g.K) (cV 1) (cV 2)) (tNil))) (tLst (tNil)))) (tRet (tOp (cAdd g.K noOw) (cV 2) (tC (.int 1)))) (tNext)))
  (tRet (tC (.int 0))))
theorem dv__law_first_bad {g : Wd} (T : Top g) {j : Nat} {f : Addr} {cdv : Value} {A : Around} {outer : List Env} {s : Shared} {H : Hp} {E : XK} (hr : Room (j + 1) (A.deeper (envOfC "_law_first_bad" (defScope (top 51)) s.heap.objs.size f cdv))) :
    PSs (cxOf (L2.CX g.P g.w) g.P g.w g.K g.mg g.base ["_law_text_here", "_law_lines", "_law_k"] "_law_first_bad" (defScope (top 51)) f cdv A outer s H E) (defBody (top 51)) (rd__law_first_bad g j E) := by
  unfold rd__law_first_bad
  exact (pss_cons (ps_set (i := 1) sc__law_first_bad.nd rfl (Or.inl rfl) (pe_sm PySem.F.slot_str_split PySem.F.type_str_split m_split (cv 0) (pa_cons pe_str pa_nil)))
  (pss_cons (ps_for (passes_of rfl) rfl (pi_range1 (by rfl) (bl_range T) (pa_cons (pe_callB (call_cLen hr) (by rfl) (bl_len T) bt_len (pa_cons (cv 1) pa_nil)) pa_nil)) (pg_name sc__law_first_bad.nd rfl (Or.inl rfl)) (pss_one (ps_if (ptc (op_cEq hr.units) (pe_cCall (takes_of rfl rfl rfl rfl) (hr.mono (Nat.le_succ _)) (gf__law_rule T) (by rfl) (pa_cons (pe_ix ix_c (cv 1) (cv 2) (fun _ _ => rfl)) pa_nil)) (pe_lst pa_nil) (nomark _)) (pss_one (ps_ret (pe_op (op_cAdd noOw_ok) (cv 2) pe_int))) pss_nil)))
  (pss_one (ps_ret pe_int))))
theorem ok__law_first_bad {g : Wd} (T : Top g) {fd : FuncData} (F : FunD g.K "_law_first_bad" "_law_first_bad" (defArgs (top 51)) (defBody (top 51)) (defScope (top 51)) [] [] (gad g.K "_law_first_bad") fd) {j : Nat} {sp : Sp} (h : ∀ vs H Q E, sp vs H Q E → vs.length = 1 ∧ rd__law_first_bad g j E { nx := fun _ H1 => Q .non H1, rt := Q } (L2.start ["_law_text_here", "_law_lines", "_law_k"] vs) H) : FnOk g.P g.w g.K g.mg g.base (L2.CX g.P g.w) (j + 2) (gad g.K "_law_first_bad") fd ["_law_text_here"] sp :=
  FunD.ok F sc__law_first_bad (fun vs H Q E hh => (h vs H Q E hh).1) fun cdv A outer s H vs Q E hr hh => ⟨rd__law_first_bad g j E, dv__law_first_bad T hr, (h vs H Q E hh).2⟩
theorem fk__law_first_bad {g : Wd} (T : Top g) (j : Nat) {sp : Sp} (h : ∀ vs H Q E, sp vs H Q E → vs.length = 1 ∧ rd__law_first_bad g j E { nx := fun _ H1 => Q .non H1, rt := Q } (L2.start ["_law_text_here", "_law_lines", "_law_k"] vs) H) : FnG g (j + 2) (gad g.K "_law_first_bad") sp := by
  obtain ⟨fd, F⟩ := fd__law_first_bad T
  exact fnG_of (ok__law_first_bad T F h) (FunD.bindsN F fun _ _ _ _ _ _ us hl => match us, hl with | [_], _ => rfl)
theorem sc__law_refused : FnScope ["_law_text_here", "_law_due_here", "raised"] ["_law_text_here", "_law_due_here"] (defScope (top 52)) := ⟨rfl, rfl, rfl, by decide +kernel, rfl, by decide +kernel, by decide +kernel⟩
def rd__law_refused (g : Wd) (j : Nat) (E : XK) : TS :=
  tSeq (cTry g.K (.ref (gad g.K "BadRule")) 2 (fun W1 => tDrop (cMake g j W1 (gad g.K "RuleKeeper") (tCons (cV 0) (tNil)))) (fun a cls d => tSeq (tIfS (tOr (tNot (cTru g.K (cCallX g j a cls d (gad g.K "_law_is_count") (tCons (cXf g.K a cls d (cV 2) "line") (tNil))))) (tOr (cTest (tOp (cEqN g.K true) (cXf g.K a cls d (cV 2) "line") (cV 1))) (cTru g.K (tCB (cIsx g.K a cls d) (tCons (cV 2) (tCons (cGv g "InvalidInput") (tNil))))))) (tRet (tC (.bl false))) (tNext))
  (tRet (cAndV (tCB (cIsx g.K a cls d) (tCons (cV 2) (tCons (cGv g "StoreError") (tNil)))) (tCB (cIsx g.K a cls d) (tCons (cV 2) (tCons (tC (.ty "ValueError")) (tNil))))))) (fun cls d _ H => E cls d H))
  (tRet (tC (.bl false)))
theorem dv__law_refused {g : Wd} (T : Top g) {j : Nat} {f : Addr} {cdv : Value} {A : Around} {outer : List Env} {s : Shared} {H : Hp} {E : XK} (hr : Room (j + 1) (A.deeper (envOfC "_law_refused" (defScope (top 52)) s.heap.objs.size f cdv))) :
    PSs (cxOf (L2.CX g.P g.w) g.P g.w g.K g.mg g.base ["_law_text_here", "_law_due_here", "raised"] "_law_refused" (defScope (top 52)) f cdv A outer s H E) (defBody (top 52)) (rd__law_refused g j E) := by
  unfold rd__law_refused
  exact (pss_cons (ps_cTry (Wout := (fun cls d _ H => E cls d H)) (c := .ref (gad g.K "BadRule")) (i := 2) (ts := fun a cls d => tSeq (tIfS (tOr (tNot (cTru g.K (cCallX g j a cls d (gad g.K "_law_is_count") (tCons (cXf g.K a cls d (cV 2) "line") (tNil))))) (tOr (cTest (tOp (cEqN g.K true) (cXf g.K a cls d (cV 2) "line") (cV 1))) (cTru g.K (tCB (cIsx g.K a cls d) (tCons (cV 2) (tCons (cGv g "InvalidInput") (tNil))))))) (tRet (tC (.bl false))) (tNext))
  (tRet (cAndV (tCB (cIsx g.K a cls d) (tCons (cV 2) (tCons (cGv g "StoreError") (tNil)))) (tCB (cIsx g.K a cls d) (tCons (cV 2) (tCons (tC (.ty "ValueError")) (tNil))))))) rfl rfl sc__law_refused.nd rfl rfl (by exact ⟨rfl, by decide, .inl (gf_BadRule T).mg⟩) (takes_of rfl rfl rfl rfl) (fun W1 pn xe tk1 hpass => (pss_one (ps_expr (pe_cMake tk1 (hr.mono (Nat.le_succ _)) (gf_RuleKeeper T) (by rfl) (pa_cons (cv 0) pa_nil))))) (fun a oe cls d pn hz hv => (pss_cons (ps_if (pw_or (pt_not (ptv (pe_cCallX (p := (a, oe)) (roomH_mark (hr.mono (Nat.le_succ _))) List.mem_cons_self hz hv (gf__law_is_count T) (by rfl) (pa_cons (pe_cXf (p := (a, oe)) List.mem_cons_self hz hv (cv 2)) pa_nil)))) (pw_or (ptc (op_cNe hr.units) (pe_cXf (p := (a, oe)) List.mem_cons_self hz hv (cv 2)) (cv 1) (nomark _)) (pw_or1 (ptv (pe_callB (call_cIsx (p := (a, oe)) List.mem_cons_self hz hv) (by rfl) (bl_isinstance T) bt_isinstance (pa_cons (cv 2) (pa_cons (pe_cGv (by rfl)) pa_nil))))))).pt (pss_one (ps_ret pe_bl)) pss_nil)
  (pss_one (ps_ret (pe_cAnd (pe_callB (call_cIsx (p := (a, oe)) List.mem_cons_self hz hv) (by rfl) (bl_isinstance T) bt_isinstance (pa_cons (cv 2) (pa_cons (pe_cGv (by rfl)) pa_nil))) (pe_one (pe_callB (call_cIsx (p := (a, oe)) List.mem_cons_self hz hv) (by rfl) (bl_isinstance T) bt_isinstance (pa_cons (cv 2) (pa_cons (pe_bltn (v := .ty "ValueError") (by rfl) (bl_ValueError T) bt_ValueError (by rfl)) pa_nil))))))))))
  (pss_one (ps_ret pe_bl)))
theorem ok__law_refused {g : Wd} (T : Top g) {fd : FuncData} (F : FunD g.K "_law_refused" "_law_refused" (defArgs (top 52)) (defBody (top 52)) (defScope (top 52)) [] [] (gad g.K "_law_refused") fd) {j : Nat} {sp : Sp} (h : ∀ vs H Q E, sp vs H Q E → vs.length = 2 ∧ rd__law_refused g j E { nx := fun _ H1 => Q .non H1, rt := Q } (L2.start ["_law_text_here", "_law_due_here", "raised"] vs) H) : FnOk g.P g.w g.K g.mg g.base (L2.CX g.P g.w) (j + 2) (gad g.K "_law_refused") fd ["_law_text_here", "_law_due_here"] sp :=
  FunD.ok F sc__law_refused (fun vs H Q E hh => (h vs H Q E hh).1) fun cdv A outer s H vs Q E hr hh => ⟨rd__law_refused g j E, dv__law_refused T hr, (h vs H Q E hh).2⟩
theorem fk__law_refused {g : Wd} (T : Top g) (j : Nat) {sp : Sp} (h : ∀ vs H Q E, sp vs H Q E → vs.length = 2 ∧ rd__law_refused g j E { nx := fun _ H1 => Q .non H1, rt := Q } (L2.start ["_law_text_here", "_law_due_here", "raised"] vs) H) : FnG g (j + 2) (gad g.K "_law_refused") sp := by
  obtain ⟨fd, F⟩ := fd__law_refused T
  exact fnG_of (ok__law_refused T F h) (FunD.bindsN F fun _ _ _ _ _ _ us hl => match us, hl with | [_, _], _ => rfl)
theorem sc__law_healed : FnScope ["_law_text_here", "_law_lines", "_law_line_here"] ["_law_text_here"] (defScope (top 53)) := ⟨rfl, rfl, rfl, by decide +kernel, rfl, by decide +kernel, by decide +kernel⟩
def rd__law_healed (g : Wd) (j : Nat) (E : XK) : TS :=
  tSeq (tAsg (tLst (tNil)) (gName 1))
  (tSeq (tFor (iSeq g.K (cStrM mSplit (cV 0) (tCons (tC (.str "\n")) (tNil)))) (gName 2) (tSeq (tIfS (cTest (tOp (cEqN g.K false) (cCall g j (fun cls d _ H => E cls d H) (gad g.K "_law_rule") (tCons (cV 2) (tNil))) (tLst (tNil)))) (tAsg (tC (.str "when budget >= 002 carry 3")) (gName 2)) (tNext))
  (tDrop (cApp g.K (cV 1) (tCons (cV 2) (tNil))))))
  (tRet (cStrM (mJoin g.K) (tC (.str "\n")) (tCons (cV 1) (tNil)))))
theorem dv__law_healed {g : Wd} (T : Top g) {j : Nat} {f : Addr} {cdv : Value} {A : Around} {outer : List Env} {s : Shared} {H : Hp} {E : XK} (hr : Room (j + 1) (A.deeper (envOfC "_law_healed" (defScope (top 53)) s.heap.objs.size f cdv))) :
    PSs (cxOf (L2.CX g.P g.w) g.P g.w g.K g.mg g.base ["_law_text_here", "_law_lines", "_law_line_here"] "_law_healed" (defScope (top 53)) f cdv A outer s H E) (defBody (top 53)) (rd__law_healed g j E) := by
  unfold rd__law_healed
  exact (pss_cons (ps_set (i := 1) sc__law_healed.nd rfl (Or.inl rfl) (pe_lst pa_nil))
  (pss_cons (ps_for (passes_of rfl) rfl (pi_seq (pe_sm PySem.F.slot_str_split PySem.F.type_str_split m_split (cv 0) (pa_cons pe_str pa_nil))) (pg_name sc__law_healed.nd rfl (Or.inl rfl)) (pss_cons (ps_if (ptc (op_cEq hr.units) (pe_cCall (takes_of rfl rfl rfl rfl) (hr.mono (Nat.le_succ _)) (gf__law_rule T) (by rfl) (pa_cons (cv 2) pa_nil)) (pe_lst pa_nil) (nomark _)) (pss_one (ps_set (i := 2) sc__law_healed.nd rfl (Or.inl rfl) pe_str)) pss_nil)
  (pss_one (ps_expr (pe_cApp (cv 1) (pa_cons (cv 2) pa_nil))))))
  (pss_one (ps_ret (pe_sm PySem.F.slot_str_join PySem.F.type_str_join m_join pe_str (pa_cons (cv 1) pa_nil))))))
theorem ok__law_healed {g : Wd} (T : Top g) {fd : FuncData} (F : FunD g.K "_law_healed" "_law_healed" (defArgs (top 53)) (defBody (top 53)) (defScope (top 53)) [] [] (gad g.K "_law_healed") fd) {j : Nat} {sp : Sp} (h : ∀ vs H Q E, sp vs H Q E → vs.length = 1 ∧ rd__law_healed g j E { nx := fun _ H1 => Q .non H1, rt := Q } (L2.start ["_law_text_here", "_law_lines", "_law_line_here"] vs) H) : FnOk g.P g.w g.K g.mg g.base (L2.CX g.P g.w) (j + 2) (gad g.K "_law_healed") fd ["_law_text_here"] sp :=
  FunD.ok F sc__law_healed (fun vs H Q E hh => (h vs H Q E hh).1) fun cdv A outer s H vs Q E hr hh => ⟨rd__law_healed g j E, dv__law_healed T hr, (h vs H Q E hh).2⟩
theorem fk__law_healed {g : Wd} (T : Top g) (j : Nat) {sp : Sp} (h : ∀ vs H Q E, sp vs H Q E → vs.length = 1 ∧ rd__law_healed g j E { nx := fun _ H1 => Q .non H1, rt := Q } (L2.start ["_law_text_here", "_law_lines", "_law_line_here"] vs) H) : FnG g (j + 2) (gad g.K "_law_healed") sp := by
  obtain ⟨fd, F⟩ := fd__law_healed T
  exact fnG_of (ok__law_healed T F h) (FunD.bindsN F fun _ _ _ _ _ _ us hl => match us, hl with | [_], _ => rfl)
theorem sc__law_chooses : FnScope ["_law_keeper", "_law_text_here", "_law_stand_here", "_law_pays_here", "_law_made", "_law_rules", "_law_line_here", "_law_told"] ["_law_keeper", "_law_text_here", "_law_stand_here", "_law_pays_here", "_law_made"] (defScope (top 54)) := ⟨rfl, rfl, rfl, by decide +kernel, rfl, by decide +kernel, by decide +kernel⟩
def rd__law_chooses (g : Wd) (j : Nat) (E : XK) : TS :=
  tSeq (tAsg (tLc (iSeq g.K (cStrM mSplit (cV 1) (tCons (tC (.str "\n")) (tNil)))) (gName 6) (tYes) (cCall g j (fun _ _ _ _ => False) (gad g.K "_law_rule") (tCons (cV 6) (tNil))) [6]) (gName 5))
  (tSeq (tAsg (cMeth g j (fun cls d _ H => E cls d H) "choose" (cV 0) (tCons (tOp (cIx g.K) (cV 2) (tC (.int 0))) (tCons (tOp (cIx g.K) (cV 2) (tC (.int 1))) (tCons (cV 4) (tCons (tOp (cIx g.K) (cV 2) (tC (.int 2))) (tNil)))))) (gName 7))
  (tSeq (tIfS (tOr (tNot (cTru g.K (cCall g j (fun cls d _ H => E cls d H) (gad g.K "_law_is_count") (tCons (cV 7) (tNil))))) (cTest (tOp (cEqN g.K true) (cV 7) (cCall g j (fun cls d _ H => E cls d H) (gad g.K "_law_due") (tCons (cV 5) (tCons (cV 2) (tCons (cV 3) (tNil)))))))) (tRet (tC (.bl false))) (tNext))
  (tRet (cAndV (tCB (cIsi g.K) (tCons (cV 0) (tCons (cGv g "Keeper") (tNil)))) (tOp (cEqN g.K false) (cMeth g j (fun cls d _ H => E cls d H) "label" (cV 0) tNil) (tOp (cAdd g.K noOw) (tC (.str "rule ")) (tCB (cStr) (tCons (tCB (cLen g j) (tCons (cV 5) (tNil))) (tNil)))))))))
theorem dv__law_chooses {g : Wd} (T : Top g) {j : Nat} {f : Addr} {cdv : Value} {A : Around} {outer : List Env} {s : Shared} {H : Hp} {E : XK} (hr : Room (j + 1) (A.deeper (envOfC "_law_chooses" (defScope (top 54)) s.heap.objs.size f cdv))) :
    PSs (cxOf (L2.CX g.P g.w) g.P g.w g.K g.mg g.base ["_law_keeper", "_law_text_here", "_law_stand_here", "_law_pays_here", "_law_made", "_law_rules", "_law_line_here", "_law_told"] "_law_chooses" (defScope (top 54)) f cdv A outer s H E) (defBody (top 54)) (rd__law_chooses g j E) := by
  unfold rd__law_chooses
  exact (pss_cons (ps_setLc (i := 5) rfl sc__law_chooses.nd rfl rfl (sw_true rfl rfl rfl (by decide +kernel)) (pi_seq (pe_sm PySem.F.slot_str_split PySem.F.type_str_split m_split (cv 1) (pa_cons pe_str pa_nil))) (blkOk_by (own := [("_law_line_here", 6)]) (by change blkC ["_law_keeper", "_law_text_here", "_law_stand_here", "_law_pays_here", "_law_made", "_law_rules", "_law_line_here", "_law_told"] (defScope (top 54)) _ _ = true; decide +kernel)) (fun s H C cl fp => (pg_name sc__law_chooses.nd rfl (Or.inl rfl))) (fun s H C cl fp => pts_nil) (fun s H C cl fp => (pe_cCall takes0 (hr.mono (Nat.le_succ _)) (gf__law_rule T) (by rfl) (pa_cons (cv 6) pa_nil))))
  (pss_cons (ps_set (i := 7) sc__law_chooses.nd rfl (Or.inl rfl) (pe_cMeth (takes_of rfl rfl rfl rfl) (hr.mono (Nat.le_succ _)) (cv 0) (pa_cons (pe_ix ix_c (cv 2) pe_int (fun _ _ => rfl)) (pa_cons (pe_ix ix_c (cv 2) pe_int (fun _ _ => rfl)) (pa_cons (cv 4) (pa_cons (pe_ix ix_c (cv 2) pe_int (fun _ _ => rfl)) pa_nil))))))
  (pss_cons (ps_if (pw_or (pt_not (ptv (pe_cCall (takes_of rfl rfl rfl rfl) (hr.mono (Nat.le_succ _)) (gf__law_is_count T) (by rfl) (pa_cons (cv 7) pa_nil)))) (pw_or1 (ptc (op_cNe hr.units) (cv 7) (pe_cCall (takes_of rfl rfl rfl rfl) (hr.mono (Nat.le_succ _)) (gf__law_due T) (by rfl) (pa_cons (cv 5) (pa_cons (cv 2) (pa_cons (cv 3) pa_nil)))) (nomark _)))).pt (pss_one (ps_ret pe_bl)) pss_nil)
  (pss_one (ps_ret (pe_cAnd (pe_callB (call_cIsi) (by rfl) (bl_isinstance T) bt_isinstance (pa_cons (cv 0) (pa_cons (pe_cGv (by rfl)) pa_nil))) (pe_one (pe_cmpR (op_cEq hr.units) (pe_cMeth0 (takes_of rfl rfl rfl rfl) (hr.mono (Nat.le_succ _)) (cv 0)) (pe_op (op_cAdd noOw_ok) pe_str (pe_callTy (call_cStr) (by rfl) (bl_str T) bt_str (pa_cons (pe_callB (call_cLen hr) (by rfl) (bl_len T) bt_len (pa_cons (cv 5) pa_nil)) pa_nil))) (nomark _)))))))))
theorem ok__law_chooses {g : Wd} (T : Top g) {fd : FuncData} (F : FunD g.K "_law_chooses" "_law_chooses" (defArgs (top 54)) (defBody (top 54)) (defScope (top 54)) [] [] (gad g.K "_law_chooses") fd) {j : Nat} {sp : Sp} (h : ∀ vs H Q E, sp vs H Q E → vs.length = 5 ∧ rd__law_chooses g j E { nx := fun _ H1 => Q .non H1, rt := Q } (L2.start ["_law_keeper", "_law_text_here", "_law_stand_here", "_law_pays_here", "_law_made", "_law_rules", "_law_line_here", "_law_told"] vs) H) : FnOk g.P g.w g.K g.mg g.base (L2.CX g.P g.w) (j + 2) (gad g.K "_law_chooses") fd ["_law_keeper", "_law_text_here", "_law_stand_here", "_law_pays_here", "_law_made"] sp :=
  FunD.ok F sc__law_chooses (fun vs H Q E hh => (h vs H Q E hh).1) fun cdv A outer s H vs Q E hr hh => ⟨rd__law_chooses g j E, dv__law_chooses T hr, (h vs H Q E hh).2⟩
theorem fk__law_chooses {g : Wd} (T : Top g) (j : Nat) {sp : Sp} (h : ∀ vs H Q E, sp vs H Q E → vs.length = 5 ∧ rd__law_chooses g j E { nx := fun _ H1 => Q .non H1, rt := Q } (L2.start ["_law_keeper", "_law_text_here", "_law_stand_here", "_law_pays_here", "_law_made", "_law_rules", "_law_line_here", "_law_told"] vs) H) : FnG g (j + 2) (gad g.K "_law_chooses") sp := by
  obtain ⟨fd, F⟩ := fd__law_chooses T
  exact fnG_of (ok__law_chooses T F h) (FunD.bindsN F fun _ _ _ _ _ _ us hl => match us, hl with | [_, _, _, _, _], _ => rfl)
theorem sc_law : FnScope ["_law_script", "_law_box_here", "_law_pays_here", "_law_made", "_law_stands", "_law_k", "_law_texts", "_law_keepers", "_law_text_here", "_law_stand_here"] ["_law_script"] (defScope (top 55)) := ⟨rfl, rfl, rfl, by decide +kernel, rfl, by decide +kernel, by decide +kernel⟩
def rd_law (g : Wd) (j : Nat) (E : XK) : TS :=
  tSeq (tAsg (cCall g j (fun cls d _ H => E cls d H) (gad g.K "_law_box") (tCons (cV 0) (tCons (tC (.int 0)) (tNil)))) (gName 1))
  (tSeq (tAsg (cCall g j (fun cls d _ H => E cls d H) (gad g.K "_law_pays") (tCons (cV 0) (tCons (cCall g j (fun cls d _ H => E cls d H) (gad g.K "_law_box") (tCons (cV 0) (tCons (tC (.int 1)) (tNil)))) (tNil)))) (gName 2))
  (tSeq (tAsg (cCall g j (fun cls d _ H => E cls d H) (gad g.K "_law_round") (tCons (cV 2) (tNil))) (gName 3))
  (tSeq (tAsg (tLst (tNil)) (gName 4))
  (tSeq (tFor (iRng1 (tCons (tC (.int 3)) (tNil))) (gName 5) (tDrop (cApp g.K (cV 4) (tCons (cCall g j (fun cls d _ H => E cls d H) (gad g.K "_law_stand") (tCons (cV 0) (tCons (cV 1) (tNil)))) (tNil)))))
  (tSeq (tAsg (tLst (tNil)) (gName 6))
  (tSeq (tAsg (tLst (tNil)) (gName 7))
  (tSeq (tFor (iRng1 (tCons (tC (.int 2)) (tNil))) (gName 5) (tSeq (tAsg (cCall g j (fun cls d _ H => E cls d H) (gad g.K "_law_text") (tCons (cV 0) (tCons (cCall g j (fun cls d _ H => E cls d H) (gad g.K "_law_box") (tCons (cV 0) (tCons (tOp (cAdd g.K noOw) (tC (.int 2)) (cV 5)) (tNil)))) (tCons (cV 4) (tCons (cV 2) (tNil)))))) (gName 8))
  (tSeq (tIfS (cTest (tOp cGt (cCall g j (fun cls d _ H => E cls d H) (gad g.K "_law_first_bad") (tCons (cV 8) (tNil))) (tC (.int 0)))) (tSeq (tIfS (tNot (cTru g.K (cCall g j (fun cls d _ H => E cls d H) (gad g.K "_law_refused") (tCons (cV 8) (tCons (cCall g j (fun cls d _ H => E cls d H) (gad g.K "_law_first_bad") (tCons (cV 8) (tNil))) (tNil)))))) (tRet (tC (.bl false))) (tNext))
  (tAsg (cCall g j (fun cls d _ H => E cls d H) (gad g.K "_law_healed") (tCons (cV 8) (tNil))) (gName 8))) (tNext))
  (tSeq (tDrop (cApp g.K (cV 6) (tCons (cV 8) (tNil))))
  (tDrop (cApp g.K (cV 7) (tCons (cMake g j (fun cls d _ H => E cls d H) (gad g.K "RuleKeeper") (tCons (cV 8) (tNil))) (tNil))))))))
  (tSeq (tFor (iSeq g.K (tOp (cAdd g.K noOw) (cV 4) (tSl (cSl g.K) (cV 4) (tNoPart) (cPart (tC (.int 1)))))) (gName 9) (tFor (iRng1 (tCons (tC (.int 2)) (tNil))) (gName 5) (tIfS (tNot (cTru g.K (cCall g j (fun cls d _ H => E cls d H) (gad g.K "_law_chooses") (tCons (tOp (cIx g.K) (cV 7) (cV 5)) (tCons (tOp (cIx g.K) (cV 6) (cV 5)) (tCons (cV 9) (tCons (cV 2) (tCons (cV 3) (tNil))))))))) (tRet (tC (.bl false))) (tNext))))
  (tRet (cAndV (cCall g j (fun cls d _ H => E cls d H) (gad g.K "_law_refused") (tCons (tC (.str "")) (tCons (tC (.int 1)) (tNil)))) (tOp (cEqN g.K false) (cProp g j (cV 3) "budgets") (cV 2))))))))))))
theorem dv_law {g : Wd} (T : Top g) {j : Nat} {f : Addr} {cdv : Value} {A : Around} {outer : List Env} {s : Shared} {H : Hp} {E : XK} (hr : Room (j + 1) (A.deeper (envOfC "law" (defScope (top 55)) s.heap.objs.size f cdv))) :
    PSs (cxOf (L2.CX g.P g.w) g.P g.w g.K g.mg g.base ["_law_script", "_law_box_here", "_law_pays_here", "_law_made", "_law_stands", "_law_k", "_law_texts", "_law_keepers", "_law_text_here", "_law_stand_here"] "law" (defScope (top 55)) f cdv A outer s H E) (defBody (top 55)) (rd_law g j E) := by
  unfold rd_law
  exact (pss_cons (ps_set (i := 1) sc_law.nd rfl (Or.inl rfl) (pe_cCall (takes_of rfl rfl rfl rfl) (hr.mono (Nat.le_succ _)) (gf__law_box T) (by rfl) (pa_cons (cv 0) (pa_cons pe_int pa_nil))))
  (pss_cons (ps_set (i := 2) sc_law.nd rfl (Or.inl rfl) (pe_cCall (takes_of rfl rfl rfl rfl) (hr.mono (Nat.le_succ _)) (gf__law_pays T) (by rfl) (pa_cons (cv 0) (pa_cons (pe_cCall (takes_of rfl rfl rfl rfl) (hr.mono (Nat.le_succ _)) (gf__law_box T) (by rfl) (pa_cons (cv 0) (pa_cons pe_int pa_nil))) pa_nil))))
  (pss_cons (ps_set (i := 3) sc_law.nd rfl (Or.inl rfl) (pe_cCall (takes_of rfl rfl rfl rfl) (hr.mono (Nat.le_succ _)) (gf__law_round T) (by rfl) (pa_cons (cv 2) pa_nil)))
  (pss_cons (ps_set (i := 4) sc_law.nd rfl (Or.inl rfl) (pe_lst pa_nil))
  (pss_cons (ps_for (passes_of rfl) rfl (pi_range1 (by rfl) (bl_range T) (pa_cons pe_int pa_nil)) (pg_name sc_law.nd rfl (Or.inl rfl)) (pss_one (ps_expr (pe_cApp (cv 4) (pa_cons (pe_cCall (takes_of rfl rfl rfl rfl) (hr.mono (Nat.le_succ _)) (gf__law_stand T) (by rfl) (pa_cons (cv 0) (pa_cons (cv 1) pa_nil))) pa_nil)))))
  (pss_cons (ps_set (i := 6) sc_law.nd rfl (Or.inl rfl) (pe_lst pa_nil))
  (pss_cons (ps_set (i := 7) sc_law.nd rfl (Or.inl rfl) (pe_lst pa_nil))
  (pss_cons (ps_for (passes_of rfl) rfl (pi_range1 (by rfl) (bl_range T) (pa_cons pe_int pa_nil)) (pg_name sc_law.nd rfl (Or.inl rfl)) (pss_cons (ps_set (i := 8) sc_law.nd rfl (Or.inl rfl) (pe_cCall (takes_of rfl rfl rfl rfl) (hr.mono (Nat.le_succ _)) (gf__law_text T) (by rfl) (pa_cons (cv 0) (pa_cons (pe_cCall (takes_of rfl rfl rfl rfl) (hr.mono (Nat.le_succ _)) (gf__law_box T) (by rfl) (pa_cons (cv 0) (pa_cons (pe_op (op_cAdd noOw_ok) pe_int (cv 5)) pa_nil))) (pa_cons (cv 4) (pa_cons (cv 2) pa_nil))))))
  (pss_cons (ps_if (ptc op_cGt (pe_cCall (takes_of rfl rfl rfl rfl) (hr.mono (Nat.le_succ _)) (gf__law_first_bad T) (by rfl) (pa_cons (cv 8) pa_nil)) pe_int (nomark _)) (pss_cons (ps_if (pt_not (ptv (pe_cCall (takes_of rfl rfl rfl rfl) (hr.mono (Nat.le_succ _)) (gf__law_refused T) (by rfl) (pa_cons (cv 8) (pa_cons (pe_cCall (takes_of rfl rfl rfl rfl) (hr.mono (Nat.le_succ _)) (gf__law_first_bad T) (by rfl) (pa_cons (cv 8) pa_nil)) pa_nil))))) (pss_one (ps_ret pe_bl)) pss_nil)
  (pss_one (ps_set (i := 8) sc_law.nd rfl (Or.inl rfl) (pe_cCall (takes_of rfl rfl rfl rfl) (hr.mono (Nat.le_succ _)) (gf__law_healed T) (by rfl) (pa_cons (cv 8) pa_nil))))) pss_nil)
  (pss_cons (ps_expr (pe_cApp (cv 6) (pa_cons (cv 8) pa_nil)))
  (pss_one (ps_expr (pe_cApp (cv 7) (pa_cons (pe_cMake (takes_of rfl rfl rfl rfl) (hr.mono (Nat.le_succ _)) (gf_RuleKeeper T) (by rfl) (pa_cons (cv 8) pa_nil)) pa_nil))))))))
  (pss_cons (ps_for (passes_of rfl) rfl (pi_seq (pe_op (op_cAdd noOw_ok) (cv 4) (pe_slice sl_c (cv 4) po_none (po_c pe_int)))) (pg_name sc_law.nd rfl (Or.inl rfl)) (pss_one (ps_for (passes_of rfl) rfl (pi_range1 (by rfl) (bl_range T) (pa_cons pe_int pa_nil)) (pg_name sc_law.nd rfl (Or.inl rfl)) (pss_one (ps_if (pt_not (ptv (pe_cCall (takes_of rfl rfl rfl rfl) (hr.mono (Nat.le_succ _)) (gf__law_chooses T) (by rfl) (pa_cons (pe_ix ix_c (cv 7) (cv 5) (fun _ _ => rfl)) (pa_cons (pe_ix ix_c (cv 6) (cv 5) (fun _ _ => rfl)) (pa_cons (cv 9) (pa_cons (cv 2) (pa_cons (cv 3) pa_nil)))))))) (pss_one (ps_ret pe_bl)) pss_nil)))))
  (pss_one (ps_ret (pe_cAnd (pe_cCall (takes_of rfl rfl rfl rfl) (hr.mono (Nat.le_succ _)) (gf__law_refused T) (by rfl) (pa_cons pe_str (pa_cons pe_int pa_nil))) (pe_one (pe_cmpR (op_cEq hr.units) (pe_cProp hr (cv 3)) (cv 2) (nomark _)))))))))))))))
theorem ok_law {g : Wd} (T : Top g) {fd : FuncData} (F : FunD g.K "law" "law" (defArgs (top 55)) (defBody (top 55)) (defScope (top 55)) [] [] (gad g.K "law") fd) {j : Nat} {sp : Sp} (h : ∀ vs H Q E, sp vs H Q E → vs.length = 1 ∧ rd_law g j E { nx := fun _ H1 => Q .non H1, rt := Q } (L2.start ["_law_script", "_law_box_here", "_law_pays_here", "_law_made", "_law_stands", "_law_k", "_law_texts", "_law_keepers", "_law_text_here", "_law_stand_here"] vs) H) : FnOk g.P g.w g.K g.mg g.base (L2.CX g.P g.w) (j + 2) (gad g.K "law") fd ["_law_script"] sp :=
  FunD.ok F sc_law (fun vs H Q E hh => (h vs H Q E hh).1) fun cdv A outer s H vs Q E hr hh => ⟨rd_law g j E, dv_law T hr, (h vs H Q E hh).2⟩
theorem fk_law {g : Wd} (T : Top g) (j : Nat) {sp : Sp} (h : ∀ vs H Q E, sp vs H Q E → vs.length = 1 ∧ rd_law g j E { nx := fun _ H1 => Q .non H1, rt := Q } (L2.start ["_law_script", "_law_box_here", "_law_pays_here", "_law_made", "_law_stands", "_law_k", "_law_texts", "_law_keepers", "_law_text_here", "_law_stand_here"] vs) H) : FnG g (j + 2) (gad g.K "law") sp := by
  obtain ⟨fd, F⟩ := fd_law T
  exact fnG_of (ok_law T F h) (FunD.bindsN F fun _ _ _ _ _ _ us hl => match us, hl with | [_], _ => rfl)
end
end Lw
namespace Lw
open PySem PySem.Spec PyProof.Rows L2 Cy
abbrev ii : Str := "InvalidInput"
/-- what an exception's field is -/
def okF (v : V) : Prop := ∃ z : Str, v = .str z ∧ z.length ≤ 100
theorem len_app (a b : Str) : (a ++ b).length = a.length + b.length := by
  first
  | exact Str.length_append a b
  | simp [Str.length]
theorem fn_ii {g : Wd} (T : Top g) : FnG g 1 (mad g.K (gad g.K "InvalidInput") "__init__") (spSup (gad g.K "InvalidInput") "field" okF) := by
  obtain ⟨cc, cdv, S⟩ := su_InvalidInput T
  refine sup_fn (k := 0) (tj := cJoin [tC (.str "invalid value of "), cFmt (cV 1)]) S (ox_InvalidInput T) (na_InvalidInput_field T) ⟨by decide, by decide, by decide⟩ (fun _ _ _ _ _ _ _ _ _ _ => rfl) (fun _ => rfl) (fun L => ⟨_, rfl⟩) (fun L => rfl) (fun L => rfl) (by decide) (by decide)
    (fun A outer s H E => pe_cJoin (.cons pe_str (.cons (pe_cFmt (cv 1)) .nil))) ?_
  intro a v H Q ho k
  obtain ⟨z, rfl, hz⟩ := ho
  refine ⟨by decide +kernel, ⟨by rw [sizeLine_eq]; omega, ?_, k _⟩⟩
  rw [len_app, sizeLine_eq]
  have e : (Str.empty ++ ("invalid value of " : Str)).length = 17 := by decide +kernel
  omega

def Gr (H H' : Hp) : Prop := ∀ a o, H a = some o → H' a = some o
theorem Gr.refl {H : Hp} : Gr H H := fun _ _ h => h
theorem Gr.trans {H H1 H2 : Hp} (a : Gr H H1) (b : Gr H1 H2) : Gr H H2 := fun x o h => b x o (a x o h)
theorem Gr.new {H : Hp} {p : Addr} {o : HO} (h : H p = none) : Gr H (upd H p o) := fun a u e => by rw [upd_ne (ne_of_none e h)]; exact e
/-- InvalidInput(z) is let out -/
def Inp (g : Wd) (E : XK) (H : Hp) (z : Str) : Prop := ∀ H1 d, Gr H H1 → H1 d = some (.xd [("field", .str z)]) → E (.ref (gad g.K "InvalidInput")) (some d) H1
theorem Inp.gr {g : Wd} {E : XK} {H H1 : Hp} {z : Str} (h : Inp g E H z) (k : Gr H H1) : Inp g E H1 z := fun H2 d a b => h H2 d (k.trans a) b
def Ans (g : Wd) (o : Option Str) (H : Hp) (ok : Prop) (E : XK) : Prop := match o with
  | none => ok
  | some z => Inp g E H z
section
variable {g : Wd} {j : Nat} {H : Hp}
theorem raise_ii (T : Top g) {z : Str} {Q : XK} (hj : 2 ≤ j) (hz : z.length ≤ 100) (q : Inp g Q H z) : RaisP g j (gad g.K "InvalidInput") [.str z] H Q :=
  .by (ox_InvalidInput T) (ei_InvalidInput T).1 (ei_InvalidInput T).2 (fn_ii T) hj rfl ⟨z, rfl, hz⟩ fun d hd => q _ d (Gr.new hd) upd_same
def spAtLeast (g : Wd) : Sp := fun vs H Q E => ∃ (v m : Int) (z : Str), vs = [.int v, .int m, .str z] ∧ z.length ≤ 100 ∧ Ans g (if v < m then some z else none) H (Q .non H) E
theorem p_at_least (T : Top g) (hj : 2 ≤ j) : FnG g (j + 2) (gad g.K "at_least") (spAtLeast g) := fk_at_least T j fun vs H Q E ⟨v, m, z, ev, hz, h⟩ => by
  subst ev
  refine ⟨rfl, ite_i (fun c => ?_) (fun c => ?_)⟩
  · rw [if_pos (dt c)] at h
    exact raise_ii T hj hz h
  · rw [if_neg (df c)] at h
    exact h
def spAtMost (g : Wd) : Sp := fun vs H Q E => ∃ (v m : Int) (z : Str), vs = [.int v, .int m, .str z] ∧ z.length ≤ 100 ∧ Ans g (if m < v then some z else none) H (Q .non H) E
/-- a whole number: an int -/
def spWhole : Sp := fun vs H Q _ => ∃ (v : Int) (z : Str), vs = [.int v, .str z] ∧ Q .non H
theorem p_whole_number (T : Top g) : FnG g (j + 2) (gad g.K "whole_number") spWhole := fk_whole_number T j fun vs H Q E ⟨v, z, ev, h⟩ => by
  subst ev
  refine ⟨rfl, ?_⟩
  refine IsiP.sc (n := "int") (m := "bool") (b := false) rfl rfl rfl ?_
  refine ite_i (fun c => Bool.noConfusion c) fun _ => ?_
  refine IsiP.sc (n := "int") (m := "int") (b := true) rfl rfl rfl ?_
  exact ite_i (fun c => Bool.noConfusion c) fun _ => h
def okW (z : Str) : Bool := !(Txt.startswith z "0") && decide (Txt.stripChars z "01" = "")
def spGood (g : Wd) : Sp := fun vs H Q E => ∃ z f : Str, vs = [.str z, .str f] ∧ z.length ≤ 100000 ∧ f.length ≤ 100 ∧ Ans g (if okW z = true then none else some f) H (Q .non H) E
theorem p_good_word (T : Top g) (hj : 2 ≤ j) : FnG g (j + 2) (gad g.K "good_word") (spGood g) := fk_good_word T j fun vs H Q E ⟨z, f, ev, hl, hf, h⟩ => by
  subst ev
  refine ⟨rfl, ?_⟩
  have hs : z.length ≤ sizeLine := by rw [sizeLine_eq]; omega
  have key : okW z = false → RaisP g j (gad g.K "InvalidInput") [.str f] H E := fun e => by
    rw [if_neg (by rw [e]; decide)] at h
    exact raise_ii T hj hf h
  refine ite_i (fun c => ?_) (fun c => ?_)
  · exact ite_i (fun _ => key (by unfold okW; rw [c]; rfl)) fun c2 => Bool.noConfusion c2
  · refine ⟨hs, ite_i (fun c2 => ?_) (fun c2 => ?_)⟩
    · refine key ?_
      unfold okW
      rw [c]
      revert c2
      cases decide (Txt.stripChars z "01" = "") <;> simp
    · rw [if_pos (by
        unfold okW
        rw [c]
        revert c2
        cases decide (Txt.stripChars z "01" = "") <;> simp)] at h
      exact h
end
end Lw

namespace Lw
open PySem PySem.Spec PyProof.Rows L2 Cy Tx
theorem okW_eq (z : Str) : okW z = okL (ls z) := by unfold okW okL; rw [starts0, strip01]
theorem Rd.gr {H H' : Hp} {a : Addr} {o : HO} (k : Gr H H') (h : Rd H a o) : Rd H' a o := by
  rcases h with h | ⟨ob, h⟩
  · exact .inl (k _ _ h)
  · exact .inr ⟨ob, k _ _ h⟩
theorem SqT_gr {K : PySem.W.Frag} {H H' : Hp} {a : Addr} {xs : List V} (k : Gr H H') (h : SqT K H a xs) : SqT K H' a xs := by
  rcases h with h | h
  · exact .inl (Rd.gr k h)
  · exact .inr h
theorem SqL_gr {K : PySem.W.Frag} {H H' : Hp} {a : Addr} {xs : List V} (k : Gr H H') (h : SqL K H a xs) : SqL K H' a xs := by
  rcases h with h | h
  · exact .inl (Rd.gr k h)
  · exact .inr h
section
variable {g : Wd} {j : Nat} {H : Hp}
theorem ml {n : Nat} (h : n ≤ 100000) : n ≤ sizeLine := by rw [sizeLine_eq]; omega
def spOnes : Sp := fun vs H Q _ => ∃ z : Str, vs = [.str z] ∧ Q (.int (Txt.count z "1")) H
theorem p_ones (T : Top g) : FnG g 2 (gad g.K "_ones") spOnes := fk__ones T 0 fun vs H Q E ⟨z, ev, h⟩ => by
  subst ev
  exact ⟨rfl, h⟩
def spLiving (g : Wd) : Sp := fun vs H Q E => ∃ z : Str, vs = [.str z] ∧ z.length ≤ 100000 ∧ okW z = true ∧ Q (.int (Txt.count z "1")) H
theorem p_living (T : Top g) : FnG g 6 (gad g.K "living") (spLiving g) := fk_living T 4 fun vs H Q E ⟨z, ev, hz, ok, h⟩ => by
  subst ev
  refine ⟨rfl, CallP.by (p_good_word T (j := 2) (by decide)) (by decide) ⟨z, _, rfl, hz, by decide +kernel, ?_⟩⟩
  rw [if_pos ok]
  exact CallP.by (p_ones T) (by decide) ⟨z, rfl, h⟩
def spTrim : Sp := fun vs H Q _ => ∃ z : Str, vs = [.str z] ∧ z.length ≤ 100000 ∧ Q (.str (Txt.lstripChars z "0")) H
/-- a word, its oldest record carried -/
def carW (z : Str) (n : Int) : Str := if z = "" ∨ n ≤ (z.length : Int) then z else Txt.lstripChars (cutS z (some 1) none ++ "1") "0"
theorem cut_len (z : Str) : (cutS z (some 1) none).length ≤ z.length := by
  unfold cutS
  show (List.take _ _).toArray.size ≤ _
  rw [List.size_toArray, List.length_take, List.length_drop]
  have h : z.length = z.cps.toList.length := ls_len z
  omega
theorem len1 : ("1" : Str).length = 1 := by decide +kernel
def spCarried : Sp := fun vs H Q _ => ∃ (z : Str) (n : Int), vs = [.str z, .int n] ∧ z.length ≤ 90000 ∧ Q (.str (carW z n)) H
def spCarry (g : Wd) : Sp := fun vs H Q E => ∃ (z : Str) (n : Int), vs = [.str z, .int n] ∧ z.length ≤ 90000 ∧ okW z = true ∧ 1 ≤ n ∧ (z.length : Int) ≤ n ∧ Q (.str (carW z n)) H
def spAppended : Sp := fun vs H Q _ => ∃ (z r : Str) (n : Int), vs = [.str z, .int n, .str r] ∧ z.length ≤ 90000 ∧ r.length ≤ 10 ∧ (z.length : Int) < n ∧ Q (.str (Txt.lstripChars (z ++ r) "0")) H
def RoundAt (g : Wd) (H : Hp) (r : Addr) (bs : List Int) : Prop := ∃ dx t, H r = some (.ins (gad g.K "Round") dx [("_budgets", .ref t)]) ∧ H t = some (.tup (bs.map V.int))
theorem RoundAt.gr {H H' : Hp} {r : Addr} {bs : List Int} (k : Gr H H') (h : RoundAt g H r bs) : RoundAt g H' r bs := by
  obtain ⟨dx, t, h1, h2⟩ := h
  exact ⟨dx, t, k _ _ h1, k _ _ h2⟩
theorem lk1 {f : Str} {v : V} : ([(f, v)] : List (Str × V)).lookup f = some v := by simp [List.lookup]
theorem lkB {v : V} : ([(("_budgets" : Str), v)] : List (Str × V)).lookup ("_budgets" : Str) = some v := lk1
theorem nat_mod {a : Int} {n : Nat} (hn : 0 < n) : ∃ k : Nat, k < n ∧ a % (n : Int) = (k : Int) := by
  have h1 : 0 ≤ a % (n : Int) := Int.emod_nonneg _ (by omega)
  have h2 : a % (n : Int) < n := Int.emod_lt_of_pos _ (by omega)
  exact ⟨(a % (n : Int)).toNat, by omega, by omega⟩
/-- the budget at t -/
def bat (bs : List Int) (t : Int) : Int := bs.getD (t % (bs.length : Int)).toNat 0
def spRLen (g : Wd) : Sp := fun vs H Q _ => ∃ (r : Addr) (bs : List Int), vs = [.ref r] ∧ RoundAt g H r bs ∧ Q (.int bs.length) H
theorem p_rlen (T : Top g) : FnG g 2 (mad g.K (gad g.K "Round") "__len__") (spRLen g) := fk_Round_len_ T 0 fun vs H Q E ⟨r, bs, ev, ⟨dx, t, h1, h2⟩, h⟩ => by
  subst ev
  refine ⟨rfl, FldP.by rfl h1 (cl_Round T) (na_Round__budgets T) lkB ?_⟩
  refine LenP.t (.of h2) ?_
  rw [List.length_map]
  exact h
def spAt (g : Wd) : Sp := fun vs H Q E => ∃ (r : Addr) (bs : List Int) (t : Int), vs = [.ref r, .int t] ∧ RoundAt g H r bs ∧ 0 < bs.length ∧ 0 ≤ t ∧ Q (.int (bat bs t)) H
theorem p_at (T : Top g) : FnG g 6 (mad g.K (gad g.K "Round") "at") (spAt g) := fk_Round_at T 4 fun vs H Q E ⟨r, bs, t, ev, ⟨dx, b, h1, h2⟩, hb, ht, h⟩ => by
  subst ev
  refine ⟨rfl, CallP.by (p_at_least T (j := 2) (by decide)) (by decide) ⟨_, _, _, rfl, by decide +kernel, ?_⟩⟩
  rw [if_neg (by omega)]
  refine FldP.by rfl h1 (cl_Round T) (na_Round__budgets T) lkB ?_
  refine FldP.by rfl h1 (cl_Round T) (na_Round__budgets T) lkB ?_
  refine LenP.t (.of h2) ⟨by rw [List.length_map]; omega, ?_⟩
  rw [List.length_map]
  obtain ⟨k, hk, ek⟩ := nat_mod (a := t) hb
  refine IxR'.t (.of h2) (v := .int (bat bs t)) ?_ h
  refine at_of ek ?_
  unfold bat
  rw [ek]
  simp [List.getD, hk]
end
end Lw

namespace Lw
open PySem PySem.Spec PyProof.Rows L2 Cy Tx
section
variable {g : Wd} {j : Nat} {H : Hp}
theorem fk_Round_init_ {g : Wd} (T : Top g) (j : Nat) {sp : Sp} (h : ∀ vs H Q E, sp vs H Q E → rd_Round_init_ g j E { nx := fun _ H1 => Q .non H1, rt := Q } (L2.start ["self", "budgets", "budget"] vs) H) :
    FnG g (j + 2) (mad g.K (gad g.K "Round") "__init__") (fun vs H Q E => ∃ ws rest, vs = ws ++ rest ∧ ws.length = 1 ∧ rest.length ≤ sizeLine ∧ ∀ p, H p = Option.none → sp (ws ++ [V.ref p]) (upd H p (.tup rest)) Q E) := by
  obtain ⟨fd, F⟩ := fd_Round_init_ T
  obtain ⟨oc, od, dV, kV, doc, pm, an, cdv, ct, osl, rfl, lk, hcd, hD, _⟩ := F.ex
  have eD : dV = .none := by
    rcases hD with ⟨_, e⟩ | ⟨e, _⟩
    · exact e
    · exact absurd rfl e
  subst eD
  exact StX.fn_star (ps := ["self"]) lk hcd sc_Round_init_ StX.cxUp (fun us rest hl => match us, rest, hl with
    | [_], [], _ => rfl
    | [_], _ :: _, _ => rfl) fun A outer s H vs Q E hr hh => ⟨rd_Round_init_ g j E, dv_Round_init_ T hr, h vs H Q E hh⟩
/-- its promise: self new, the budgets whole and not negative, 1 to 12 of them -/
def spRInit (g : Wd) : Sp := fun vs H Q E => ∃ (x dx t : Addr) (bs : List Int), vs = [.ref x, .ref t] ∧ H x = some (.ins (gad g.K "Round") dx []) ∧ H t = some (.tup (bs.map V.int)) ∧ 1 ≤ bs.length ∧ bs.length ≤ 12 ∧ (∀ b ∈ bs, 0 ≤ b) ∧
  Q .non (upd H x (.ins (gad g.K "Round") dx [("_budgets", .ref t)]))
theorem p_rinit (T : Top g) : FnG g 8 (mad g.K (gad g.K "Round") "__init__") (fun vs H Q E => ∃ ws rest, vs = ws ++ rest ∧ ws.length = 1 ∧ rest.length ≤ sizeLine ∧ ∀ p, H p = Option.none → spRInit g (ws ++ [V.ref p]) (upd H p (.tup rest)) Q E) :=
  fk_Round_init_ T 6 fun vs H Q E ⟨x, dx, t, bs, ev, hx, ht, b1, b2, bp, h⟩ => by
    subst ev
    refine LenP.t (.of ht) ?_
    rw [List.length_map]
    refine ite_i (fun c => ?_) (fun c => absurd b1 (by have := df c; omega))
    refine GvP.by (gv_Round T) ?_
    obtain ⟨u, r, k⟩ := cvl_Round_MOST T
    refine CvP.by rfl r k ?_
    refine ite_i (fun c2 => absurd b2 (by
      revert c2
      by_cases q : (bs.length : Int) ≤ 12
      · simp [q]
      · intro _; omega)) fun _ => ?_
    refine SeqP.t rfl (.of ht) ?_
    refine for_tup (xs := bs.map V.int) (fun i σ H' => ∃ o, H' = H ∧ σ = [some (.ref x), some (.ref t), o]) ⟨none, rfl, rfl⟩ (fun i σ H' hi ⟨_, e, _⟩ => by rw [e]; exact .of ht) ?_ ?_
    · rintro i v σ H' hv ⟨o, rfl, rfl⟩
      rw [List.getElem?_map] at hv
      cases q : bs[i]? with
      | none => rw [q] at hv; cases hv
      | some b =>
        rw [q] at hv
        cases hv
        have hb := bp b (List.mem_of_getElem? q)
        refine CallP.by (p_whole_number T (j := 0)) (by decide) ⟨b, _, rfl, ?_⟩
        refine CallP.by (p_at_least T (j := 2) (by decide)) (by decide) ⟨_, _, _, rfl, by decide +kernel, ?_⟩
        rw [if_neg (by omega)]
        exact ⟨_, rfl, rfl⟩
    · rintro σ H' ⟨o, rfl, rfl⟩
      refine TupP.t (.of ht) ?_
      exact SetP.by rfl hx (cl_Round T) (na_Round__budgets T) (by decide) h
/-- Round(b, ..) -/
theorem mk_round (T : Top g) {bs : List Int} {Q : VK} {E : XK} (hj : 9 ≤ j) (b1 : 1 ≤ bs.length) (b2 : bs.length ≤ 12) (bp : ∀ b ∈ bs, 0 ≤ b) (h : ∀ r H', Gr H H' → H r = none → RoundAt g H' r bs → Q (.ref r) H') : MakeP g j (gad g.K "Round") (bs.map V.int) H Q E := by
  refine MakeP.by (mk_Round T) (p_rinit T) hj fun x dx hx hdx hne => ⟨[.ref x], bs.map V.int, rfl, rfl, by rw [List.length_map, sizeLine_eq]; omega, fun p hp => ?_⟩
  have px : p ≠ x := fun e => by rw [e, upd_same] at hp; cases hp
  have hp1 : upd H dx (.own x) p = none := by rw [upd_ne px] at hp; exact hp
  have pdx : p ≠ dx := fun e => by rw [e, upd_same] at hp1; cases hp1
  have hp0 : H p = none := by rw [upd_ne pdx] at hp1; exact hp1
  have hx1 : upd H dx (.own x) x = none := by rw [upd_ne (Ne.symm hne)]; exact hx
  refine ⟨x, dx, p, bs, rfl, by rw [upd_ne (Ne.symm px), upd_same], upd_same, b1, b2, bp, rfl, ?_⟩
  refine h x _ (fun a o e => ?_) hx ⟨dx, p, upd_same, by rw [upd_ne px, upd_same]⟩
  rw [upd_ne (ne_of_none e hx), upd_ne (ne_of_none e hp0), upd_ne (ne_of_none e hx), upd_ne (ne_of_none e hdx)]
  exact e
/-- r + q -/
def spRAdd (g : Wd) : Sp := fun vs H Q _ => ∃ (r q : Addr) (bs cs : List Int), vs = [.ref r, .ref q] ∧ RoundAt g H r bs ∧ RoundAt g H q cs ∧ bs ≠ [] ∧ cs ≠ [] ∧ bs.length + cs.length ≤ 12 ∧ (∀ b ∈ bs ++ cs, 0 ≤ b) ∧ ∀ s H', Gr H H' → H s = none → RoundAt g H' s (bs ++ cs) → Q (.ref s) H'
theorem p_radd (T : Top g) : FnG g 11 (mad g.K (gad g.K "Round") "__add__") (spRAdd g) := fk_Round_add_ T 9 fun vs H Q E ⟨r, q, bs, cs, ev, ⟨dx, b, h1, h2⟩, ⟨dx', c, h3, h4⟩, n1, n2, hl, hp, h⟩ => by
  subst ev
  refine ⟨rfl, ?_⟩
  refine GvP.by (gv_Round T) ?_
  refine IsiP.own (b := true) (ty_Round T h3) rfl (kt_Round_Round T) ?_
  refine ite_i (fun z => Bool.noConfusion z) fun _ => ?_
  refine FldP.by rfl h1 (cl_Round T) (na_Round__budgets T) lkB ?_
  refine FldP.by rfl h3 (cl_Round T) (na_Round__budgets T) lkB ?_
  refine AddR.tup _ _ (.of h2) (.of h4) (by simpa using n1) (by simpa using n2) (by rw [List.length_map, List.length_map, sizeLine_eq]; omega) fun s hs => ?_
  rw [← List.map_append]
  refine StarP.t rfl (.of upd_same) ?_
  have l1 : 1 ≤ (bs ++ cs).length := by
    rw [List.length_append]
    have := List.length_pos_iff.mpr n1
    omega
  refine mk_round T (by decide) l1 (by rw [List.length_append]; exact hl) hp fun s' H' k hs' ra => h s' H' ((Gr.new hs).trans k) ?_ ra
  have : s' ≠ s := fun e => by rw [e, upd_same] at hs'; cases hs'
  rw [upd_ne this] at hs'
  exact hs'
def spRBud (g : Wd) : Sp := fun vs H Q _ => ∃ (r : Addr) (bs : List Int), vs = [.ref r] ∧ RoundAt g H r bs ∧ ∀ p, H p = none → Q (.ref p) (upd H p (.lst (bs.map V.int)))
theorem p_rbud (T : Top g) : FnG g 2 (pgt g.K "Round" "budgets") (spRBud g) := fk_Round_budgets T 0 fun vs H Q E ⟨r, bs, ev, ⟨dx, t, h1, h2⟩, h⟩ => by
  subst ev
  refine ⟨rfl, FldP.by rfl h1 (cl_Round T) (na_Round__budgets T) lkB ?_⟩
  exact LstP.t (.of h2) h
end
end Lw

namespace Lw
open PySem PySem.Spec PyProof.Rows L2 Cy Tx
section
variable {g : Wd} {j : Nat} {H : Hp}
/-- what a keeper's choose refuses -/
def moment (z : Str) (p ph : Int) : Option Str := if okW z = false then some "word" else if p < 1 then some "places" else if ph < 0 then some "phase" else if p < (z.length : Int) then some "places" else none
def spMoment (g : Wd) : Sp := fun vs H Q E => ∃ (z : Str) (p ph : Int), vs = [.str z, .int p, .int ph] ∧ z.length ≤ 90000 ∧ Ans g (moment z p ph) H (Q .non H) E
theorem p_moment (T : Top g) : FnG g 6 (gad g.K "_check_moment") (spMoment g) := fk__check_moment T 4 fun vs H Q E ⟨z, p, ph, ev, hz, h⟩ => by
  subst ev
  refine ⟨rfl, CallP.by (p_good_word T (j := 2) (by decide)) (by decide) ⟨z, _, rfl, by omega, by decide +kernel, ?_⟩⟩
  unfold moment at h
  by_cases c1 : okW z = false
  · rw [if_pos c1] at h
    rw [if_neg (by rw [c1]; decide)]
    exact h
  have c1' : okW z = true := by simpa using c1
  rw [if_neg c1] at h
  rw [if_pos c1']
  refine CallP.by (p_at_least T (j := 2) (by decide)) (by decide) ⟨_, _, _, rfl, by decide +kernel, ?_⟩
  by_cases c2 : p < 1
  · rw [if_pos c2] at h
    rw [if_pos c2]
    exact h
  rw [if_neg c2] at h
  rw [if_neg c2]
  refine CallP.by (p_at_least T (j := 2) (by decide)) (by decide) ⟨_, _, _, rfl, by decide +kernel, ?_⟩
  by_cases c3 : ph < 0
  · rw [if_pos c3] at h
    rw [if_pos c3]
    exact h
  rw [if_neg c3] at h
  rw [if_neg c3]
  refine ⟨ml (by omega), CallP.by (p_at_least T (j := 2) (by decide)) (by decide) ⟨_, _, _, rfl, by decide +kernel, ?_⟩⟩
  by_cases c4 : p < (z.length : Int)
  · rw [if_pos c4] at h
    rw [if_pos c4]
    exact h
  rw [if_neg c4] at h
  rw [if_neg c4]
  exact h
/-- the most that may be carried -/
def mostA (z : Str) (p : Int) (bs : List Int) (ph : Int) : Int := if (z.length : Int) = p then 0 else min (bat bs ph) (Txt.count z "1")
def spMost (g : Wd) : Sp := fun vs H Q _ => ∃ (z : Str) (p ph : Int) (r : Addr) (bs : List Int), vs = [.str z, .int p, .ref r, .int ph] ∧ z.length ≤ 90000 ∧ okW z = true ∧ RoundAt g H r bs ∧ 0 < bs.length ∧ 0 ≤ ph ∧ Q (.int (mostA z p bs ph)) H
theorem ra_ins {r : Addr} {bs : List Int} (h : RoundAt g H r bs) : ∃ dx t, H r = some (.ins (gad g.K "Round") dx [("_budgets", .ref t)]) := by
  obtain ⟨dx, t, h1, _⟩ := h
  exact ⟨dx, t, h1⟩
theorem lkn {f f' : Str} {v : V} (h : (f' == f) = false) : ([(f, v)] : List (Str × V)).lookup f' = none := by simp [List.lookup, h]
theorem p_most (T : Top g) : FnG g 8 (gad g.K "_most_allowed") (spMost g) := fk__most_allowed T 6 fun vs H Q E ⟨z, p, ph, r, bs, ev, hz, ok, hr, hb, hp, h⟩ => by
  subst ev
  refine ⟨rfl, ml (by omega), ite_i (fun c => ?_) (fun c => ?_)⟩
  · unfold mostA at h
    rw [if_pos (by
      revert c
      by_cases q : (z.length : Int) = p <;> simp [q])] at h
    exact h
  · have q : ¬ (z.length : Int) = p := by
      revert c
      by_cases q : (z.length : Int) = p <;> simp [q]
    unfold mostA at h
    rw [if_neg q] at h
    obtain ⟨dx, t, h1⟩ := ra_ins hr
    refine MethP.own rfl h1 (cl_Round T) (mt_Round_at T) (lkn (by decide)) ?_
    refine CallP.by (p_at T) (by decide) ⟨r, bs, ph, rfl, hr, hb, hp, ?_⟩
    exact CallP.by (p_living T) (by decide) ⟨z, rfl, by omega, ok, h⟩
theorem moment_none {z : Str} {p ph : Int} (h : moment z p ph = none) : okW z = true ∧ 1 ≤ p ∧ 0 ≤ ph ∧ (z.length : Int) ≤ p := by
  unfold moment at h
  split at h
  · cases h
  split at h
  · cases h
  split at h
  · cases h
  split at h
  · cases h
  rename_i a b c d
  exact ⟨by simpa using a, by omega, by omega, by omega⟩
/-- choose(word, places, budgets, phase): refused, or R of the count -/
def spCh (g : Wd) (K : Addr → Hp → Prop) (R : Addr → Str → Int → List Int → Int → Hp → VK → Prop) : Sp := fun vs H Q E => ∃ (k : Addr) (z : Str) (p ph : Int) (r : Addr) (bs : List Int), vs = [.ref k, .str z, .int p, .ref r, .int ph] ∧ z.length ≤ 90000 ∧ K k H ∧ RoundAt g H r bs ∧ 0 < bs.length ∧
  Ans g (moment z p ph) H (R k z p bs ph H Q) E
def rRest : Addr → Str → Int → List Int → Int → Hp → VK → Prop := fun _ _ _ _ _ H Q => Q (.int 0) H
def rGreedy : Addr → Str → Int → List Int → Int → Hp → VK → Prop := fun _ z p bs ph H Q => Q (.int (mostA z p bs ph)) H
theorem ans_bind {o : Option Str} {ok ok' : Prop} {E : XK} (h : Ans g o H ok E) (k : o = none → ok → ok') : Ans g o H ok' E := by
  cases o with
  | none => exact k rfl h
  | some z => exact h
theorem p_kch (T : Top g) : FnG g 8 (mad g.K (gad g.K "Keeper") "choose") (spCh g (fun _ _ => True) rRest) := fk_Keeper_choose T 6 fun vs H Q E ⟨k, z, p, ph, r, bs, ev, hz, hk, hr, hb, h⟩ => by
  subst ev
  exact ⟨rfl, CallP.by (p_moment T) (by decide) ⟨z, p, ph, rfl, hz, ans_bind h fun _ q => q⟩⟩
/-- a keeper with one field -/
def OneF (g : Wd) (C f : Str) (m : Int) (k : Addr) (H : Hp) : Prop := ∃ dx, H k = some (.ins (gad g.K C) dx [(f, .int m)])
theorem OneF.gr {C f : Str} {m : Int} {k : Addr} {H H' : Hp} (q : Gr H H') (h : OneF g C f m k H) : OneF g C f m k H' := by
  obtain ⟨dx, h⟩ := h
  exact ⟨dx, q _ _ h⟩
def rLazy (m : Int) : Addr → Str → Int → List Int → Int → Hp → VK → Prop := fun _ z p bs ph H Q => Q (.int (if m < p - (z.length : Int) then 0 else mostA z p bs ph)) H
/-- the constructor of a keeper with one field; set_mark -/
def spOne (g : Wd) (C f fn : Str) (lo : Int) : Sp := fun vs H Q E => ∃ (k dx : Addr) (m : Int), vs = [.ref k, .int m] ∧ H k = some (.ins (gad g.K C) dx []) ∧ Ans g (if m < lo then some fn else none) H (Q .non (upd H k (.ins (gad g.K C) dx [(f, .int m)]))) E
def spSetM (g : Wd) : Sp := fun vs H Q E => ∃ (k dx : Addr) (m n : Int), vs = [.ref k, .int m] ∧ H k = some (.ins (gad g.K "Lazy") dx [("_mark", .int n)]) ∧ Ans g (if m < 0 then some "mark" else none) H (Q .non (upd H k (.ins (gad g.K "Lazy") dx [("_mark", .int m)]))) E
def spFld1 (g : Wd) (C f : Str) : Sp := fun vs H Q E => ∃ (k : Addr) (m : Int), vs = [.ref k] ∧ OneF g C f m k H ∧ Q (.int m) H
/-- the labels -/
def spLab (K : Addr → Hp → Prop) (z : Str) : Sp := fun vs H Q E => ∃ k, vs = [.ref k] ∧ K k H ∧ Q (.str z) H
theorem p_klab (T : Top g) : FnG g 2 (mad g.K (gad g.K "Keeper") "label") (spLab (fun _ _ => True) "rest") := fk_Keeper_label T 0 fun vs H Q E ⟨k, ev, hk, h⟩ => by
  subst ev
  exact ⟨rfl, h⟩
theorem e_app (z : Str) : Str.empty ++ z = z := by
  refine ls_ext ?_
  rw [ls_app]
  rfl
theorem int_len {m : Int} (h : m.natAbs.log2 < 1920) : (Str.ofString (toString m)).length ≤ 1921 := int_text_len_1921 h
abbrev eca : Str := "else carry all"
theorem split1 : Txt.split eca "\n" = [eca] := by decide +kernel
theorem split2 : Txt.split eca " " = ([("else" : Str), ("carry" : Str), ("all" : Str)] : List Str) := by decide +kernel
end
end Lw

namespace Lw
open PySem PySem.Spec PyProof.Rows L2 Cy Tx
section
variable {g : Wd} {j : Nat} {H : Hp}
theorem gr_upd {H H' : Hp} {l : Addr} {o : HO} (k : Gr H H') (h : H l = none) : Gr H (upd H' l o) := fun a u e => by rw [upd_ne (ne_of_none e h)]; exact k _ _ e
end
end Lw

namespace Lw
open PySem PySem.Spec PyProof.Rows L2 Cy Tx
section
variable {g : Wd} {j : Nat} {H : Hp}
/-- the budgets of a round -/
structure BsOk (bs : List Int) : Prop where
  l1 : 1 ≤ bs.length
  l2 : bs.length ≤ 12
  nn : ∀ b ∈ bs, 0 ≤ b
  up : ∀ b ∈ bs, b ≤ 10 ^ 30
theorem sum_nn : ∀ {l : List Int}, (∀ b ∈ l, 0 ≤ b) → 0 ≤ l.sum
  | [], _ => by simp
  | a :: r, h => by
    have h1 := h a (List.mem_cons_self ..)
    have h2 := sum_nn (l := r) fun b hb => h b (List.mem_cons_of_mem _ hb)
    rw [List.sum_cons]; omega
theorem sum_up {M : Int} : ∀ {l : List Int}, (∀ b ∈ l, b ≤ M) → l.sum ≤ l.length * M
  | [], _ => by simp
  | a :: r, h => by
    have h1 := h a (List.mem_cons_self ..)
    have h2 := sum_up (l := r) fun b hb => h b (List.mem_cons_of_mem _ hb)
    rw [List.sum_cons, List.length_cons]
    have e : ((r.length + 1 : Nat) : Int) * M = (r.length : Int) * M + M := by
      rw [Int.natCast_add, Int.add_mul]; simp
    rw [e]; omega
theorem log2_lt {n k : Nat} (hk : 0 < k) (h : n < 2 ^ k) : n.log2 < k := by
  by_cases e : n = 0
  · subst e; simp; exact hk
  · exact (Nat.log2_lt e).mpr h
theorem bs_sum {bs : List Int} (b : BsOk bs) : 0 ≤ bs.sum ∧ bs.sum ≤ 12 * 10 ^ 30 := by
  refine ⟨sum_nn b.nn, ?_⟩
  have h := sum_up b.up
  have h2 : (bs.length : Int) ≤ 12 := by have := b.l2; omega
  have h3 : (bs.length : Int) * 10 ^ 30 ≤ 12 * 10 ^ 30 := Int.mul_le_mul_of_nonneg_right h2 (by decide)
  omega
def spWin (g : Wd) : Sp := fun vs H Q _ => ∃ (r : Addr) (bs : List Int) (s c : Int), vs = [.ref r, .int s, .int c] ∧ RoundAt g H r bs ∧ BsOk bs ∧ 0 ≤ s ∧ 0 ≤ c ∧ c < 2 ^ 62 ∧ ∀ n H', 0 ≤ n → Gr H H' → Q (.int n) H'
theorem p_win (T : Top g) : FnG g 2 (mad g.K (gad g.K "Round") "_window") (spWin g) := fk_Round__window T 0 fun vs H Q E ⟨r, bs, s, c, ev, ⟨dx, t, h1, h2⟩, hb, hs, hc, hc2, h⟩ => by
  subst ev
  have lp : 0 < bs.length := hb.l1
  have l12 := hb.l2
  refine ⟨rfl, ?_⟩
  refine FldP.by rfl h1 (cl_Round T) (na_Round__budgets T) lkB ?_
  refine LenP.t (.of h2) ?_
  rw [List.length_map]
  refine ⟨⟨by omega, by omega⟩, fun p hp => ?_⟩
  refine UnpP.t rfl (.of upd_same) rfl ?_
  have k1 : Gr H (upd H p (.tup [.int (c / (bs.length : Int)), .int (c % (bs.length : Int))])) := Gr.new hp
  refine FldP.by rfl (k1 _ _ h1) (cl_Round T) (na_Round__budgets T) lkB ?_
  refine LenP.t (.of (k1 _ _ h2)) ⟨by rw [List.length_map]; omega, ?_⟩
  rw [List.length_map]
  refine FldP.by rfl (k1 _ _ h1) (cl_Round T) (na_Round__budgets T) lkB ?_
  refine FldP.by rfl (k1 _ _ h1) (cl_Round T) (na_Round__budgets T) lkB ?_
  have nb : bs.map V.int ≠ [] := by
    intro e
    have := congrArg List.length e
    rw [List.length_map, List.length_nil] at this
    omega
  refine AddR.tup _ _ (.of (k1 _ _ h2)) (.of (k1 _ _ h2)) nb nb (by rw [List.length_map, sizeLine_eq]; omega) fun q hq => ?_
  have k2 := k1.trans (Gr.new (o := .tup (bs.map V.int ++ bs.map V.int)) hq)
  refine FldP.by rfl (k2 _ _ h1) (cl_Round T) (na_Round__budgets T) lkB ?_
  refine SumP.t (ns := bs) (.of (k2 _ _ h2)) ?_
  obtain ⟨s1, s2⟩ := bs_sum hb
  have hq1 : 0 ≤ c / (bs.length : Int) := Int.ediv_nonneg hc (by omega)
  have hq2 : c / (bs.length : Int) ≤ c := Int.ediv_le_self _ hc
  refine ⟨?_, ?_⟩
  · show (c / (bs.length : Int)).natAbs.log2 + bs.sum.natAbs.log2 < 1000000
    have a1 : (c / (bs.length : Int)).natAbs.log2 < 62 := log2_lt (by decide) (by omega)
    have a2 : bs.sum.natAbs.log2 < 200 := log2_lt (by decide) (by
      have : bs.sum.natAbs ≤ 12 * 10 ^ 30 := by omega
      exact Nat.lt_of_le_of_lt this (by decide))
    omega
  obtain ⟨f, hf, ef⟩ := nat_mod (a := s) lp
  obtain ⟨e, he, ee⟩ := nat_mod (a := c) lp
  have et : (bs.map V.int ++ bs.map V.int) = (bs ++ bs).map V.int := by rw [List.map_append]
  refine SlP.t (xs := (bs ++ bs).map V.int) (.of (by rw [← et]; exact upd_same)) ?_ fun q2 hq2' => ?_
  · rw [ef, ee]
    rintro ⟨_, z⟩
    have z2 : HT.sIx ((bs ++ bs).map V.int).length ((bs ++ bs).map V.int).length (some ((f : Int) + (e : Int))) = min (f + e) ((bs ++ bs).map V.int).length := by
      rw [show (f : Int) + (e : Int) = ((f + e : Nat) : Int) by omega]
      exact HT.sIx_nat _ _ _
    rw [z2, List.length_map, List.length_append] at z
    omega
  · have ec : cutV ((bs ++ bs).map V.int) (some (s % (bs.length : Int))) (some (s % (bs.length : Int) + c % (bs.length : Int))) = ((((bs ++ bs).drop (HT.sIx ((bs ++ bs).map V.int).length 0 (some (s % (bs.length : Int))))).take (HT.sIx ((bs ++ bs).map V.int).length ((bs ++ bs).map V.int).length (some (s % (bs.length : Int) + c % (bs.length : Int))) - HT.sIx ((bs ++ bs).map V.int).length 0 (some (s % (bs.length : Int)))))).map V.int := by
      unfold cutV
      rw [List.map_take, List.map_drop]
    refine SumP.t (.of (by rw [ec] <;> exact upd_same)) ?_
    refine h _ _ ?_ (k2.trans (Gr.new hq2'))
    have a1 : 0 ≤ c / (bs.length : Int) * bs.sum := Int.mul_nonneg hq1 s1
    have a2 : ∀ {l : List Int}, (∀ b ∈ l, b ∈ bs ++ bs) → 0 ≤ l.sum := fun hl => sum_nn fun b hb' => by
      rcases List.mem_append.mp (hl b hb') with z | z
      · exact hb.nn b z
      · exact hb.nn b z
    have a3 := a2 (l := ((bs ++ bs).drop (HT.sIx ((bs ++ bs).map V.int).length 0 (some (s % (bs.length : Int))))).take (HT.sIx ((bs ++ bs).map V.int).length ((bs ++ bs).map V.int).length (some (s % (bs.length : Int) + c % (bs.length : Int))) - HT.sIx ((bs ++ bs).map V.int).length 0 (some (s % (bs.length : Int))))) fun b hb' => List.mem_of_mem_drop (List.mem_of_mem_take hb')
    omega
end
end Lw

namespace Lw
open PySem PySem.Spec PyProof.Rows L2 Cy Tx
section
variable {g : Wd} {j : Nat} {H : Hp}
theorem p_total (T : Top g) : FnG g 6 (mad g.K (gad g.K "Round") "total") (spWin g) := fk_Round_total T 4 fun vs H Q E ⟨r, bs, s, c, ev, hr, hb, hs, hc, hc2, h⟩ => by
  subst ev
  refine ⟨rfl, CallP.by (p_at_least T (j := 2) (by decide)) (by decide) ⟨_, _, _, rfl, by decide +kernel, ?_⟩⟩
  rw [if_neg (by omega)]
  refine CallP.by (p_at_least T (j := 2) (by decide)) (by decide) ⟨_, _, _, rfl, by decide +kernel, ?_⟩
  rw [if_neg (by omega)]
  obtain ⟨dx, t, h1⟩ := ra_ins hr
  refine MethP.own rfl h1 (cl_Round T) (mt_Round__window T) (lkn (by decide)) ?_
  exact CallP.by (p_win T) (by decide) ⟨r, bs, s, c, rfl, hr, hb, hs, hc, hc2, h⟩
/-- a standing that passes -/
structure StOk (z : Str) (p l ph : Int) : Prop where
  ok : okW z = true
  hz : z.length ≤ 90000
  h1 : 1 ≤ p
  h2 : 1 ≤ l
  h3 : 0 ≤ ph
  h4 : (z.length : Int) ≤ p
  h5 : Txt.count z "1" ≤ l
  h6 : l ≤ p
def spSt : Sp := fun vs H Q _ => ∃ (z : Str) (p l ph : Int), vs = [.str z, .int p, .int l, .int ph] ∧ StOk z p l ph ∧ Q .non H
def spDep : Sp := fun vs H Q _ => ∃ z : Str, vs = [.str z] ∧ z.length ≤ 90000 ∧ ∀ (p : Addr) (ns : List Int) (H' : Hp), Gr H H' → H' p = some (.lst (ns.map V.int)) → Q (.ref p) H'
def spDepths : Sp := fun vs H Q _ => ∃ z : Str, vs = [.str z] ∧ z.length ≤ 90000 ∧ okW z = true ∧ ∀ (p : Addr) (ns : List Int) (H' : Hp), Gr H H' → H' p = some (.lst (ns.map V.int)) → Q (.ref p) H'
def spCnt : Sp := fun vs H Q _ => ∃ (p : Int) (b : Bool), vs = [.int p, .bl b] ∧ Q (.int (if b = true then p - 1 else p)) H
/-- blocked_now: some answer -/
def spBn (g : Wd) : Sp := fun vs H Q _ => ∃ (t cp l ph : Int) (sp r : Addr) (ns bs : List Int), vs = [.int t, .ref sp, .int cp, .int l, .ref r, .int ph] ∧ H sp = some (.lst (ns.map V.int)) ∧ RoundAt g H r bs ∧ BsOk bs ∧ 0 ≤ ph ∧ t < 2 ^ 62 ∧ ∀ b H', Gr H H' → Q (.bl b) H'
def spSn (g : Wd) : Sp := fun vs H Q _ => ∃ (t o cp l ph : Int) (r : Addr) (bs : List Int), vs = [.int t, .int o, .int cp, .int l, .ref r, .int ph] ∧ RoundAt g H r bs ∧ BsOk bs ∧ 0 ≤ ph ∧ cp < 2 ^ 62 ∧ 1 ≤ l ∧ o ≤ l ∧ ∀ b H', Gr H H' → Q (.bl b) H'
/-- what blocked_at, short_at are asked -/
structure Bq (g : Wd) (H : Hp) (z : Str) (p l ph : Int) (r : Addr) (bs : List Int) : Prop where
  st : StOk z p l ph
  ra : RoundAt g H r bs
  bo : BsOk bs
  up : p < 2 ^ 61
/-- None or a number -/
def OptI (v : V) : Prop := v = .non ∨ ∃ i : Int, v = .int i
def spBa (g : Wd) : Sp := fun vs H Q _ => ∃ (z : Str) (p l ph : Int) (r : Addr) (bs : List Int) (b : Bool), vs = [.str z, .int p, .int l, .ref r, .int ph, .bl b] ∧ Bq g H z p l ph r bs ∧ ∀ v H', OptI v → Gr H H' → Q v H'
end
end Lw

namespace Lw
open PySem PySem.Spec PyProof.Rows L2 Cy Tx
theorem dw_head : ∀ l : List Nat, ((l.dropWhile (· == 48)).head? == some 48) = false
  | [] => rfl
  | a :: r => by
    cases h : (a == 48) with
    | true => simp only [List.dropWhile, h]; exact dw_head r
    | false =>
      simp only [List.dropWhile, h, List.head?]
      simpa using h
theorem dw_mem {l : List Nat} {c : Nat} (h : c ∈ l.dropWhile (· == 48)) : c ∈ l := (List.dropWhile_sublist _).subset h
theorem dw_ok {l : List Nat} (h : l.all Bit = true) : okL (l.dropWhile (· == 48)) = true := by
  unfold okL
  rw [dw_head]
  have : (l.dropWhile (· == 48)).all Bit = true := List.all_eq_true.mpr fun c hc => List.all_eq_true.mp h c (dw_mem hc)
  rw [this]
  rfl
theorem ok_all {z : Str} (h : okW z = true) : (ls z).all Bit = true := by
  rw [okW_eq] at h
  unfold okL at h
  exact (Bool.and_eq_true_iff.mp h).2
theorem ls_one : ls ("1" : Str) = [49] := by decide +kernel
theorem cut_ls (z : Str) : ls (cutS z (some 1) none) = (ls z).drop 1 := by
  have h : z.length = z.cps.toList.length := ls_len z
  unfold cutS
  show (List.take _ (List.drop _ z.cps.toList)).toArray.toList = z.cps.toList.drop 1
  rw [show (1 : Int) = ((1 : Nat) : Int) from rfl, HT.sIx_nat, HT.sIx_none, h]
  simp only [List.toList_toArray]
  by_cases q : 1 ≤ z.cps.toList.length
  · rw [Nat.min_eq_left q]
    exact List.take_of_length_le (by rw [List.length_drop]; exact Nat.le_refl _)
  · have e : z.cps.toList = [] := List.eq_nil_of_length_eq_zero (by omega)
    rw [e]; rfl
theorem apd_ok {z : Str} (h : okW z = true) : okW (Txt.lstripChars (z ++ "1") "0") = true ∧ (Txt.lstripChars (z ++ "1") "0").length ≤ z.length + 1 ∧ Txt.count (Txt.lstripChars (z ++ "1") "0") "1" ≤ Txt.count z "1" + 1 := by
  have e : ls (Txt.lstripChars (z ++ "1") "0") = (ls z ++ [49]).dropWhile (· == 48) := by rw [lstrip0, ls_app, ls_one]
  refine ⟨?_, ?_, ?_⟩
  · rw [okW_eq, e]
    refine dw_ok ?_
    rw [List.all_append, ok_all h]
    rfl
  · rw [ls_len, e]
    have := (List.dropWhile_sublist (l := ls z ++ [49]) (· == 48)).length_le
    rw [List.length_append, List.length_singleton] at this
    rw [ls_len z]
    exact this
  · rw [count1, count1, e]
    have := (List.dropWhile_sublist (l := ls z ++ [49]) (· == 48)).count_le 49
    rw [List.count_append] at this
    have e2 : List.count 49 [49] = 1 := by decide
    omega
theorem car_ok {z : Str} {n : Int} (h : okW z = true) : okW (carW z n) = true ∧ (carW z n).length ≤ z.length := by
  unfold carW
  split
  · exact ⟨h, Nat.le_refl _⟩
  · rename_i c
    have e : ls (Txt.lstripChars (cutS z (some 1) none ++ "1") "0") = ((ls z).drop 1 ++ [49]).dropWhile (· == 48) := by rw [lstrip0, ls_app, ls_one, cut_ls]
    refine ⟨?_, ?_⟩
    · rw [okW_eq, e]
      refine dw_ok ?_
      rw [List.all_append]
      have : ((ls z).drop 1).all Bit = true := List.all_eq_true.mpr fun c hc => List.all_eq_true.mp (ok_all h) c (List.mem_of_mem_drop hc)
      rw [this]
      rfl
    · rw [ls_len, e]
      have := (List.dropWhile_sublist (l := (ls z).drop 1 ++ [49]) (· == 48)).length_le
      rw [List.length_append, List.length_singleton, List.length_drop] at this
      rw [ls_len z]
      have hn : (ls z) ≠ [] := fun e => c (.inl (ls_ext (e.trans (by decide +kernel))))
      have := List.length_pos_iff.mpr hn
      omega
section
variable {g : Wd} {j : Nat} {H : Hp}
def spApr : Sp := fun vs H Q _ => ∃ (z : Str) (n : Int), vs = [.str z, .int n] ∧ z.length ≤ 80000 ∧ okW z = true ∧ 1 ≤ n ∧ (z.length : Int) < n ∧ ∀ H', Gr H H' → Q (.str (Txt.lstripChars (z ++ "1") "0")) H'
def spLs (g : Wd) : Sp := fun vs H Q _ => ∃ (k : Addr) (m : Int) (z : Str) (p ph : Int) (r : Addr) (bs : List Int), vs = [.ref k, .str z, .int p, .ref r, .int ph] ∧ OneF g "Thrifty" "_limit" m k H ∧ 1 ≤ m ∧ z.length ≤ 70000 ∧ okW z = true ∧ 1 ≤ p ∧ (z.length : Int) < p ∧ p < 2 ^ 61 ∧ 0 ≤ ph ∧ RoundAt g H r bs ∧ BsOk bs ∧ ∀ b H', Gr H H' → Q (.bl b) H'
/-- Thrifty's answer: in its range -/
def rThr : Addr → Str → Int → List Int → Int → Hp → VK → Prop := fun _ z p bs ph H Q => (0 ≤ mostA z p bs ph ∧ mostA z p bs ph < 2 ^ 61) ∧ p < 2 ^ 61 ∧ BsOk bs ∧ ∀ c H', 0 ≤ c → c ≤ mostA z p bs ph → Gr H H' → Q (.int c) H'
end
end Lw

namespace Lw
open PySem PySem.Spec PyProof.Rows L2 Cy Tx
/-- all but b stands as it was -/
def Gx (b : Addr) (H H' : Hp) : Prop := ∀ a o, a ≠ b → H a = some o → H' a = some o
theorem Gx.refl {b : Addr} {H : Hp} : Gx b H H := fun _ _ _ h => h
theorem Gx.trans {b : Addr} {H H1 H2 : Hp} (k : Gx b H H1) (l : Gx b H1 H2) : Gx b H H2 := fun a o n e => l a o n (k a o n e)
theorem Gx.gr {b : Addr} {H H1 : Hp} (k : Gr H H1) : Gx b H H1 := fun a o _ e => k a o e
theorem Gx.upd {b : Addr} {H : Hp} {o : HO} : Gx b H (upd H b o) := fun a u n e => by rw [upd_ne n]; exact e
/-- the draws' box -/
def BoxAt (H : Hp) (b : Addr) (n : Int) : Prop := ∃ b0 b1 b2 b3 : Int, H b = some (.lst [.int b0, .int b1, .int b2, .int b3]) ∧ 0 ≤ b0 ∧ 0 ≤ b1 ∧ b1 < 2147483647 ∧ 0 ≤ b2 ∧ b2 ≤ n ∧ 0 ≤ b3
theorem BoxAt.mono {H : Hp} {b : Addr} {n m : Int} (h : BoxAt H b n) (k : n ≤ m) : BoxAt H b m := by
  obtain ⟨b0, b1, b2, b3, h0, h1, h2, h3, h4, h5, h6⟩ := h
  exact ⟨b0, b1, b2, b3, h0, h1, h2, h3, h4, by omega, h6⟩
theorem BoxAt.gr {H H' : Hp} {b : Addr} {n : Int} (k : Gr H H') (h : BoxAt H b n) : BoxAt H' b n := by
  obtain ⟨b0, b1, b2, b3, h0, h'⟩ := h
  exact ⟨b0, b1, b2, b3, k _ _ h0, h'⟩
/-- the script, not the box -/
def KL (K : PySem.W.Frag) (a : Addr) (ns : List Int) : Prop := ∃ (o : Obj) (its : Array Value) (n : Nat), K.lookup a = some o ∧ o.cls = .type "list" ∧ o.dict = none ∧ o.data = .seq its n ∧ its.size ≤ sizeLine ∧ Vals (ns.map V.int) its.toList
def Sc (g : Wd) (H : Hp) (sc : Addr) (ns : List Int) (b : Addr) : Prop := (Rd H sc (.lst (ns.map V.int)) ∧ sc ≠ b) ∨ KL g.K sc ns
section
variable {g : Wd} {j : Nat} {H : Hp}
theorem Sc.sq {sc b : Addr} {ns : List Int} (h : Sc g H sc ns b) : SqL g.K H sc (ns.map V.int) := by
  rcases h with ⟨h, _⟩ | h
  · exact .inl h
  · exact .inr h
theorem Sc.gx {H' : Hp} {sc b : Addr} {ns : List Int} (k : Gx b H H') (h : Sc g H sc ns b) : Sc g H' sc ns b := by
  rcases h with ⟨h, n⟩ | h
  · refine .inl ⟨?_, n⟩
    rcases h with h | ⟨ob, h⟩
    · exact .inl (k _ _ n h)
    · exact .inr ⟨ob, k _ _ n h⟩
  · exact .inr h
theorem Sc.new {H' : Hp} {sc b : Addr} {ns : List Int} (h : SqL g.K H sc (ns.map V.int)) (k : Gr H H') (hb : H b = none) : Sc g H' sc ns b := by
  rcases h with h | h
  · refine .inl ⟨Rd.gr k h, fun e => ?_⟩
    rcases h with h | ⟨ob, h⟩
    · rw [e, hb] at h; cases h
    · rw [e, hb] at h; cases h
  · exact .inr h
def spTake (g : Wd) : Sp := fun vs H Q _ => ∃ (sc b : Addr) (m n : Int) (ns : List Int), vs = [.ref sc, .ref b, .int m] ∧ ns.length ≤ 63 ∧ Sc g H sc ns b ∧ BoxAt H b n ∧ n ≤ 10 ^ 9 ∧ 0 < m ∧ m ≤ 10 ^ 31 ∧ ∀ d H', 0 ≤ d → d < m → Gx b H H' → BoxAt H' b (n + 1) → Q (.int d) H'
theorem lg {x : Int} {k : Nat} (h0 : 0 ≤ x) (hk : 0 < k) (h : x < 2 ^ k) : x.natAbs.log2 < k := log2_lt hk (by
  have e : ((2 ^ k : Nat) : Int) = (2 : Int) ^ k := by simp
  omega)
theorem lg31 {x : Int} (h0 : 0 ≤ x) (h : x < 2147483648) : x.natAbs.log2 < 31 := lg h0 (by decide) (by simpa using h)
theorem lg100 {x : Int} (h0 : 0 ≤ x) (h : x ≤ 10 ^ 31) : x.natAbs.log2 < 110 := lg h0 (by decide) (by
  have : (10 : Int) ^ 31 < 2 ^ 110 := by decide
  omega)
abbrev nx1 (c1 c2 : Int) : Int := (c1 * 48271 + (c2 + 1) * 69621 + 12345) % 2147483647
theorem take2 {sc b : Addr} {m n c0 c1 c2 c3 : Int} {o3 o4 : Option V} {Q : VK} (D : Ends) (hD : D.rt = Q) (h0 : 0 ≤ c0) (h1 : 0 ≤ c1) (h1' : c1 < 2147483647) (h2 : 0 ≤ c2) (h2' : c2 ≤ n) (hn : n ≤ 10 ^ 9) (h3 : 0 ≤ c3) (hm : 0 < m) (hm2 : m ≤ 10 ^ 31)
    (hb : H b = some (.lst [.int c0, .int c1, .int c2, .int c3])) (h : ∀ d H', 0 ≤ d → d < m → Gx b H H' → BoxAt H' b (n + 1) → Q (.int d) H') :
    (tSeq (tIfS (cTest (tOp cGt (tOp (cIx g.K) (cV 1) (tC (.int 0))) (tC (.int 0)))) (tSeq (tAsg (tOp cMod (tCB (cInt) (tCons (tOp (cIx g.K) (cV 1) (tC (.int 0))) (tNil))) (cV 2)) (gName 4))
  (tSeq (tAsg (tOp cDiv (tOp (cIx g.K) (cV 1) (tC (.int 0))) (cV 2)) (gSub (cV 1) (tC (.int 0)) cSetIx))
  (tRet (cV 4)))) (tNext))
  (tSeq (tAsg (tOp (cAdd g.K noOw) (tOp (cIx g.K) (cV 1) (tC (.int 2))) (tC (.int 1))) (gSub (cV 1) (tC (.int 2)) cSetIx))
  (tSeq (tAsg (tOp cMod (tCB (cInt) (tCons (tOp (cAdd g.K noOw) (tOp (cAdd g.K noOw) (tOp cMul (tOp (cIx g.K) (cV 1) (tC (.int 1))) (tC (.int 48271))) (tOp cMul (tOp (cIx g.K) (cV 1) (tC (.int 2))) (tC (.int 69621)))) (tC (.int 12345))) (tNil))) (tC (.int 2147483647))) (gSub (cV 1) (tC (.int 1)) cSetIx))
  (tRet (tOp cMod (tOp cDiv (tOp cMod (tCB (cInt) (tCons (tOp (cAdd g.K noOw) (tOp cMul (tOp cDiv (tOp (cIx g.K) (cV 1) (tC (.int 1))) (tC (.int 16))) (tC (.int 40692))) (tOp cMul (tOp (cIx g.K) (cV 1) (tC (.int 2))) (tC (.int 7)))) (tNil))) (tC (.int 2147483399))) (tC (.int 8))) (cV 2)))))) D [some (.ref sc), some (.ref b), some (.int m), o3, o4] H := by
  subst hD
  refine IxR'.l (.of hb) (v := .int c0) rfl ?_
  refine ite_i (fun c => ?_) (fun c => ?_)
  · have c' := dt c
    refine IxR'.l (.of hb) (v := .int c0) rfl ⟨hm, ?_⟩
    refine IxR'.l (.of hb) (v := .int c0) rfl ⟨⟨hm, by have := lg100 (by omega) hm2; omega⟩, ?_⟩
    refine StIx.by hb (j := 0) rfl ?_
    exact h _ _ (Int.emod_nonneg _ (by omega)) (Int.emod_lt_of_pos _ hm) Gx.upd ⟨c0 / m, c1, c2, c3, upd_same, Int.ediv_nonneg h0 (by omega), h1, h1', h2, by omega, h3⟩
  · refine IxR'.l (.of hb) (v := .int c2) rfl ?_
    refine StIx.by hb (j := 2) rfl ?_
    have e1 : upd H b (.lst [.int c0, .int c1, .int (c2 + 1), .int c3]) b = some (.lst [.int c0, .int c1, .int (c2 + 1), .int c3]) := upd_same
    refine IxR'.l (.of e1) (v := .int c1) rfl ⟨?_, ?_⟩
    · show c1.natAbs.log2 + (48271 : Int).natAbs.log2 < 1000000
      have := lg31 h1 (by omega)
      have e : (48271 : Int).natAbs.log2 = 15 := by decide +kernel
      omega
    refine IxR'.l (.of e1) (v := .int (c2 + 1)) rfl ⟨?_, ?_⟩
    · show (c2 + 1).natAbs.log2 + (69621 : Int).natAbs.log2 < 1000000
      have := lg31 (x := c2 + 1) (by omega) (by omega)
      have e : (69621 : Int).natAbs.log2 = 16 := by decide +kernel
      omega
    refine ⟨(by decide : (0 : Int) < 2147483647), ?_⟩
    refine StIx.by e1 (j := 1) rfl ?_
    have x0 : 0 ≤ nx1 c1 c2 := Int.emod_nonneg _ (by decide)
    have x1 : nx1 c1 c2 < 2147483647 := Int.emod_lt_of_pos _ (by decide)
    have e2 : upd (upd H b (.lst [.int c0, .int c1, .int (c2 + 1), .int c3])) b (.lst [.int c0, .int (nx1 c1 c2), .int (c2 + 1), .int c3]) b = some (.lst [.int c0, .int (nx1 c1 c2), .int (c2 + 1), .int c3]) := upd_same
    refine IxR'.l (.of e2) (v := .int (nx1 c1 c2)) rfl ⟨⟨(by decide : (0 : Int) < 16), (by decide +kernel : (16 : Int).natAbs.log2 < 9000)⟩, ?_, ?_⟩
    · show (nx1 c1 c2 / 16).natAbs.log2 + (40692 : Int).natAbs.log2 < 1000000
      have := lg31 (x := nx1 c1 c2 / 16) (by omega) (by omega)
      have e : (40692 : Int).natAbs.log2 = 15 := by decide +kernel
      omega
    refine IxR'.l (.of e2) (v := .int (c2 + 1)) rfl ⟨?_, ?_⟩
    · show (c2 + 1).natAbs.log2 + (7 : Int).natAbs.log2 < 1000000
      have := lg31 (x := c2 + 1) (by omega) (by omega)
      have e : (7 : Int).natAbs.log2 = 2 := by decide +kernel
      omega
    refine ⟨(by decide : (0 : Int) < 2147483399), ⟨(by decide : (0 : Int) < 8), (by decide +kernel : (8 : Int).natAbs.log2 < 9000)⟩, hm, ?_⟩
    exact h _ _ (Int.emod_nonneg _ (by omega)) (Int.emod_lt_of_pos _ hm) (Gx.upd.trans Gx.upd) ⟨c0, nx1 c1 c2, c2 + 1, c3, upd_same, h0, x0, x1, by omega, by omega, h3⟩
theorem p_take (T : Top g) : FnG g 2 (gad g.K "_law_take") (spTake g) := fk__law_take T 0 fun vs H Q E ⟨sc, b, m, n, ns, ev, hl, hsc, ⟨b0, b1, b2, b3, hb, h0, h1, h1', h2, h2', h3⟩, hn, hm, hm2, h⟩ => by
  subst ev
  refine ⟨rfl, ?_⟩
  refine IxR'.l (.of hb) (v := .int b0) rfl ?_
  refine ite_i (fun c => ?_) (fun c => ?_)
  · refine IxR'.l (.of hb) (v := .int b3) rfl ?_
    refine LenP.l hsc.sq ?_
    rw [List.length_map]
    refine ite_i (fun c => ?_) (fun c => ?_)
    · have c' := dt c
      have hlt : b3.toNat < ns.length := by omega
      refine IxR'.l (.of hb) (v := .int b3) rfl ?_
      refine IxR'.l hsc.sq (v := .int (ns[b3.toNat]'hlt)) (at_of (j := b3.toNat) (by omega) (by simp [hlt])) ?_
      generalize ns[b3.toNat]'hlt = cell
      refine IxR'.l (.of hb) (v := .int b3) rfl ?_
      refine StIx.by hb (j := 3) rfl ?_
      have e1 : upd H b (.lst [.int b0, .int b1, .int b2, .int (b3 + 5)]) b = some (.lst [.int b0, .int b1, .int b2, .int (b3 + 5)]) := upd_same
      refine IxR'.l (.of e1) (v := .int b1) rfl ⟨?_, ?_⟩
      · show b1.natAbs.log2 + (31 : Int).natAbs.log2 < 1000000
        have := lg31 h1 (by omega)
        have e : (31 : Int).natAbs.log2 = 4 := by decide +kernel
        omega
      refine ⟨(by decide : (0 : Int) < 2147483647), ?_⟩
      refine StIx.by e1 (j := 1) rfl ?_
      have x0 : 0 ≤ (b1 * 31 + cell + 17) % 2147483647 := Int.emod_nonneg _ (by decide)
      have x1 : (b1 * 31 + cell + 17) % 2147483647 < 2147483647 := Int.emod_lt_of_pos _ (by decide)
      have e2 : upd (upd H b (.lst [.int b0, .int b1, .int b2, .int (b3 + 5)])) b (.lst [.int b0, .int ((b1 * 31 + cell + 17) % 2147483647), .int b2, .int (b3 + 5)]) b = some (.lst [.int b0, .int ((b1 * 31 + cell + 17) % 2147483647), .int b2, .int (b3 + 5)]) := upd_same
      refine ⟨⟨by decide, by decide, by decide⟩, ?_⟩
      refine ite_i (fun c => ?_) (fun c => ?_)
      · refine StIx.by e2 (j := 0) rfl ?_
        refine take2 _ rfl (c0 := if cell < 0 then -cell else cell) (by split <;> omega) x0 x1 h2 h2' hn (by omega) hm hm2 upd_same fun d H' d0 d1 k hB => h d H' d0 d1 (((Gx.upd.trans Gx.upd).trans Gx.upd).trans k) hB
      · exact take2 _ rfl h0 x0 x1 h2 h2' hn (by omega) hm hm2 e2 fun d H' d0 d1 k hB => h d H' d0 d1 ((Gx.upd.trans Gx.upd).trans k) hB
    · exact take2 _ rfl h0 h1 h1' h2 h2' hn h3 hm hm2 hb h
  · refine ite_i (fun z => Bool.noConfusion z) (fun _ => ?_)
    exact take2 _ rfl h0 h1 h1' h2 h2' hn h3 hm hm2 hb h
end
end Lw

namespace Lw
open PySem PySem.Spec PyProof.Rows L2 Cy Tx
section
variable {g : Wd} {j : Nat} {H : Hp}
theorem cut_map (l : List Int) (lo hi : Option Int) : ∃ l' : List Int, cutV (l.map V.int) lo hi = l'.map V.int ∧ l'.length ≤ l.length ∧ ∀ x ∈ l', x ∈ l := by
  refine ⟨(l.drop (HT.sIx (l.map V.int).length 0 lo)).take (HT.sIx (l.map V.int).length (l.map V.int).length hi - HT.sIx (l.map V.int).length 0 lo), ?_, ?_, fun x hx => List.mem_of_mem_drop (List.mem_of_mem_take hx)⟩
  · unfold cutV
    rw [List.map_take, List.map_drop]
  · rw [List.length_take, List.length_drop]
    omega
def spBox (g : Wd) : Sp := fun vs H Q _ => ∃ (sc : Addr) (a : Int) (ns : List Int), vs = [.ref sc, .int a] ∧ ns.length ≤ 63 ∧ SqL g.K H sc (ns.map V.int) ∧ 0 ≤ a ∧ a ≤ 100 ∧ ∀ b H', Gr H H' → H b = none → BoxAt H' b 0 → Q (.ref b) H'
theorem p_box (T : Top g) : FnG g 2 (gad g.K "_law_box") (spBox g) := fk__law_box T 0 fun vs H Q E ⟨sc, a, ns, ev, hl, hsc, ha, ha2, h⟩ => by
  subst ev
  obtain ⟨cs, ec, lc, _⟩ := cut_map ns none (some 63)
  refine ⟨rfl, SlP.l hsc fun r hr => ?_⟩
  rw [ec]
  refine SeqP.l rfl (.of upd_same) fun D hD => ?_
  refine lc_list (xs := cs.map V.int) (fun i H' => Gr H H' ∧ H' r = some (.lst (cs.map V.int)) ∧ ∃ ms : List Int, ms.length ≤ i ∧ H' D = some (.lst (ms.map V.int))) ?_ (fun i H' hi ⟨_, e, _⟩ => .of e) ?_ ?_
  · have hrD : r ≠ D := fun e => by rw [← e, upd_same] at hD; cases hD
    exact ⟨(Gr.new hr).trans (Gr.new hD), by rw [upd_ne hrD, upd_same], [], Nat.zero_le _, upd_same⟩
  · rintro i x H' hx ⟨k, e1, ms, lm, e2⟩
    rw [List.getElem?_map] at hx
    cases q : cs[i]? with
    | none => rw [q] at hx; cases hx
    | some y =>
      rw [q] at hx
      cases hx
      have hi : i < cs.length := (List.getElem?_eq_some_iff.mp q).1
      have hrD : r ≠ D := fun e => by
        rw [e, upd_same] at hD; cases hD
      have hD0 : H D = none := by
        rw [upd_ne (Ne.symm hrD)] at hD; exact hD
      refine ⟨rfl, ⟨(by decide : (0 : Int) < 1000003), ms.map V.int, e2, by rw [List.length_map, sizeLine_eq]; omega, gr_upd k hD0, by rw [upd_ne hrD]; exact e1, ms ++ [y % 1000003], ?_, ?_⟩⟩
      · rw [List.length_append]; simp; omega
      · rw [List.map_append]; exact upd_same
  · rintro H' ⟨k, e1, ms, lm, e2⟩
    refine SumP.l (.of e2) ⟨?_, ?_⟩
    · show (7919 : Int).natAbs.log2 + a.natAbs.log2 < 1000000
      have := lg31 ha (by omega)
      have e : (7919 : Int).natAbs.log2 = 12 := by decide +kernel
      omega
    refine ⟨(by decide : (0 : Int) < 2147483647), (by decide : 4 ≤ sizeLine), fun b hb => ?_⟩
    have hb0 : H b = none := by
      cases q : H b with
      | none => rfl
      | some o => have := k _ _ q; rw [hb] at this; cases this
    exact h b _ (k.trans (Gr.new hb)) hb0 ⟨_, _, _, _, upd_same, by decide, Int.emod_nonneg _ (by decide), Int.emod_lt_of_pos _ (by decide), by decide, by decide, ha⟩
theorem at_int {l : List Int} {d : Int} (h0 : 0 ≤ d) (h1 : d < l.length) : ∃ v, v ∈ l ∧ atI (l.map V.int) d = some (.int v) := by
  have hlt : d.toNat < l.length := by omega
  exact ⟨l[d.toNat]'hlt, List.getElem_mem hlt, at_of (j := d.toNat) (by omega) (by simp [hlt])⟩
theorem none_of {H H' : Hp} {b p : Addr} {o : HO} (k : Gx b H H') (hb : H b = some o) (hb' : ∃ u, H' b = some u) (h : H' p = none) : H p = none := by
  cases q : H p with
  | none => rfl
  | some u =>
    by_cases e : p = b
    · subst e
      obtain ⟨u', e'⟩ := hb'
      rw [h] at e'; cases e'
    · have := k _ _ e q
      rw [h] at this; cases this
theorem BoxAt.some {b : Addr} {n : Int} (h : BoxAt H b n) : ∃ o, H b = some o := by
  obtain ⟨b0, b1, b2, b3, h0, _⟩ := h
  exact ⟨_, h0⟩
theorem none_bx {H H' : Hp} {b p : Addr} {n m : Int} (k : Gx b H H') (hb : BoxAt H b n) (hb' : BoxAt H' b m) (h : H' p = none) : H p = none := by
  obtain ⟨o, e⟩ := hb.some
  exact none_of k e hb'.some h
def spPays (g : Wd) : Sp := fun vs H Q _ => ∃ (sc b : Addr) (n : Int) (ns : List Int), vs = [.ref sc, .ref b] ∧ ns.length ≤ 63 ∧ Sc g H sc ns b ∧ BoxAt H b n ∧ n ≤ 10 ^ 8 ∧ ∀ (p : Addr) (bs : List Int) (H' : Hp), BsOk bs → H p = none → Gx b H H' → H' p = some (.lst (bs.map V.int)) → Q (.ref p) H'
theorem p_pays (T : Top g) : FnG g 4 (gad g.K "_law_pays") (spPays g) := fk__law_pays T 2 fun vs H Q E ⟨sc, b, n, ns, ev, hl, hsc, hb, hn, h⟩ => by
  subst ev
  refine ⟨rfl, (by decide : 0 ≤ sizeLine), fun p hp => ?_⟩
  have k0 : Gx b H (upd H p (.lst [])) := Gx.gr (Gr.new hp)
  have pb : p ≠ b := fun e => by obtain ⟨o, z⟩ := hb.some; rw [← e, hp] at z; cases z
  refine CallP.by (p_take T) (by decide) ⟨sc, b, 12, n, ns, rfl, hl, hsc.gx k0, hb.gr (Gr.new hp), by omega, by decide, by decide, fun d H1 d0 d1 k1 hb1 => ?_⟩
  refine ⟨_, rfl, by omega, by omega, ?_⟩
  have hp1 : H1 p = some (.lst []) := k1 _ _ pb upd_same
  refine for_range (fun i σ H' => Gx b H H' ∧ BoxAt H' b (n + 1 + 2 * i) ∧ (∃ bs : List Int, bs.length = i ∧ (∀ x ∈ bs, 0 ≤ x ∧ x ≤ 10 ^ 30) ∧ H' p = some (.lst (bs.map V.int))) ∧ ∃ o1 o2, σ = [some (.ref sc), some (.ref b), some (.ref p), o1, o2])
    ⟨k0.trans k1, by simpa using hb1, ⟨[], rfl, fun x hx => (by cases hx), hp1⟩, none, none, rfl⟩ ?_ ?_
  · rintro i σ H' hi ⟨k2, hb2, ⟨bs, lb, bx, e2⟩, o1, o2, rfl⟩
    have hi' : (i : Int) < 13 := by omega
    refine ⟨⟨by decide, by decide, by decide⟩, (by decide : 6 ≤ sizeLine), fun q hq => ?_⟩
    have qp : q ≠ p := fun e => by rw [e, e2] at hq; cases hq
    have qb : q ≠ b := fun e => by obtain ⟨o, z⟩ := hb2.some; rw [← e, hq] at z; cases z
    refine CallP.by (p_take T) (by decide) ⟨sc, b, 6, n + 1 + 2 * i, ns, rfl, hl, hsc.gx (k2.trans (Gx.gr (Gr.new hq))), hb2.gr (Gr.new hq), by omega, by decide, by decide, fun d2 H3 d20 d21 k3 hb3 => ?_⟩
    have hq3 : H3 q = some (.lst (([2, 4, 9, 70, 70, 10 ^ 30 + 1] : List Int).map V.int)) := k3 _ _ qb upd_same
    obtain ⟨v, hv, ev⟩ := at_int (l := [2, 4, 9, 70, 70, 10 ^ 30 + 1]) d20 (by simpa using d21)
    have hv2 : 0 < v ∧ v ≤ 10 ^ 30 + 1 := by
      simp only [List.mem_cons, List.not_mem_nil, or_false] at hv
      rcases hv with rfl | rfl | rfl | rfl | rfl | rfl <;> decide
    refine IxR'.l (.of hq3) ev ?_
    have k4 := (k2.trans (Gx.gr (Gr.new (o := .lst (([2, 4, 9, 70, 70, 10 ^ 30 + 1] : List Int).map V.int)) hq))).trans k3
    have e4 : H3 p = some (.lst (bs.map V.int)) := k3 _ _ pb (by rw [upd_ne (Ne.symm qp)]; exact e2)
    refine IsLst.by rfl (.of e4) ?_
    refine CallP.by (p_take T) (by decide) ⟨sc, b, v, n + 1 + 2 * i + 1, ns, rfl, hl, hsc.gx k4, hb3, by omega, hv2.1, by have := hv2.2; omega, fun d3 H5 d30 d31 k5 hb5 => ?_⟩
    have e5 : H5 p = some (.lst (bs.map V.int)) := k5 _ _ pb e4
    refine AppP.by e5 (by rw [List.length_map, sizeLine_eq]; omega) ?_
    refine ⟨fun a o n1 e => ?_, ?_, ⟨bs ++ [d3], by rw [List.length_append, lb]; rfl, ?_, ?_⟩, _, _, rfl⟩
    · have ap : a ≠ p := fun e' => by rw [e', hp] at e; cases e
      rw [upd_ne ap]
      exact (k4.trans k5) _ _ n1 e
    · obtain ⟨c0, c1, c2, c3, z0, z1, z2, z3, z4, z5, z6⟩ := hb5
      exact ⟨c0, c1, c2, c3, by rw [upd_ne (Ne.symm pb)]; exact z0, z1, z2, z3, z4, by omega, z6⟩
    · intro x hx
      rcases List.mem_append.mp hx with hx | hx
      · exact bx x hx
      · rw [List.mem_singleton] at hx
        subst hx
        exact ⟨d30, by omega⟩
    · rw [List.map_append]; exact upd_same
  · rintro σ H' ⟨k2, hb2, ⟨bs, lb, bx, e2⟩, o1, o2, rfl⟩
    exact h p bs H' ⟨by omega, by omega, fun x hx => (bx x hx).1, fun x hx => (bx x hx).2⟩ hp k2 e2
end
end Lw

namespace Lw
open PySem PySem.Spec PyProof.Rows L2 Cy Tx
section
variable {g : Wd} {j : Nat} {H : Hp}
theorem RoundAt.gx {H' : Hp} {r b : Addr} {bs : List Int} {n : Int} (k : Gx b H H') (hb : BoxAt H b n) (h : RoundAt g H r bs) : RoundAt g H' r bs := by
  obtain ⟨dx, t, h1, h2⟩ := h
  obtain ⟨b0, b1, b2, b3, z, _⟩ := hb
  exact ⟨dx, t, k _ _ (fun e => by rw [e, z] at h1; cases h1) h1, k _ _ (fun e => by rw [e, z] at h2; cases h2) h2⟩
def spRnd (g : Wd) : Sp := fun vs H Q _ => ∃ (p : Addr) (bs : List Int), vs = [.ref p] ∧ H p = some (.lst (bs.map V.int)) ∧ BsOk bs ∧ ∀ r H', Gr H H' → RoundAt g H' r bs → Q (.ref r) H'
theorem take_succ' {l : List Int} {i : Nat} {x : Int} (h : l[i]? = some x) : l.take (i + 1) = l.take i ++ [x] := by
  rw [List.take_succ, h]; rfl
theorem cut1 (l : List Int) : cutV (l.map V.int) (some 1) none = (l.drop 1).map V.int := by
  unfold cutV
  rw [show (1 : Int) = ((1 : Nat) : Int) from rfl, HT.sIx_nat, HT.sIx_none, List.map_drop]
  by_cases q : 1 ≤ (l.map V.int).length
  · rw [Nat.min_eq_left q]
    exact List.take_of_length_le (by rw [List.length_drop]; exact Nat.le_refl _)
  · have e : l.map V.int = [] := List.eq_nil_of_length_eq_zero (by omega)
    rw [e]; rfl
theorem p_round (T : Top g) : FnG g 13 (gad g.K "_law_round") (spRnd g) := fk__law_round T 11 fun vs H Q E ⟨p, bs, ev, hp, hb, h⟩ => by
  subst ev
  have l1 := hb.l1
  have l2 := hb.l2
  obtain ⟨b0, r0, rfl⟩ : ∃ b0 r0, bs = b0 :: r0 := by
    cases bs with
    | nil => simp at l1
    | cons a r => exact ⟨a, r, rfl⟩
  refine ⟨rfl, IxR'.l (.of hp) (v := .int b0) (at_of (j := 0) rfl rfl) ?_⟩
  refine mk_round T (bs := [b0]) (by decide) (by simp) (by simp) (fun x hx => by
    rw [List.mem_singleton] at hx; subst hx; exact hb.nn _ (List.mem_cons_self ..)) fun r H1 k1 hr0 ra => ?_
  refine SlP.l (.of (k1 _ _ hp)) fun q hq => ?_
  rw [cut1]
  refine SeqP.l rfl (.of upd_same) ?_
  have k2 := k1.trans (Gr.new (o := .lst (((b0 :: r0).drop 1).map V.int)) hq)
  refine for_list (xs := ((b0 :: r0).drop 1).map V.int) (fun i σ H' => Gr H H' ∧ H' q = some (.lst (((b0 :: r0).drop 1).map V.int)) ∧ ∃ r o, RoundAt g H' r ((b0 :: r0).take (i + 1)) ∧ σ = [some (.ref p), some (.ref r), o])
    ⟨k2, upd_same, r, none, ra.gr (Gr.new hq), rfl⟩ (fun i σ H' hi ⟨_, e, _⟩ => .of e) ?_ ?_
  · rintro i x σ H' hx ⟨k3, e3, r', o, ra', rfl⟩
    rw [List.getElem?_map] at hx
    cases qx : ((b0 :: r0).drop 1)[i]? with
    | none => rw [qx] at hx; cases hx
    | some y =>
      rw [qx] at hx
      cases hx
      have ey : (b0 :: r0)[i + 1]? = some y := by rw [List.getElem?_drop] at qx; rw [Nat.add_comm]; exact qx
      have hi : i + 1 < (b0 :: r0).length := (List.getElem?_eq_some_iff.mp ey).1
      have hy : y ∈ b0 :: r0 := List.mem_of_getElem? ey
      refine mk_round T (bs := [y]) (by decide) (by simp) (by simp) (fun x hx => by
        rw [List.mem_singleton] at hx; subst hx; exact hb.nn _ hy) fun r2 H4 k4 hr2 ra2 => ?_
      obtain ⟨dx1, t1, i1, i2⟩ := ra'.gr k4
      obtain ⟨dx2, t2, j1, j2⟩ := id ra2
      refine AddR.own (OwAdd.by i1 j1 (sf_Round T) (du_Round_add T).1 (du_Round_add T).2 (p_radd T) (by decide) ?_)
      refine ⟨r', r2, _, _, rfl, ⟨dx1, t1, i1, i2⟩, ra2, ?_, by simp, ?_, ?_, fun s H5 k5 hs ra5 => ?_⟩
      · intro e
        have := congrArg List.length e
        rw [List.length_take] at this
        simp at this
      · rw [List.length_take]; simp at l2 hi ⊢; omega
      · intro x hx
        rcases List.mem_append.mp hx with z | z
        · exact hb.nn _ (List.mem_of_mem_take z)
        · rw [List.mem_singleton] at z; subst z; exact hb.nn _ hy
      · refine ⟨(k3.trans k4).trans k5, k5 _ _ (k4 _ _ e3), s, _, ?_, rfl⟩
        rw [take_succ' ey]
        exact ra5
  · rintro σ H' ⟨k3, e3, r', o, ra', rfl⟩
    refine h r' H' k3 ?_
    have e : (b0 :: r0).take ((((b0 :: r0).drop 1).map V.int).length + 1) = b0 :: r0 := by
      rw [List.length_map, List.length_drop]
      exact List.take_of_length_le (by simp)
    rw [e] at ra'
    exact ra'
/-- a word -/
def spWord (g : Wd) : Sp := fun vs H Q _ => ∃ (sc b : Addr) (w n : Int) (ns : List Int), vs = [.ref sc, .ref b, .int w] ∧ ns.length ≤ 63 ∧ Sc g H sc ns b ∧ BoxAt H b n ∧ n ≤ 10 ^ 8 ∧ 1 ≤ w ∧ w ≤ 64 ∧ ∀ (z : Str) (H' : Hp), okW z = true → (z.length : Int) ≤ w → Gx b H H' → BoxAt H' b (n + 80) → Q (.str z) H'
theorem okL_app {l : List Nat} {c : Nat} (h : okL l = true) (hl : l ≠ []) (hc : Bit c = true) : okL (l ++ [c]) = true := by
  unfold okL at h ⊢
  obtain ⟨h1, h2⟩ := Bool.and_eq_true_iff.mp h
  have e : (l ++ [c]).head? = l.head? := by
    cases l with
    | nil => exact absurd rfl hl
    | cons a r => rfl
  rw [e, h1, List.all_append, h2]
  simp [hc]
theorem bit01 (k : Bool) : ∃ c, atI ("01" : Str).cps.toList (if k = true then 1 else 0) = some c ∧ Bit c = true := by
  cases k with
  | true => exact ⟨49, by decide +kernel, by decide⟩
  | false => exact ⟨48, by decide +kernel, by decide⟩
theorem p_word (T : Top g) : FnG g 4 (gad g.K "_law_word") (spWord g) := fk__law_word T 2 fun vs H Q E ⟨sc, b, w, n, ns, ev, hl, hsc, hb, hn, w1, w2, h⟩ => by
  subst ev
  refine ⟨rfl, CallP.by (p_take T) (by decide) ⟨sc, b, w + 1, n, ns, rfl, hl, hsc, hb, by omega, by omega, by omega, fun s0 H1 s00 s01 k1 hb1 => ?_⟩⟩
  refine CallP.by (p_take T) (by decide) ⟨sc, b, 5, n + 1, ns, rfl, hl, hsc.gx k1, hb1, by omega, by decide, by decide, fun wy H2 wy0 wy1 k2 hb2 => ?_⟩
  have k12 := k1.trans k2
  -- the tail, for any size to w
  have tail : ∀ (s : Int), 0 ≤ s → s ≤ w → tSeq (tIfS (cTest (tOp (cEqN g.K false) (cV 3) (tC (.int 0)))) (tRet (tC (.str ""))) (tNext))
    (tSeq (tAsg (cCall g 2 (fun cls d _ H => E cls d H) (gad g.K "_law_take") (tCons (cV 0) (tCons (cV 1) (tCons (tC (.int 3)) (tNil))))) (gName 5))
    (tSeq (tAsg (tC (.str "1")) (gName 6))
    (tSeq (tFor (iRng1 (tCons (tOp cSub (cV 3) (tC (.int 1))) (tNil))) (gName 7) (tSeq (tAsg (cCall g 2 (fun cls d _ H => E cls d H) (gad g.K "_law_take") (tCons (cV 0) (tCons (cV 1) (tCons (tOp (cIx g.K) (tLst (tCons (tC (.int 2)) (tCons (tC (.int 5)) (tCons (tC (.int 5)) (tNil))))) (cV 5)) (tNil))))) (gName 8))
    (tAsg (tOp (cAdd g.K noOw) (cV 6) (tOp (cIx g.K) (tC (.str "01")) (tCB (cInt) (tCons (cOrV (tOp (cEqN g.K false) (cV 8) (tC (.int 1))) (cAndV (tOp (cEqN g.K false) (cV 5) (tC (.int 2))) (tOp cGt (cV 8) (tC (.int 0))))) (tNil))))) (gName 6))))
    (tRet (cV 6))))) { nx := fun _ H1 => Q .non H1, rt := Q } [some (.ref sc), some (.ref b), some (.int w), some (.int s), some (.int wy), none, none, none, none] H2 := fun s s0 s1 => by
    refine ite_i (fun c => ?_) (fun c => ?_)
    · exact h "" H2 (by decide +kernel) (by rw [show ("" : Str).length = 0 from by decide +kernel]; omega) k12 (hb2.mono (by omega))
    have sn : ¬ s = 0 := by
      intro e; subst e; exact Bool.noConfusion c
    refine CallP.by (p_take T) (by decide) ⟨sc, b, 3, n + 1 + 1, ns, rfl, hl, hsc.gx k12, hb2, by omega, by decide, by decide, fun kd H3 kd0 kd1 k3 hb3 => ?_⟩
    refine ⟨_, rfl, by omega, by omega, ?_⟩
    refine for_range (fun i σ H' => Gx b H H' ∧ BoxAt H' b (n + 3 + i) ∧ ∃ (z : Str) (o1 o2 : Option V), okW z = true ∧ z.length = i + 1 ∧ σ = [some (.ref sc), some (.ref b), some (.int w), some (.int s), some (.int wy), some (.int kd), some (.str z), o1, o2])
      ⟨k12.trans k3, hb3.mono (by omega), "1", none, none, by decide +kernel, len1, rfl⟩ ?_ ?_
    · rintro i σ H' hi ⟨k4, hb4, z, o1, o2, oz, lz, rfl⟩
      refine ⟨(by decide : 3 ≤ sizeLine), fun q hq => ?_⟩
      obtain ⟨v, hv, ev⟩ := at_int (l := [2, 5, 5]) kd0 (by simpa using kd1)
      have hv2 : 0 < v ∧ v ≤ 5 := by
        simp only [List.mem_cons, List.not_mem_nil, or_false] at hv
        rcases hv with rfl | rfl | rfl <;> decide
      refine IxR'.l (xs := ([2, 5, 5] : List Int).map V.int) (.of upd_same) ev ?_
      refine CallP.by (p_take T) (by decide) ⟨sc, b, v, n + 3 + i, ns, rfl, hl, hsc.gx (k4.trans (Gx.gr (Gr.new hq))), hb4.gr (Gr.new hq), by omega, hv2.1, by omega, fun d H5 d0 d1 k5 hb5 => ?_⟩
      have k6 := (k4.trans (Gx.gr (Gr.new (o := .lst (([2, 5, 5] : List Int).map V.int)) hq))).trans k5
      have fin : ∀ k : Bool, (("01" : Str).length ≤ sizeLine ∧ ∃ c, atI ("01" : Str).cps.toList (if k = true then 1 else 0) = some c ∧ (z.length + (⟨#[c]⟩ : Str).length ≤ sizeLine ∧
          (Gx b H H5 ∧ BoxAt H5 b (n + 3 + (i + 1 : Nat)) ∧ ∃ (z' : Str) (o1 o2 : Option V), okW z' = true ∧ z'.length = i + 1 + 1 ∧ [some (.ref sc), some (.ref b), some (.int w), some (.int s), some (.int wy), some (.int kd), some (.str (z ++ ⟨#[c]⟩)), some (.int (0 + i)), some (.int d)] = [some (.ref sc), some (.ref b), some (.int w), some (.int s), some (.int wy), some (.int kd), some (.str z'), o1, o2]))) := fun k => by
        obtain ⟨c, hc, bc⟩ := bit01 k
        refine ⟨by decide +kernel, c, hc, ?_, k6, hb5.mono (by omega), z ++ ⟨#[c]⟩, _, _, ?_, ?_, rfl⟩
        · show z.length + 1 ≤ sizeLine
          rw [sizeLine_eq]; omega
        · rw [okW_eq] at oz ⊢
          rw [ls_app]
          refine okL_app oz (fun e => ?_) bc
          rw [ls_len, e] at lz
          simp at lz
        · rw [len_app, lz]
          rfl
      refine ite_i (fun _ => fin true) (fun _ => ?_)
      refine ite_i (fun _ => fin _) (fun _ => fin false)
    · rintro σ H' ⟨k4, hb4, z, o1, o2, oz, lz, rfl⟩
      exact h z H' oz (by omega) k4 (hb4.mono (by omega))
  have d4 : CDivW 0 4 := ⟨(by decide : (0 : Int) < 4), (by decide +kernel : (4 : Int).natAbs.log2 < 9000)⟩
  have step : ∀ (s : Int), 0 ≤ s → s ≤ w → 0 ≤ max 0 (w - 1 - s / 4) ∧ max 0 (w - 1 - s / 4) ≤ w := fun s a b => by omega
  refine ite_i (fun c => ?_) (fun c => ?_)
  · refine ite_i (fun c => ?_) (fun c => ?_)
    · refine ite_i (fun _ => ?_) (fun z => Bool.noConfusion z)
      exact ⟨d4, tail _ (step w (by omega) (by omega)).1 (step w (by omega) (by omega)).2⟩
    · refine ite_i (fun _ => ?_) (fun _ => tail w (by omega) (by omega))
      exact ⟨d4, tail _ (step w (by omega) (by omega)).1 (step w (by omega) (by omega)).2⟩
  · refine ite_i (fun c => ?_) (fun c => ?_)
    · refine ite_i (fun _ => ?_) (fun z => Bool.noConfusion z)
      exact ⟨d4, tail _ (step s0 s00 (by omega)).1 (step s0 s00 (by omega)).2⟩
    · refine ite_i (fun _ => ?_) (fun _ => tail s0 s00 (by omega))
      exact ⟨d4, tail _ (step s0 s00 (by omega)).1 (step s0 s00 (by omega)).2⟩
end
end Lw

namespace Lw
open PySem PySem.Spec PyProof.Rows L2 Cy Tx
section
variable {g : Wd} {j : Nat} {H : Hp}
/-- a standing [word, places, phase] -/
structure StV (z : Str) (w t : Int) : Prop where
  ok : okW z = true
  w1 : 1 ≤ w
  w2 : w ≤ 64
  lz : (z.length : Int) ≤ w
  t0 : 0 ≤ t
  t1 : t < 10 ^ 6
def Stn (H : Hp) (p : Addr) (z : Str) (w t : Int) : Prop := H p = some (.lst [.str z, .int w, .int t]) ∧ StV z w t
def spStand (g : Wd) : Sp := fun vs H Q _ => ∃ (sc b : Addr) (n : Int) (ns : List Int), vs = [.ref sc, .ref b] ∧ ns.length ≤ 63 ∧ Sc g H sc ns b ∧ BoxAt H b n ∧ n ≤ 10 ^ 7 ∧ ∀ (p : Addr) (z : Str) (w t : Int) (H' : Hp), H p = none → Gx b H H' → BoxAt H' b (n + 100) → Stn H' p z w t → Q (.ref p) H'
theorem p_stand (T : Top g) : FnG g 6 (gad g.K "_law_stand") (spStand g) := fk__law_stand T 4 fun vs H Q E ⟨sc, b, n, ns, ev, hl, hsc, hb, hn, h⟩ => by
  subst ev
  refine ⟨rfl, (by decide : 3 ≤ sizeLine), fun q hq => ?_⟩
  have qb : q ≠ b := fun e => by obtain ⟨o, z⟩ := hb.some; rw [← e, hq] at z; cases z
  have k0 : Gx b H (upd H q (.lst (([6, 64, 64] : List Int).map V.int))) := Gx.gr (Gr.new hq)
  refine CallP.by (p_take T) (by decide) ⟨sc, b, 3, n, ns, rfl, hl, hsc.gx k0, hb.gr (Gr.new hq), by omega, by decide, by decide, fun d H1 d0 d1 k1 hb1 => ?_⟩
  obtain ⟨v, hv, ev⟩ := at_int (l := [6, 64, 64]) d0 (by simpa using d1)
  have hv2 : 6 ≤ v ∧ v ≤ 64 := by
    simp only [List.mem_cons, List.not_mem_nil, or_false] at hv
    rcases hv with rfl | rfl | rfl <;> decide
  refine IxR'.l (.of (k1 _ _ qb upd_same)) ev ?_
  have k01 := k0.trans k1
  refine CallP.by (p_take T) (by decide) ⟨sc, b, v, n + 1, ns, rfl, hl, hsc.gx k01, hb1, by omega, by omega, by omega, fun wd H2 wd0 wd1 k2 hb2 => ?_⟩
  have k02 := k01.trans k2
  refine ⟨⟨by decide, by decide, by decide⟩, (by decide : 3 ≤ sizeLine), fun q2 hq2 => ?_⟩
  have q2b : q2 ≠ b := fun e => by obtain ⟨o, z⟩ := hb2.some; rw [← e, hq2] at z; cases z
  have k3 : Gx b H2 (upd H2 q2 (.lst (([12, 12, 10 ^ 6] : List Int).map V.int))) := Gx.gr (Gr.new hq2)
  have hb3 := hb2.gr (Gr.new (o := .lst (([12, 12, 10 ^ 6] : List Int).map V.int)) hq2)
  refine CallP.by (p_take T) (by decide) ⟨sc, b, 3, n + 2, ns, rfl, hl, hsc.gx (k02.trans k3), hb3.mono (by omega), by omega, by decide, by decide, fun d2 H4 d20 d21 k4 hb4 => ?_⟩
  obtain ⟨u, hu, eu⟩ := at_int (l := [12, 12, 10 ^ 6]) d20 (by simpa using d21)
  have hu2 : 0 < u ∧ u ≤ 10 ^ 6 := by
    simp only [List.mem_cons, List.not_mem_nil, or_false] at hu
    rcases hu with rfl | rfl | rfl <;> decide
  refine IxR'.l (.of (k4 _ _ q2b upd_same)) eu ?_
  have k04 := (k02.trans k3).trans k4
  refine CallP.by (p_take T) (by decide) ⟨sc, b, u, n + 3, ns, rfl, hl, hsc.gx k04, hb4.mono (by omega), by omega, by omega, by omega, fun t H5 t0 t1 k5 hb5 => ?_⟩
  have k05 := k04.trans k5
  refine CallP.by (p_word T) (by decide) ⟨sc, b, 1 + wd, n + 4, ns, rfl, hl, hsc.gx k05, hb5.mono (by omega), by omega, by omega, by omega, fun z H6 oz lz k6 hb6 => ?_⟩
  have k06 := k05.trans k6
  refine ⟨(by decide : 3 ≤ sizeLine), fun p hp => ?_⟩
  have hp0 : H p = none := none_bx k06 hb hb6 hp
  exact h p z (1 + wd) t _ hp0 (k06.trans (Gx.gr (Gr.new hp))) ((hb6.gr (Gr.new hp)).mono (by omega)) ⟨upd_same, oz, by omega, by omega, lz, t0, by omega⟩
theorem Stn.gx {H' : Hp} {b p : Addr} {n : Int} {z : Str} {w t : Int} (k : Gx b H H') (hb : BoxAt H b n) (h : Stn H p z w t) : Stn H' p z w t := by
  refine ⟨k _ _ (fun e => ?_) h.1, h.2⟩
  obtain ⟨b0, b1, b2, b3, z0, _⟩ := hb
  have h1 := h.1
  rw [e, z0] at h1
  have h2 := HO.lst.inj (Option.some.inj h1)
  have h3 := congrArg List.length h2
  simp at h3
theorem Stn.gr {H' : Hp} {p : Addr} {z : Str} {w t : Int} (k : Gr H H') (h : Stn H p z w t) : Stn H' p z w t := ⟨k _ _ h.1, h.2⟩
/-- the list of two standings -/
structure Sts (H : Hp) (s p1 p2 : Addr) (z1 : Str) (w1 t1 : Int) (z2 : Str) (w2 t2 : Int) : Prop where
  l : H s = some (.lst [.ref p1, .ref p2])
  s1 : Stn H p1 z1 w1 t1
  s2 : Stn H p2 z2 w2 t2
theorem Sts.gx {H' : Hp} {b s p1 p2 : Addr} {n : Int} {z1 z2 : Str} {w1 t1 w2 t2 : Int} (k : Gx b H H') (hb : BoxAt H b n) (h : Sts H s p1 p2 z1 w1 t1 z2 w2 t2) : Sts H' s p1 p2 z1 w1 t1 z2 w2 t2 := by
  refine ⟨k _ _ (fun e => ?_) h.l, h.s1.gx k hb, h.s2.gx k hb⟩
  obtain ⟨b0, b1, b2, b3, z0, _⟩ := hb
  have h1 := h.l
  rw [e, z0] at h1
  have h3 := congrArg List.length (HO.lst.inj (Option.some.inj h1))
  simp at h3
theorem Sts.gr {H' : Hp} {s p1 p2 : Addr} {z1 z2 : Str} {w1 t1 w2 t2 : Int} (k : Gr H H') (h : Sts H s p1 p2 z1 w1 t1 z2 w2 t2) : Sts H' s p1 p2 z1 w1 t1 z2 w2 t2 := ⟨k _ _ h.l, h.s1.gr k, h.s2.gr k⟩
theorem Sts.at {s p1 p2 : Addr} {z1 z2 : Str} {w1 t1 w2 t2 : Int} (h : Sts H s p1 p2 z1 w1 t1 z2 w2 t2) {d : Int} (h0 : 0 ≤ d) (h1 : d < 2) : ∃ (p : Addr) (z : Str) (w t : Int), atI [V.ref p1, .ref p2] d = some (.ref p) ∧ Stn H p z w t := by
  have : d = 0 ∨ d = 1 := by omega
  rcases this with rfl | rfl
  · exact ⟨p1, z1, w1, t1, at_of (j := 0) rfl rfl, h.s1⟩
  · exact ⟨p2, z2, w2, t2, at_of (j := 1) rfl rfl, h.s2⟩
def MkOk (m : Int) : Prop := 0 ≤ m ∧ m ≤ 10 ^ 31
def spMarks (g : Wd) : Sp := fun vs H Q _ => ∃ (sc b s p1 p2 : Addr) (n : Int) (ns : List Int) (z1 : Str) (w1 t1 : Int) (z2 : Str) (w2 t2 : Int), vs = [.ref sc, .ref b, .ref s] ∧ ns.length ≤ 63 ∧ Sc g H sc ns b ∧ BoxAt H b n ∧ n ≤ 10 ^ 7 ∧ Sts H s p1 p2 z1 w1 t1 z2 w2 t2 ∧
  ∀ (p : Addr) (m0 m1 m2 : Int) (H' : Hp), H p = none → Gx b H H' → BoxAt H' b (n + 100) → MkOk m0 → MkOk m1 → MkOk m2 → H' p = some (.lst [.int m0, .int m1, .int m2]) → Q (.ref p) H'
end
end Lw

-- of law_k55_rule_texts
namespace Lw
open PySem PySem.Spec PyProof.Rows L2 Cy Tx
theorem pre1 (c a : Nat) (r : List Nat) : TL.pre [c] (a :: r) = (a == c) := by
  unfold TL.pre
  rw [Bool.eq_iff_iff]
  simp
theorem spl_all (c : Nat) : ∀ (l acc : List Nat), TL.spl [c] 0 acc l ≠ [] ∧ (TL.spl [c] 0 acc l).length ≤ l.length + 1 ∧ ∀ p ∈ TL.spl [c] 0 acc l, p.length ≤ acc.length + l.length ∧ (c ∉ acc → c ∉ p)
  | [], acc => by
    rw [TL.spl_nil]
    refine ⟨by simp, by simp, fun p hp => ?_⟩
    rw [List.mem_singleton] at hp
    subst hp
    exact ⟨by omega, id⟩
  | a :: r, acc => by
    cases q : TL.pre [c] (a :: r) with
    | true =>
      rw [TL.spl_hit q]
      obtain ⟨h1, h2, h3⟩ := spl_all c r []
      refine ⟨by simp, ?_, fun p hp => ?_⟩
      · show ([c].length - 1 |> fun k => (acc :: TL.spl [c] k [] r).length) ≤ _
        simp only [List.length_cons, List.length_nil]
        have := h2
        show (TL.spl [c] 0 [] r).length + 1 ≤ _
        omega
      · rcases List.mem_cons.mp hp with e | hp
        · subst e
          exact ⟨by omega, id⟩
        · obtain ⟨a1, a2⟩ := h3 p hp
          refine ⟨by rw [List.length_cons]; simp at a1; omega, fun _ => a2 (by simp)⟩
    | false =>
      rw [TL.spl_miss q]
      obtain ⟨h1, h2, h3⟩ := spl_all c r (acc ++ [a])
      refine ⟨h1, by rw [List.length_cons]; omega, fun p hp => ?_⟩
      obtain ⟨a1, a2⟩ := h3 p hp
      rw [List.length_append, List.length_singleton] at a1
      refine ⟨by rw [List.length_cons]; omega, fun hn => a2 ?_⟩
      rw [List.mem_append, List.mem_singleton]
      rintro (z | z)
      · exact hn z
      · rw [pre1] at q
        subst z
        simp at q
theorem spl_sum (c : Nat) : ∀ (l acc : List Nat), ((TL.spl [c] 0 acc l).map List.length).sum ≤ acc.length + l.length
  | [], acc => by rw [TL.spl_nil]; simp
  | a :: r, acc => by
    cases q : TL.pre [c] (a :: r) with
    | true =>
      rw [TL.spl_hit q]
      have := spl_sum c r []
      show acc.length + ((TL.spl [c] 0 [] r).map List.length).sum ≤ _
      rw [List.length_cons]
      simp at this ⊢
      omega
    | false =>
      rw [TL.spl_miss q]
      have := spl_sum c r (acc ++ [a])
      rw [List.length_append, List.length_singleton] at this
      rw [List.length_cons]
      omega
theorem split_sp {z y : Str} {c : Nat} (hy : y = ⟨#[c]⟩) (hc : c < 256) : Txt.split z y = (TL.spl [c] 0 [] (ls z)).map SX.S := by
  have q := SX.split_S (a := ls z) (b := [c]) (by simp) (by simpa using hc)
  have ez : SX.S (ls z) = z := SX.S_tl z
  rw [ez] at q
  subst hy
  exact q
theorem split_facts {z y : Str} {c : Nat} (hy : y = ⟨#[c]⟩) (hc : c < 256) : Txt.split z y ≠ [] ∧ (Txt.split z y).length ≤ z.length + 1 ∧ ∀ p ∈ Txt.split z y, p.length ≤ z.length ∧ c ∉ ls p := by
  obtain ⟨h1, h2, h3⟩ := spl_all c (ls z) []
  rw [split_sp hy hc]
  refine ⟨by simpa using h1, by rw [List.length_map, ls_len z]; exact h2, fun p hp => ?_⟩
  obtain ⟨l, hl, rfl⟩ := List.mem_map.mp hp
  obtain ⟨a1, a2⟩ := h3 l hl
  refine ⟨by rw [SX.S_len, ls_len z]; simpa using a1, a2 (by simp)⟩
theorem split_sum {z y : Str} {c : Nat} (hy : y = ⟨#[c]⟩) (hc : c < 256) : ((Txt.split z y).map (·.length)).sum ≤ z.length := by
  rw [split_sp hy hc, SX.lens]
  have := spl_sum c (ls z) []
  rw [ls_len z]
  simpa using this
theorem sp_eq : (" " : Str) = ⟨#[32]⟩ := by decide +kernel
theorem nl_eq : ("\n" : Str) = ⟨#[10]⟩ := by decide +kernel
/-- lines joined, cut again -/
theorem cut_lines {ps : List Str} (hne : ps ≠ []) (h : ∀ p ∈ ps, 10 ∉ ls p) : Txt.split (Txt.join "\n" ps) "\n" = ps := by
  exact TL.split_join (y := "\n") (s := 10) (S := []) (by decide +kernel) (by decide +kernel) hne h
end Lw
-- of law_k55_rule_texts
namespace Lw
open PySem PySem.Spec PyProof.Rows L2 Cy Tx
def off (b : Addr) (H : Hp) : Hp := fun a => if a = b then none else H a
theorem off_le {b : Addr} {H : Hp} : Gr (off b H) H := fun a o e => by
  unfold off at e
  split at e
  · cases e
  · exact e
theorem off_ne {b a : Addr} {H : Hp} {o : HO} (n : a ≠ b) (h : H a = some o) : off b H a = some o := by unfold off; rw [if_neg n]; exact h
theorem Gx.off {b : Addr} {H H' : Hp} (k : Gx b H H') : Gr (off b H) (off b H') := fun a o e => by
  have n : a ≠ b := fun q => by unfold Lw.off at e; rw [if_pos q] at e; cases e
  exact off_ne n (k a o n (off_le a o e))
theorem off_none {b a : Addr} {H : Hp} (h : H a = none) : off b H a = none := by unfold off; split; rfl; exact h
abbrev LcG (J : It) (g : TG) (tt : TT) (te : TE) (vs : List Nat) (σ : L2.St) (H1 : Hp) (D : Addr) (Qd : Hp → Prop) : Prop :=
    ∃ W : Nat → Nat → Hp → Prop, (∃ m, W 0 m (upd H1 D (.lst []))) ∧ ∀ i m H, W i m H →
      (J.stop i H ∧ Qd H) ∨ (J.go i H ∧ ∃ Nx : Hp → Prop, (∀ H', Nx H' → ∃ m', m' < m ∧ W (i + 1) m' H') ∧ ∀ x H', J.yld i H x H' → g x (wipe σ vs) H' fun σ2 H2 => wipe σ2 vs = wipe σ vs ∧ tt σ2 H2 fun b H3 =>
        if b = true then te σ2 H3 fun y H4 => ∃ acc, H4 D = some (.lst acc) ∧ acc.length < sizeLine ∧ Nx (upd H4 D (.lst (acc ++ [y]))) else Nx H3)
/-- a walk's comprehension of values -/
theorem lc_src {α : Type} {J : It} {G : Hp → Prop} {Y : Nat → Hp → V → Hp → Prop} {inj : α → V} {g : TG} {tt : TT} {te : TE} {vs : List Nat} {σ : L2.St} {H1 : Hp} {D : Addr} {Qd : Hp → Prop} (src : List α)
    (w : Walk J src.length G Y) (hn : src.length ≤ sizeLine) (hDn : H1 D = none) (hG : ∀ H, Gr H1 H → G H) (hY : ∀ i H x H', Y i H x H' → H' = H ∧ ∃ a, src[i]? = some a ∧ x = inj a) (F : α → Option V)
    (hs : ∀ a ∈ src, ∀ (H : Hp) (R : Option V → Hp → Prop), Gr H1 H → (∀ H4, Gr H H4 → R (F a) H4) → g (inj a) (wipe σ vs) H fun σ2 H2 => wipe σ2 vs = wipe σ vs ∧ tt σ2 H2 fun b H3 => if b = true then te σ2 H3 (fun y H4 => R (some y) H4) else R none H3)
    (hd : ∀ H, Gr H1 H → H D = some (.lst (src.filterMap F)) → Qd H) :
    LcG J g tt te vs σ H1 D Qd := by
  have len : ∀ i, i < src.length → ((src.take i).filterMap F).length < sizeLine := fun i hi => by
    have h1 := List.length_filterMap_le F (src.take i)
    rw [List.length_take] at h1
    omega
  have one : ∀ (i : Nat) (a : α), src[i]? = some a → (src.take (i + 1)).filterMap F = (src.take i).filterMap F ++ (F a).toList := fun i a e => by
    rw [List.take_succ, e, List.filterMap_append]
    cases h : F a <;> simp [h]
  refine lc_it w (fun i H => Gr H1 H ∧ H D = some (.lst ((src.take i).filterMap F))) ⟨Gr.new hDn, upd_same⟩ (fun i H _ p => hG H p.1) ?_ ?_
  · rintro i x H H' hi ⟨k, e⟩ y
    obtain ⟨rfl, a, ea, rfl⟩ := hY _ _ _ _ y
    have mem : a ∈ src := List.mem_of_getElem? ea
    have q := hs a mem H' (fun o H4 => match o with
      | some y => ∃ acc, H4 D = some (.lst acc) ∧ acc.length < sizeLine ∧ Gr H1 (upd H4 D (.lst (acc ++ [y]))) ∧ upd H4 D (.lst (acc ++ [y])) D = some (.lst ((src.take (i + 1)).filterMap F))
      | none => Gr H1 H4 ∧ H4 D = some (.lst ((src.take (i + 1)).filterMap F))) k fun H4 k4 => by
        rw [one i a ea]
        cases F a with
        | none => exact ⟨k.trans k4, by simpa using k4 _ _ e⟩
        | some y => exact ⟨_, k4 _ _ e, len i hi, gr_upd (k.trans k4) hDn, upd_same⟩
    exact q
  · rintro H ⟨k, e⟩
    rw [List.take_length] at e
    exact hd H k e
theorem lc_text {z : Str} {g : TG} {tt : TT} {te : TE} {vs : List Nat} {σ : L2.St} {H1 : Hp} {D : Addr} {Qd : Hp → Prop} (hn : z.length ≤ sizeLine) (hDn : H1 D = none) (F : Nat → Option V)
    (hs : ∀ a ∈ ls z, ∀ (H : Hp) (R : Option V → Hp → Prop), Gr H1 H → (∀ H4, Gr H H4 → R (F a) H4) → g (.str ⟨#[a]⟩) (wipe σ vs) H fun σ2 H2 => wipe σ2 vs = wipe σ vs ∧ tt σ2 H2 fun b H3 => if b = true then te σ2 H3 (fun y H4 => R (some y) H4) else R none H3)
    (hd : ∀ H, Gr H1 H → H D = some (.lst ((ls z).filterMap F)) → Qd H) : LcG (Its z) g tt te vs σ H1 D Qd := lc_src (inj := fun c => .str ⟨#[c]⟩) (ls z) (by
      have e : (ls z).length = z.cps.size := by simp
      rw [e]
      exact walk_str (z := z)) (by rw [← ls_len]; exact hn) hDn (fun _ _ => trivial) (fun i H x H' (y : H' = H ∧ ∃ c, z.cps[i]? = some c ∧ x = .str ⟨#[c]⟩) => ⟨y.1, by
      obtain ⟨_, c, h1, h2⟩ := y
      exact ⟨c, by simpa using h1, h2⟩⟩) F hs hd
theorem lc_lst {K : PySem.W.Frag} {a : Addr} {xs : List V} {g : TG} {tt : TT} {te : TE} {vs : List Nat} {σ : L2.St} {H1 : Hp} {D : Addr} {Qd : Hp → Prop} (hx : SqL K H1 a xs) (hn : xs.length ≤ sizeLine) (hDn : H1 D = none) (F : V → Option V)
    (hs : ∀ a ∈ xs, ∀ (H : Hp) (R : Option V → Hp → Prop), Gr H1 H → (∀ H4, Gr H H4 → R (F a) H4) → g a (wipe σ vs) H fun σ2 H2 => wipe σ2 vs = wipe σ vs ∧ tt σ2 H2 fun b H3 => if b = true then te σ2 H3 (fun y H4 => R (some y) H4) else R none H3)
    (hd : ∀ H, Gr H1 H → H D = some (.lst (xs.filterMap F)) → Qd H) : LcG (Itl K a) g tt te vs σ H1 D Qd := lc_src (inj := fun c => c) xs (walk_list (K := K) (a := a)) hn hDn (fun _ k => SqL_gr k hx) (fun i H x H' y => ⟨y.1, x, y.2, rfl⟩) F hs hd
theorem filterMap_all {α β : Type} (f : α → β) : ∀ l : List α, l.filterMap (fun a => some (f a)) = l.map f
  | [] => rfl
  | a :: r => by simp [List.filterMap_cons, filterMap_all f r]
def isD (c : Nat) : Bool := decide (48 ≤ c) && decide (c ≤ 57)
abbrev ten : Str := "0123456789"
theorem ls_ten : ls ten = [48, 49, 50, 51, 52, 53, 54, 55, 56, 57] := by decide +kernel
theorem cin_one {K : PySem.W.Frag} {z : Str} {c : Nat} {H : Hp} {Q : VK} (h : Q (.bl (decide (c ∈ ls z))) H) : cIn K false (.str ⟨#[c]⟩) (.str z) H Q := by
  show Q (.bl (false != !(Builtin.Str.occurrences z ⟨#[c]⟩ 0 z.length 1).isEmpty)) H
  rw [StrLaws.found_one]
  have e : (false != decide (c ∈ z.cps.toList)) = decide (c ∈ z.cps.toList) := by cases decide (c ∈ z.cps.toList) <;> rfl
  rw [e]; exact h
theorem cnin_one {K : PySem.W.Frag} {z : Str} {c : Nat} {H : Hp} {Q : VK} (h : Q (.bl (!decide (c ∈ ls z))) H) : cIn K true (.str ⟨#[c]⟩) (.str z) H Q := by
  show Q (.bl (true != !(Builtin.Str.occurrences z ⟨#[c]⟩ 0 z.length 1).isEmpty)) H
  rw [StrLaws.found_one]
  have e : (true != decide (c ∈ z.cps.toList)) = !decide (c ∈ z.cps.toList) := by cases decide (c ∈ z.cps.toList) <;> rfl
  rw [e]; exact h
theorem mem_ten (c : Nat) : decide (c ∈ ls ten) = isD c := by
  rw [ls_ten, Bool.eq_iff_iff]
  simp [isD]
  omega
def num? (z : Str) : Option Int := if (1 ≤ z.length ∧ z.length ≤ 3) ∧ (ls z).all isD = true then some ((NumText.digitsVal (ls z) : Nat) : Int) else none
def optV : Option Int → V
  | none => .non
  | some i => .int i
theorem num_int {z : Str} (h1 : 1 ≤ z.length) (h2 : z.length ≤ 3) (h : (ls z).all isD = true) : PySem.intText? z = some ((NumText.digitsVal (ls z) : Nat) : Int) :=
  intText_digits (x := z) (fun c hc => by
    have := List.all_eq_true.mp h c hc
    simp [isD] at this
    exact this) (fun e => by rw [ls_len] at h1; rw [show ls z = [] from e] at h1; simp at h1) (by omega)
theorem num_nn {z : Str} {n : Int} (h : num? z = some n) : 0 ≤ n := by
  unfold num? at h
  split at h
  · cases h; omega
  · cases h
theorem ml4 {n : Nat} (h : n ≤ 4000000) : n ≤ sizeLine := by rw [sizeLine_eq]; omega
theorem dt' {p : Prop} [Decidable p] (h : (!decide p) = true) : ¬p := by simpa using h
theorem df' {p : Prop} [Decidable p] (h : (!decide p) = false) : p := by simpa using h
section
variable {g : Wd} {j : Nat} {H : Hp}
def spNum : Sp := fun vs H Q _ => ∃ z : Str, vs = [.str z] ∧ z.length ≤ 4000000 ∧ ∀ H', Gr H H' → Q (optV (num? z)) H'
theorem p_rnum (T : Top g) : FnG g 2 (gad g.K "_read_number") spNum := fk__read_number T 0 fun vs H Q E ⟨z, ev, hz, h⟩ => by
  subst ev
  refine ⟨rfl, ?_⟩
  have no : ∀ {H'}, Gr H H' → ¬((1 ≤ z.length ∧ z.length ≤ 3) ∧ (ls z).all isD = true) → Q .non H' := fun k c => by
    have := h _ k
    rw [show num? z = none from if_neg c] at this
    exact this
  refine ⟨ml4 hz, ite_i (fun c1 => ?_) (fun c1 => ?_)⟩
  · refine GvP.by (gc_MOST_DIGITS T) (ite_i (fun c2 => ?_) (fun c2 => ?_))
    · exact no Gr.refl (fun q => by
        have h3 := dt' c2
        omega)
    · have h1 : 1 ≤ z.length := by have := dt c1; omega
      have h3 : z.length ≤ 3 := by have := df' c2; omega
      refine SeqP.s rfl fun D hD => ?_
      refine lc_text (by rw [sizeLine_eq]; omega) hD (fun c => some (.bl (isD c))) (fun a ha H2 R k hR => ?_) (fun H2 k e => ?_)
      · refine ⟨rfl, GvP.by (gc_DIGITS T) ?_⟩
        refine cin_one ?_
        rw [mem_ten]
        exact hR _ Gr.refl
      · rw [filterMap_all, show (ls z).map (fun c => V.bl (isD c)) = ((ls z).map isD).map V.bl by rw [List.map_map]; rfl] at e
        refine AllP.l (.of e) ?_
        have ea : ((ls z).map isD).all id = (ls z).all isD := by rw [List.all_map]; rfl
        rw [ea]
        refine ite_i (fun c => ?_) (fun c => ?_)
        · exact no k (fun q => by rw [q.2] at c; cases c)
        · have hd : (ls z).all isD = true := by
            cases q : (ls z).all isD
            · rw [q] at c; cases c
            · rfl
          refine ⟨_, num_int h1 h3 hd, by omega, ?_⟩
          have := h _ k
          rw [show num? z = some ((NumText.digitsVal (ls z) : Nat) : Int) from if_pos ⟨⟨h1, h3⟩, hd⟩] at this
          exact this
  · refine ite_i (fun _ => no Gr.refl (fun q => by have h3 := df c1; omega)) (fun c2 => Bool.noConfusion c2)
end
end Lw
-- of law_k55_rule_texts
namespace Lw
open PySem PySem.Spec PyProof.Rows L2 Cy Tx
theorem inV_strs (x : Str) : ∀ l : List Str, inV (.str x) (l.map V.str) = decide (x ∈ l)
  | [] => rfl
  | a :: r => by
    have h := inV_strs x r
    unfold inV at h ⊢
    rw [List.map_cons, List.any_cons, h]
    have e : eqV (.str a) (.str x) = decide (x = a) := by
      show (a == x) = decide (x = a)
      by_cases q : x = a
      · subst q; simp
      · have q2 : ¬ a = x := fun z => q z.symm
        simp [q, q2]
    rw [e]
    by_cases q : x = a <;> simp [q]
theorem flat_strs : ∀ l : List Str, (l.map V.str).all flatV = true
  | [] => rfl
  | a :: r => by rw [List.map_cons, List.all_cons, flat_strs r]; rfl
inductive Rl where
  | els (a : Str)
  | whn (f s : Str) (k : Int) (a : Str)
def facts : List Str := ["free", "living", "dead", "gap", "budget"]
def sgns : List Str := ["<=", ">=", "=="]
def cond? (f s k : Str) : Option (Str × Str × Int) := if f ∈ facts ∧ s ∈ sgns then (num? k).map fun n => (f, s, n) else none
def amtOk (a : Str) : Bool := decide (a = "all") || (num? a).isSome
def rl (ws : List Str) : Option Rl := match ws with
  | [w0, w1, a] => if w0 = "else" ∧ w1 = "carry" ∧ amtOk a = true then some (.els a) else none
  | [w0, f, s, k, w4, a] => if w0 = "when" ∧ w4 = "carry" ∧ amtOk a = true then (cond? f s k).map fun c => .whn c.1 c.2.1 c.2.2 a else none
  | _ => none
def rline (z : Str) : Option Rl := rl (Txt.split z " ")
/-- a rule as the program keeps it -/
def PRule (H : Hp) (v : V) (r : Rl) : Prop := match r with
  | .els a => ∃ p c, v = .ref p ∧ H p = some (.tup [.ref c, .str a]) ∧ H c = some (.tup [])
  | .whn f s k a => ∃ p c, v = .ref p ∧ H p = some (.tup [.ref c, .str a]) ∧ H c = some (.tup [.str f, .str s, .int k])
theorem PRule.gr {H H' : Hp} {v : V} {r : Rl} (k : Gr H H') (h : PRule H v r) : PRule H' v r := by
  cases r with
  | els a => obtain ⟨p, c, e, h1, h2⟩ := h; exact ⟨p, c, e, k _ _ h1, k _ _ h2⟩
  | whn f s n a => obtain ⟨p, c, e, h1, h2⟩ := h; exact ⟨p, c, e, k _ _ h1, k _ _ h2⟩
theorem dt0 {p : Prop} [Decidable p] (h : (false != decide p) = true) : p := by simpa using h
theorem df0 {p : Prop} [Decidable p] (h : (false != decide p) = false) : ¬p := by simpa using h
theorem dt1 {p : Prop} [Decidable p] (h : (true != decide p) = true) : ¬p := by simpa using h
theorem df1 {p : Prop} [Decidable p] (h : (true != decide p) = false) : p := by simpa using h
theorem last_of {ys : List Str} {a : Str} {l : List Str} {x : Str} (e : ys ++ [a] = l ++ [x]) : a = x := by
  have := congrArg List.getLast? e
  simpa using this
theorem rl_bad {ys : List Str} {a : Str} (h : amtOk a = false) : rl (ys ++ [a]) = none := by
  unfold rl
  split
  · rename_i w0 w1 x e
    have : a = x := last_of (l := [w0, w1]) e
    subst this
    simp [h]
  · rename_i w0 f s k w4 x e
    have : a = x := last_of (l := [w0, f, s, k, w4]) e
    subst this
    simp [h]
  · rfl
theorem rl_len {ws : List Str} (h3 : ws.length ≠ 3) (h6 : ws.length ≠ 6) : rl ws = none := by
  unfold rl
  split
  · simp at h3
  · simp at h6
  · rfl
theorem len3 {α : Type} {ws : List α} (h : ws.length = 3) : ∃ a b c, ws = [a, b, c] := match ws, h with
  | [a, b, c], _ => ⟨a, b, c, rfl⟩
theorem len6 {α : Type} {ws : List α} (h : ws.length = 6) : ∃ a b c d e f, ws = [a, b, c, d, e, f] := match ws, h with
  | [a, b, c, d, e, f], _ => ⟨a, b, c, d, e, f, rfl⟩
section
variable {g : Wd} {j : Nat} {H : Hp}
def spCond : Sp := fun vs H Q _ => ∃ f s k : Str, vs = [.str f, .str s, .str k] ∧ k.length ≤ 4000000 ∧ (cond? f s k = none → ∀ H', Gr H H' → Q .non H') ∧ (∀ n, cond? f s k = some (f, s, n) → ∀ c H', Gr H H' → H' c = some (.tup [.str f, .str s, .int n]) → Q (.ref c) H')
theorem p_cond (T : Top g) : FnG g 4 (gad g.K "_read_condition") spCond := fk__read_condition T 2 fun vs H Q E ⟨f, s, k, ev, hk, hno, hyes⟩ => by
  subst ev
  refine ⟨rfl, CallP.by (p_rnum T) (by decide) ⟨k, rfl, hk, fun H1 k1 => ?_⟩⟩
  refine GvP.by (gv_FACTS T) (InR.sq _ (.inr (gt_FACTS T _)) rfl rfl ?_)
  rw [show inV (V.str f) [V.str "free", V.str "living", V.str "dead", V.str "gap", V.str "budget"] = decide (f ∈ facts) from inV_strs f facts]
  refine ite_i (fun c => ?_) (fun c => ?_)
  · refine ite_i (fun _ => ?_) (fun z => Bool.noConfusion z)
    exact hno (if_neg fun q => by simp [q.1] at c) _ k1
  · have hf : f ∈ facts := by simpa using c
    refine GvP.by (gv_SIGNS T) (InR.sq _ (.inr (gt_SIGNS T _)) rfl rfl ?_)
    rw [show inV (V.str s) [V.str "<=", V.str ">=", V.str "=="] = decide (s ∈ sgns) from inV_strs s sgns]
    refine ite_i (fun c => ?_) (fun c => ?_)
    · refine ite_i (fun _ => ?_) (fun z => Bool.noConfusion z)
      exact hno (if_neg fun q => by simp [q.2] at c) _ k1
    · have hs : s ∈ sgns := by simpa using c
      have ec : cond? f s k = (num? k).map fun n => (f, s, n) := if_pos ⟨hf, hs⟩
      cases en : num? k with
      | none =>
        rw [en] at ec
        exact hno ec _ k1
      | some n =>
        rw [en] at ec
        exact ⟨(by decide : 3 ≤ sizeLine), fun p hp => hyes n ec p _ (k1.trans (Gr.new hp)) upd_same⟩
theorem gn {k : Nat} {v : V} {σ : L2.St} {H : Hp} {Q : L2.St → Hp → Prop} (h : Q (σ.set k (some v)) H) : gName k v σ H Q := h
theorem sif {c : TT} {t u r : TS} {D : Ends} {σ : L2.St} {H : Hp} (post : Bool → Hp → Prop) (h1 : ∀ K : Bool → Hp → Prop, (∀ b H2, post b H2 → K b H2) → c σ H K)
    (h2 : ∀ b H2, post b H2 → if b = true then t { D with nx := r D } σ H2 else u { D with nx := r D } σ H2) : tSeq (tIfS c t u) r D σ H := h1 _ h2
def spRL : Sp := fun vs H Q _ => ∃ z : Str, vs = [.str z] ∧ z.length ≤ 3000000 ∧ (rline z = none → ∀ H', Gr H H' → Q .non H') ∧ (∀ r, rline z = some r → ∀ v H', Gr H H' → PRule H' v r → Q v H')
theorem p_rline (T : Top g) : FnG g 6 (gad g.K "_read_line") spRL := fk__read_line T 4 fun vs H Q E ⟨z, ev, hz, hno, hyes⟩ => by
  subst ev
  refine ⟨rfl, by decide +kernel, by rw [sizeLine_eq]; omega, fun p hp => ?_⟩
  have e0 : rline z = rl (Txt.split z " ") := rfl
  rw [e0] at hno hyes
  have hlen : ∀ w ∈ Txt.split z " ", w.length ≤ 4000000 := fun w hw => by have := ((split_facts (z := z) sp_eq (by decide)).2.2 w hw).1; omega
  have hne := (split_facts (z := z) sp_eq (by decide)).1
  revert hno hyes hlen hne
  generalize Txt.split z " " = ws
  intro hno hyes hlen hne
  have k1 : Gr H (upd H p (.lst (ws.map V.str))) := Gr.new hp
  have hpp : upd H p (.lst (ws.map V.str)) p = some (.lst (ws.map V.str)) := upd_same
  revert k1 hpp
  generalize upd H p (.lst (ws.map V.str)) = H1
  intro k1 hpp
  obtain ⟨ys, a, rfl⟩ : ∃ ys a, ws = ys ++ [a] := ⟨ws.dropLast, ws.getLast hne, (List.dropLast_concat_getLast hne).symm⟩
  refine IxR'.l (.of hpp) (v := .str a) (by rw [List.map_append]; exact atI_last _ _) ?_
  dsimp only [gName]
  refine sif (fun b H2 => Gr H1 H2 ∧ b = !amtOk a) (fun K hK => ?_) ?_
  · by_cases ea : a = "all"
    · have e : (true != decide (a = ("all" : Str))) = false := by simp [ea]
      show if (true != decide (a = ("all" : Str))) = true then _ else _
      rw [e]
      exact hK _ _ ⟨Gr.refl, by simp [amtOk, ea]⟩
    · have e : (true != decide (a = ("all" : Str))) = true := by simp [ea]
      show if (true != decide (a = ("all" : Str))) = true then _ else _
      rw [e]
      refine CallP.by (p_rnum T) (by decide) ⟨a, rfl, hlen a (by simp), fun H2 k2 => ?_⟩
      cases en : num? a with
      | none => exact hK _ _ ⟨k2, by simp [amtOk, ea, en]; rfl⟩
      | some n => exact hK _ _ ⟨k2, by simp [amtOk, ea, en]; rfl⟩
  · rintro b H2 ⟨k2, rfl⟩
    have k12 := k1.trans k2
    have hp2 := k2 _ _ hpp
    refine ite_i (fun c => hno (rl_bad (by simpa using c)) _ k12) (fun c => ?_)
    have am : amtOk a = true := by simpa using c
    dsimp only [tNext]
    revert hp2 hno hyes
    have hla : ∀ {l : List Str} {x : Str}, ys ++ [a] = l ++ [x] → x = a := fun e => (last_of e).symm
    revert hla hlen
    generalize ys ++ [a] = ws
    intro hlen hla hno hyes hp2
    refine sif (fun b H3 => H3 = H2 ∧ (b = true ↔ ∃ w, ws = [("else" : Str), "carry", w])) (fun K hK => ?_) ?_
    · refine LenP.l (.of hp2) ?_
      rw [List.length_map]
      refine ite_i (fun c3 => ?_) (fun c3 => hK _ _ ⟨rfl, ?_⟩)
      · have h3 : ws.length = 3 := by have := dt0 c3; omega
        obtain ⟨w0, w1, w2, rfl⟩ := len3 h3
        refine IxR'.l (.of hp2) (v := .str w0) rfl (ite_i (fun c4 => ?_) (fun c4 => hK _ _ ⟨rfl, ?_⟩))
        · refine IxR'.l (.of hp2) (v := .str w1) rfl (hK _ _ ⟨rfl, ?_⟩)
          have e0 := dt0 c4
          subst e0
          by_cases e1 : w1 = "carry" <;> simp [e1]
        · have e0 := df0 c4
          simp [e0]
      · have := df0 c3
        simp
        intro w e
        rw [e] at this
        simp at this
    · rintro b H3 ⟨rfl, hb⟩
      refine ite_i (fun c => ?_) (fun c => ?_)
      · obtain ⟨w, rfl⟩ := hb.mp c
        have : w = a := hla (l := ["else", "carry"]) rfl
        subst this
        refine ⟨by decide, fun q hq => ⟨(by decide : 2 ≤ sizeLine), fun r hr => ?_⟩⟩
        have rq : r ≠ q := fun e => by rw [e, upd_same] at hr; cases hr
        refine hyes (.els w) (by simp [rl, am]) _ _ ((k12.trans (Gr.new hq)).trans (Gr.new hr)) ⟨r, q, rfl, upd_same, ?_⟩
        rw [upd_ne (Ne.symm rq), upd_same]
      · have n3 : ¬∃ w, ws = [("else" : Str), "carry", w] := fun q => by rw [hb.mpr q] at c; cases c
        dsimp only [tNext]
        refine sif (fun b H4 => H4 = H3 ∧ (b = true ↔ ∃ f s k w, ws = [("when" : Str), f, s, k, "carry", w])) (fun K hK => ?_) ?_
        · refine LenP.l (.of hp2) ?_
          rw [List.length_map]
          refine ite_i (fun c3 => ?_) (fun c3 => hK _ _ ⟨rfl, ?_⟩)
          · have h6 : ws.length = 6 := by have := dt0 c3; omega
            obtain ⟨w0, w1, w2, w3, w4, w5, rfl⟩ := len6 h6
            refine IxR'.l (.of hp2) (v := .str w0) rfl (ite_i (fun c4 => ?_) (fun c4 => hK _ _ ⟨rfl, ?_⟩))
            · refine IxR'.l (.of hp2) (v := .str w4) rfl (hK _ _ ⟨rfl, ?_⟩)
              have e0 := dt0 c4
              subst e0
              by_cases e1 : w4 = "carry" <;> simp [e1]
            · have e0 := df0 c4
              simp [e0]
          · have := df0 c3
            simp
            intro _ _ _ _ e
            rw [e] at this
            simp at this
        · rintro b H4 ⟨rfl, hb6⟩
          refine ite_i (fun c => ?_) (fun c => ?_)
          · obtain ⟨f, s, k, w, rfl⟩ := hb6.mp c
            have : w = a := hla (l := ["when", f, s, k, "carry"]) rfl
            subst this
            refine IxR'.l (.of hp2) (v := .str f) rfl (IxR'.l (.of hp2) (v := .str s) rfl (IxR'.l (.of hp2) (v := .str k) rfl ?_))
            refine CallP.by (p_cond T) (by decide) ⟨f, s, k, rfl, hlen k (by simp), fun en H5 k5 => ?_, fun n en c5 H5 k5 hc5 => ?_⟩
            · exact hno (by simp [rl, en]) _ (k12.trans k5)
            · refine ⟨(by decide : 2 ≤ sizeLine), fun r hr => ?_⟩
              refine hyes (.whn f s n w) (by simp [rl, en, am]) _ _ ((k12.trans k5).trans (Gr.new hr)) ⟨r, c5, rfl, upd_same, ?_⟩
              exact (Gr.new hr) _ _ hc5
          · have n6 : ¬∃ f s k w, ws = [("when" : Str), f, s, k, "carry", w] := fun q => by rw [hb6.mpr q] at c; cases c
            refine hno ?_ _ k12
            unfold rl
            split
            · rename_i w0 w1 x
              rw [if_neg]
              rintro ⟨e0, e1, _⟩
              exact n3 ⟨x, by rw [e0, e1]⟩
            · rename_i w0 f s k w4 x
              rw [if_neg]
              rintro ⟨e0, e1, _⟩
              exact n6 ⟨f, s, k, x, by rw [e0, e1]⟩
            · rfl
end
end Lw
-- of law_k55_rule_texts
namespace Lw
open PySem PySem.Spec PyProof.Rows L2 Cy Tx
def okN (v : V) : Prop := ∃ n : Int, v = .int n ∧ 0 ≤ n ∧ n ≤ 10 ^ 9
theorem fn_br {g : Wd} (T : Top g) : FnG g 1 (mad g.K (gad g.K "BadRule") "__init__") (spSup (gad g.K "BadRule") "line" okN) := by
  obtain ⟨cc, cdv, S⟩ := su_BadRule T
  refine sup_fn (k := 0) (tj := cJoin [tC (.str "line "), cFmt (cV 1), tC (.str " is not a rule")]) S (ox_BadRule T) (na_BadRule_line T) ⟨by decide, by decide, by decide⟩ (fun _ _ _ _ _ _ _ _ _ _ => rfl) (fun _ => rfl) (fun L => ⟨_, rfl⟩) (fun L => rfl) (fun L => rfl) (by decide) (by decide)
    (fun A outer s H E => pe_cJoin (.cons pe_str (.cons (pe_cFmt (cv 1)) (.cons pe_str .nil)))) ?_
  intro a v H Q ho k
  obtain ⟨n, rfl, h0, h1⟩ := ho
  have hl : n.natAbs.log2 < 1920 := lg h0 (by decide) (by
    have : (10 : Int) ^ 9 < 2 ^ 1920 := by decide +kernel
    omega)
  have hs := int_len hl
  have e : (Str.empty ++ ("line " : Str)).length = 5 := by decide +kernel
  have e2 : (" is not a rule" : Str).length = 14 := by decide +kernel
  refine ⟨by decide +kernel, ⟨hl, ⟨?_, ⟨?_, k _⟩⟩⟩⟩
  · rw [len_app, sizeLine_eq]
    have : (toString n : Str).length ≤ 1921 := hs
    omega
  · rw [len_app, len_app, sizeLine_eq]
    have : (toString n : Str).length ≤ 1921 := hs
    omega
/-- BadRule(n) is let out -/
def BRo (g : Wd) (E : XK) (H : Hp) (n : Int) : Prop := ∀ H1 d, Gr H H1 → H1 d = some (.xd [("line", .int n)]) → E (.ref (gad g.K "BadRule")) (some d) H1
theorem BRo.gr {g : Wd} {E : XK} {H H1 : Hp} {n : Int} (h : BRo g E H n) (k : Gr H H1) : BRo g E H1 n := fun H2 d a b => h H2 d (k.trans a) b
section
variable {g : Wd} {j : Nat} {H : Hp}
theorem raise_br (T : Top g) {n : Int} {Q : XK} (hj : 2 ≤ j) (h0 : 0 ≤ n) (hn : n ≤ 10 ^ 9) (q : BRo g Q H n) : RaisP g j (gad g.K "BadRule") [.int n] H Q :=
  .by (ox_BadRule T) (ei_BadRule T).1 (ei_BadRule T).2 (fn_br T) hj rfl ⟨n, rfl, h0, hn⟩ fun d hd => q _ d (Gr.new hd) upd_same
theorem walk_ek {K : PySem.W.Frag} {a : Addr} {xs : List V} {k0 : Int} : Walk (Iek K k0 a) xs.length (fun H => SqL K H a xs) (fun i H v H' => ∃ T x, v = .ref T ∧ H T = none ∧ H' = upd H T (.tup [.int (k0 + (i : Nat)), x]) ∧ xs[i]? = some x) :=
  ⟨fun i _ hi q => ⟨xs, xs[i], q, by simp [hi]⟩, fun _ q => ⟨xs, q, rfl⟩, fun _ _ _ _ _ q y => by
    obtain ⟨T, x, h1, h2, h3, h4⟩ := y
    exact ⟨T, x, h1, h2, h3, h4 xs q⟩⟩
def lines (z : Str) : List Str := Txt.split z "\n"
def isBad (w : Str) : Bool := (rline w).isNone
def badAt (ws : List Str) : Nat := ws.findIdx isBad
inductive PRules (H : Hp) : List V → List Str → Prop where
  | nil : PRules H [] []
  | cons {v : V} {vs : List V} {w : Str} {ws : List Str} {r : Rl} (h : rline w = some r) (p : PRule H v r) (t : PRules H vs ws) : PRules H (v :: vs) (w :: ws)
theorem PRules.gr {H H' : Hp} (k : Gr H H') {vs : List V} {ws : List Str} (h : PRules H vs ws) : PRules H' vs ws := by
  induction h with
  | nil => exact .nil
  | cons h p t ih => exact .cons h (p.gr k) ih
theorem tup_ul {H : Hp} {l a : Addr} {ys : List V} {o : HO} (hl : ∀ ys, H l ≠ some (.tup ys)) (h : H a = some (.tup ys)) : upd H l o a = some (.tup ys) := by
  have n : a ≠ l := fun e => by rw [e] at h; exact hl _ h
  rw [upd_ne n]; exact h
theorem PRule.ul {H : Hp} {l : Addr} {o : HO} {v : V} {r : Rl} (hl : ∀ ys, H l ≠ some (.tup ys)) (h : PRule H v r) : PRule (upd H l o) v r := by
  cases r with
  | els a => obtain ⟨p, c, e, h1, h2⟩ := h; exact ⟨p, c, e, tup_ul hl h1, tup_ul hl h2⟩
  | whn f s n a => obtain ⟨p, c, e, h1, h2⟩ := h; exact ⟨p, c, e, tup_ul hl h1, tup_ul hl h2⟩
theorem PRules.ul {H : Hp} {l : Addr} {o : HO} (hl : ∀ ys, H l ≠ some (.tup ys)) {vs : List V} {ws : List Str} (h : PRules H vs ws) : PRules (upd H l o) vs ws := by
  induction h with
  | nil => exact .nil
  | cons h p t ih => exact .cons h (p.ul hl) ih
theorem PRules.snoc {H : Hp} {vs : List V} {ws : List Str} {v : V} {w : Str} {r : Rl} (h : PRules H vs ws) (e : rline w = some r) (p : PRule H v r) : PRules H (vs ++ [v]) (ws ++ [w]) := by
  induction h with
  | nil => exact .cons e p .nil
  | cons h p' t ih => exact .cons h p' ih
theorem PRules.len {H : Hp} {vs : List V} {ws : List Str} (h : PRules H vs ws) : vs.length = ws.length := by
  induction h with
  | nil => rfl
  | cons h p' t ih => simp [ih]
def spRR (g : Wd) : Sp := fun vs H Q E => ∃ z : Str, vs = [.str z] ∧ z.length ≤ 3000000 ∧ (badAt (lines z) < (lines z).length → BRo g E H ((badAt (lines z) : Nat) + 1)) ∧
  (badAt (lines z) = (lines z).length → ∀ l us H', Gr H H' → H l = none → H' l = some (.lst us) → PRules H' us (lines z) → Q (.ref l) H')
theorem p_rrules (T : Top g) : FnG g 8 (gad g.K "_read_rules") (spRR g) := fk__read_rules T 6 fun vs H Q E ⟨z, ev, hz, hbad, hgood⟩ => by
  subst ev
  obtain ⟨f1, f2, f3⟩ := split_facts (z := z) nl_eq (by decide)
  refine ⟨rfl, by decide, fun l hl => ?_⟩
  refine ⟨by decide +kernel, by rw [sizeLine_eq]; omega, fun p hp => ?_⟩
  have e0 : Txt.split z "\n" = lines z := rfl
  rw [e0] at f1 f2 f3 ⊢
  revert f1 f2 f3 hbad hgood
  generalize lines z = ws
  intro hbad hgood f1 f2 f3
  have pl : p ≠ l := fun e => by rw [e, upd_same] at hp; cases hp
  have hp0 : H p = none := by rw [upd_ne pl] at hp; exact hp
  have hpp : upd (upd H l (.lst [])) p (.lst (ws.map V.str)) p = some (.lst (ws.map V.str)) := upd_same
  have hll : upd (upd H l (.lst [])) p (.lst (ws.map V.str)) l = some (.lst []) := by rw [upd_ne (Ne.symm pl), upd_same]
  have k0 : Gr H (upd (upd H l (.lst [])) p (.lst (ws.map V.str))) := (Gr.new hl).trans (Gr.new hp)
  refine ⟨⟨_, .of hpp⟩, ?_⟩
  revert hpp hll k0
  generalize upd (upd H l (.lst [])) p (.lst (ws.map V.str)) = H1
  intro hpp hll k0
  have ew : (ws.map V.str).length = ws.length := List.length_map _
  refine for_it (walk_ek (xs := ws.map V.str)) (fun i σ H' => Gr H H' ∧ H' p = some (.lst (ws.map V.str)) ∧ (∃ us, H' l = some (.lst us) ∧ PRules H' us (ws.take i)) ∧ (∀ k, k < i → ∀ w, ws[k]? = some w → isBad w = false) ∧ ∃ o1 o2 o3, σ = [some (.str z), some (.ref l), o1, o2, o3])
    ⟨k0, hpp, ⟨[], hll, .nil⟩, fun k hk => absurd hk (Nat.not_lt_zero _), none, none, none, rfl⟩ (fun i σ H' _ q => .of q.2.1) ?_ ?_
  · rintro i x σ H2 H3 hi ⟨k2, hp2, ⟨us, hu, pr⟩, hg, o1, o2, o3, rfl⟩ ⟨t, y, rfl, ht, rfl, hy⟩
    rw [ew] at hi
    have ei : ws[i]? = some ws[i] := by simp [hi]
    rw [List.getElem?_map, ei] at hy
    cases hy
    have hw := f3 ws[i] (List.getElem_mem hi)
    have k3 := k2.trans (Gr.new (o := .tup [.int (1 + (i : Nat)), .str ws[i]]) ht)
    refine UnpP.t rfl (.of upd_same) rfl ?_
    refine CallP.by (p_rline T) (by decide) ⟨ws[i], rfl, by omega, fun er H4 k4 => ?_, fun r er v H4 k4 pv => ?_⟩
    · -- a bad line
      have hb : badAt ws = i := by
        have hib : isBad ws[i] = true := by unfold isBad; rw [er]; rfl
        refine (List.findIdx_eq hi).mpr ⟨hib, fun k hk => ?_⟩
        have hk2 : k < ws.length := by omega
        have := hg k hk ws[k] (by simp [hk2])
        simpa using this
      refine raise_br T (by decide) (by omega) (by omega) ?_
      have := (hbad (by rw [hb]; exact hi)).gr (k3.trans k4)
      rw [hb] at this
      rw [show (1 : Int) + (i : Nat) = (i : Nat) + 1 by omega]
      exact this
    · have tl : l ≠ t := fun e => by rw [← e, hu] at ht; cases ht
      have tp : p ≠ t := fun e => by rw [← e, hp2] at ht; cases ht
      have hu4 : H4 l = some (.lst us) := k4 _ _ (by rw [upd_ne tl]; exact hu)
      have hlen : us.length = (ws.take i).length := pr.len
      have hvn : ∃ q, v = .ref q := by
        cases r with
        | els a => obtain ⟨q, c, e, _⟩ := pv; exact ⟨q, e⟩
        | whn f s n a => obtain ⟨q, c, e, _⟩ := pv; exact ⟨q, e⟩
      obtain ⟨q, rfl⟩ := hvn
      have lq : ∀ a o, H4 a = some o → a ≠ l → upd H4 l (.lst (us ++ [.ref q])) a = some o := fun a o e n => by rw [upd_ne n]; exact e
      refine IsLst.by rfl (.of hu4) (AppP.by hu4 (by rw [hlen, List.length_take, sizeLine_eq]; omega) ⟨?_, ?_, ⟨us ++ [.ref q], upd_same, ?_⟩, ?_, _, _, _, rfl⟩)
      · exact gr_upd (k3.trans k4) hl
      · rw [upd_ne pl]; exact k4 _ _ (by rw [upd_ne tp]; exact hp2)
      · rw [List.take_succ, ei]
        have nt : ∀ ys, H4 l ≠ some (.tup ys) := fun ys e => by rw [hu4] at e; cases e
        exact ((pr.gr ((Gr.new ht).trans k4)).ul nt).snoc er (pv.ul nt)
      · intro k hk w hkw
        by_cases e : k = i
        · subst e
          have e2 : w = ws[k] := Option.some.inj (hkw.symm.trans ei)
          subst e2
          unfold isBad; rw [er]; rfl
        · exact hg k (by omega) w hkw
  · rintro σ H2 ⟨k2, hp2, ⟨us, hu, pr⟩, hg, o1, o2, o3, rfl⟩
    rw [ew] at pr hg
    rw [List.take_length] at pr
    refine hgood ?_ l us H2 k2 hl hu pr
    refine List.findIdx_eq_length_of_false fun w hw => ?_
    obtain ⟨k, hk, rfl⟩ := List.getElem_of_mem hw
    exact hg k hk _ (by simp [hk])
end
end Lw
-- of law_k55_rule_texts
namespace Lw
open PySem PySem.Spec PyProof.Rows L2 Cy Tx
def fact (f z : Str) (p b : Int) : Int := if f = "free" then p - z.length else if f = "living" then Txt.count z "1" else if f = "dead" then z.length - Txt.count z "1" else
  if f = "gap" then (cutS z (some 1) none).length - (Txt.lstripChars (cutS z (some 1) none) "0").length else b
def hold (r : Rl) (z : Str) (p b : Int) : Bool := match r with
  | .els _ => true
  | .whn f s k _ => if s = "<=" then decide (fact f z p b ≤ k) else if s = ">=" then decide (k ≤ fact f z p b) else decide (fact f z p b = k)
def Rl.amt : Rl → Str
  | .els a => a
  | .whn _ _ _ a => a
def CondAt (H : Hp) (c : Addr) : Rl → Prop
  | .els _ => H c = some (.tup [])
  | .whn f s k _ => H c = some (.tup [.str f, .str s, .int k])
def amtV (a : Str) (m : Int) : Int := if a = "all" then m else min m ((num? a).getD 0)
def chs (z : Str) (p b m : Int) : List Str → Int
  | [] => 0
  | w :: ws => match rline w with
    | some r => if hold r z p b = true then amtV r.amt m else chs z p b m ws
    | none => 0
theorem chs_some {z : Str} {p b m : Int} {w : Str} {ws : List Str} {r : Rl} (e : rline w = some r) : chs z p b m (w :: ws) = if hold r z p b = true then amtV r.amt m else chs z p b m ws := by
  show (match rline w with
    | some r => if hold r z p b = true then amtV r.amt m else chs z p b m ws
    | none => 0) = _
  rw [e]
theorem rline_amt {w : Str} {r : Rl} (h : rline w = some r) : amtOk r.amt = true ∧ (∀ f s k a, r = .whn f s k a → f ∈ facts ∧ s ∈ sgns) := by
  unfold rline rl at h
  split at h
  · split at h
    · rename_i c
      cases h
      exact ⟨c.2.2, fun f s k a e => by cases e⟩
    · cases h
  · split at h
    · rename_i c
      rename_i w0 f s k w4 a _e
      unfold cond? at h
      split at h
      · rename_i c2
        cases en : num? k with
        | none => rw [en] at h; cases h
        | some n =>
          rw [en] at h
          cases h
          exact ⟨c.2.2, fun f' s' k' a' e => by cases e; exact c2⟩
      · cases h
    · cases h
  · cases h
theorem strok {f s : Str} (h : f ∈ facts ∧ s ∈ sgns) : PyData.strOk f = true ∧ PyData.strOk s = true := by
  have h1 : ∀ f ∈ facts, PyData.strOk f = true := by decide +kernel
  have h2 : ∀ f ∈ sgns, PyData.strOk f = true := by decide +kernel
  exact ⟨h1 f h.1, h2 s h.2⟩
section
variable {g : Wd} {j : Nat} {H : Hp}
def spFact : Sp := fun vs H Q _ => ∃ (f z : Str) (p b : Int), vs = [.str f, .str z, .int p, .int b] ∧ z.length ≤ 90000 ∧ okW z = true ∧ Q (.int (fact f z p b)) H
theorem p_fact (T : Top g) : FnG g 8 (gad g.K "_fact") spFact := fk__fact T 6 fun vs H Q E ⟨f, z, p, b, ev, hz, ok, h⟩ => by
  subst ev
  have hs : z.length ≤ sizeLine := ml (by omega)
  refine ⟨rfl, ?_⟩
  unfold fact at h
  refine ite_i (fun c => ?_) (fun c => ?_)
  · rw [if_pos (dt0 c)] at h
    exact ⟨hs, h⟩
  rw [if_neg (df0 c)] at h
  refine ite_i (fun c => ?_) (fun c => ?_)
  · rw [if_pos (dt0 c)] at h
    exact CallP.by (p_living T) (by decide) ⟨z, rfl, by omega, ok, h⟩
  rw [if_neg (df0 c)] at h
  refine ite_i (fun c => ?_) (fun c => ?_)
  · rw [if_pos (dt0 c)] at h
    exact ⟨hs, CallP.by (p_living T) (by decide) ⟨z, rfl, by omega, ok, h⟩⟩
  rw [if_neg (df0 c)] at h
  refine ite_i (fun c => ?_) (fun c => ?_)
  · rw [if_pos (dt0 c)] at h
    have hc := cut_len z
    refine ⟨hs, ⟨ml (by omega), ⟨ml (by omega), ?_⟩⟩⟩
    have hl : (Txt.lstripChars (cutS z (some 1) none) "0").length ≤ (cutS z (some 1) none).length := by
      rw [ls_len, lstrip0, ls_len]
      exact (List.dropWhile_sublist _).length_le
    exact ⟨ml (by omega), h⟩
  · rw [if_neg (df0 c)] at h
    exact h
def spApp (g : Wd) : Sp := fun vs H Q _ => ∃ (c : Addr) (z : Str) (p b : Int) (r : Rl), vs = [.ref c, .str z, .int p, .int b] ∧ z.length ≤ 90000 ∧ okW z = true ∧ (∀ f s k a, r = .whn f s k a → f ∈ facts ∧ s ∈ sgns) ∧
  CondAt H c r ∧ ∀ H', Gr H H' → Q (.bl (hold r z p b)) H'
theorem p_app (T : Top g) : FnG g 10 (gad g.K "_applies") (spApp g) := fk__applies T 8 fun vs H Q E ⟨c, z, p, b, r, ev, hz, ok, hfs, hc, h⟩ => by
  subst ev
  refine ⟨rfl, (by decide : 0 ≤ sizeLine), fun t ht => ?_⟩
  have k1 : Gr H (upd H t (.tup [])) := Gr.new ht
  cases r with
  | els a =>
    refine .dat (.tuple []) (.tuple []) (.tup (.of (k1 _ _ hc)) .nil) (.tup (.of upd_same) .nil) rfl rfl ?_
    exact h _ k1
  | whn f s k a =>
    refine .dat (.tuple [.str f, .str s, .int k]) (.tuple []) (.tup (.of (k1 _ _ hc)) (.cons (.str _) (.cons (.str _) (.cons (.int _) .nil)))) (.tup (.of upd_same) .nil) (by simp [SeqAt.shaped, PyData.canLay0, PyData.canLayAll0, PyData.depth, PyData.depthAll]; exact strok (hfs _ _ _ _ rfl)) rfl ?_
    have e : PyData.eqv (.tuple [.str f, .str s, .int k]) (.tuple []) = false := rfl
    rw [e]
    refine UnpP.t rfl (.of (k1 _ _ hc)) rfl ?_
    refine CallP.by (p_fact T) (by decide) ⟨f, z, p, b, rfl, hz, ok, ?_⟩
    have h2 : Q (.bl (if s = "<=" then decide (fact f z p b ≤ k) else if s = ">=" then decide (k ≤ fact f z p b) else decide (fact f z p b = k))) (upd H t (.tup [])) := h _ k1
    refine ite_i (fun c => ?_) (fun c => ?_)
    · rw [if_pos (dt0 c)] at h2
      exact h2
    rw [if_neg (df0 c)] at h2
    refine ite_i (fun c => ?_) (fun c => ?_)
    · rw [if_pos (dt0 c)] at h2
      exact h2
    · rw [if_neg (df0 c)] at h2
      have e : (false != decide (fact f z p b = k)) = decide (fact f z p b = k) := by cases decide (fact f z p b = k) <;> rfl
      show Q (.bl (false != decide (fact f z p b = k))) _
      rw [e]
      exact h2
end
end Lw
-- of law_k55_rule_texts
namespace Lw
open PySem PySem.Spec PyProof.Rows L2 Cy Tx
theorem num_some {z : Str} {n : Int} (h : num? z = some n) : 1 ≤ z.length ∧ z.length ≤ 3 ∧ PySem.intText? z = some n := by
  unfold num? at h
  split at h
  · rename_i c
    cases h
    exact ⟨c.1.1, c.1.2, num_int c.1.1 c.1.2 c.2⟩
  · cases h
theorem amt_num {a : Str} (h : amtOk a = true) (n : ¬ a = "all") : ∃ k, num? a = some k := by
  unfold amtOk at h
  rw [Bool.or_eq_true] at h
  rcases h with h | h
  · exact absurd (of_decide_eq_true h) n
  · exact Option.isSome_iff_exists.mp h
theorem bad_none {ws : List Str} (h : badAt ws = ws.length) : ∀ w ∈ ws, ∃ r, rline w = some r := fun w hw => by
  have := List.findIdx_eq_length.mp h w hw
  unfold isBad at this
  cases e : rline w with
  | none => rw [e] at this; simp at this
  | some r => exact ⟨r, rfl⟩
theorem PRules.at {H : Hp} {us : List V} {ws : List Str} (h : PRules H us ws) : ∀ {i : Nat} {v : V}, us[i]? = some v → ∃ w r, ws[i]? = some w ∧ rline w = some r ∧ PRule H v r := by
  induction h with
  | nil => intro i v e; simp at e
  | @cons v0 vs w ws r hr p t ih =>
    intro i v e
    cases i with
    | zero => cases e; exact ⟨w, r, rfl, hr, p⟩
    | succ i => exact ih e
theorem drop_at {ws : List Str} {i : Nat} {w : Str} (h : ws[i]? = some w) : ws.drop i = w :: ws.drop (i + 1) := by
  obtain ⟨hi, e⟩ := List.getElem?_eq_some_iff.mp h
  subst e
  exact List.drop_eq_getElem_cons hi
section
variable {g : Wd} {j : Nat} {H : Hp}
/-- a RuleKeeper of the text z -/
def RKAt (g : Wd) (H : Hp) (k : Addr) (z : Str) : Prop := ∃ dx l us, H k = some (.ins (gad g.K "RuleKeeper") dx [("_rules", .ref l)]) ∧ H l = some (.lst us) ∧ PRules H us (lines z)
theorem RKAt.gr {H H' : Hp} {k : Addr} {z : Str} (q : Gr H H') (h : RKAt g H k z) : RKAt g H' k z := by
  obtain ⟨dx, l, us, h1, h2, h3⟩ := h
  exact ⟨dx, l, us, q _ _ h1, q _ _ h2, h3.gr q⟩
def spRuI (g : Wd) : Sp := fun vs H Q E => ∃ (k dx : Addr) (z : Str), vs = [.ref k, .str z] ∧ H k = some (.ins (gad g.K "RuleKeeper") dx []) ∧ z.length ≤ 3000000 ∧ (badAt (lines z) < (lines z).length → BRo g E H ((badAt (lines z) : Nat) + 1)) ∧
  (badAt (lines z) = (lines z).length → ∀ H', (∀ a o, a ≠ k → H a = some o → H' a = some o) → RKAt g H' k z → Q .non H')
theorem p_ruinit (T : Top g) : FnG g 10 (mad g.K (gad g.K "RuleKeeper") "__init__") (spRuI g) := fk_RuleKeeper_init_ T 8 fun vs H Q E ⟨k, dx, z, ev, hk, hz, hbad, hgood⟩ => by
  subst ev
  refine ⟨rfl, CallP.by (p_rrules T) (by decide) ⟨z, rfl, hz, hbad, fun hg l us H' q hl hl' pr => ?_⟩⟩
  have kl : k ≠ l := fun e => by rw [e, hl] at hk; cases hk
  have hk' := q _ _ hk
  have nt : ∀ ys, H' k ≠ some (.tup ys) := fun ys e => by rw [hk'] at e; cases e
  exact SetP.by rfl hk' (cl_RuleKeeper T) (na_RuleKeeper__rules T) (by decide) (hgood hg _ (fun a o n e => by rw [upd_ne n]; exact q _ _ e) ⟨dx, l, us, upd_same, by rw [upd_ne (Ne.symm kl)]; exact hl', pr.ul nt⟩)
theorem gr_made {H : Hp} {x dx : Addr} {o1 o2 : HO} (hx : H x = none) (hdx : H dx = none) : Gr H (upd (upd H dx o1) x o2) := fun a o e => by
  rw [upd_ne (ne_of_none e hx), upd_ne (ne_of_none e hdx)]; exact e
theorem mk_rk (T : Top g) {z : Str} {Q : VK} {E : XK} (hj : 11 ≤ j) (hz : z.length ≤ 3000000) (hbad : badAt (lines z) < (lines z).length → BRo g E H ((badAt (lines z) : Nat) + 1))
    (hgood : badAt (lines z) = (lines z).length → ∀ k H', Gr H H' → H k = none → RKAt g H' k z → Q (.ref k) H') : MakeP g j (gad g.K "RuleKeeper") [.str z] H Q E :=
  MakeP.by (mk_RuleKeeper T) (p_ruinit T) hj fun x dx hx hdx hne => ⟨x, dx, z, rfl, upd_same, hz, fun hb => (hbad hb).gr (gr_made hx hdx), fun hg H' k ra => ⟨rfl, hgood hg x H' (fun a o e => k _ _ (ne_of_none e hx) (gr_made hx hdx a o e)) hx ra⟩⟩
def rRule (t : Str) : Addr → Str → Int → List Int → Int → Hp → VK → Prop := fun _ z p bs ph H Q => ∀ H', Gr H H' → Q (.int (chs z p (bat bs ph) (mostA z p bs ph) (lines t))) H'
theorem p_ruch (T : Top g) (t : Str) : FnG g 12 (mad g.K (gad g.K "RuleKeeper") "choose") (spCh g (fun k H => RKAt g H k t) (rRule t)) := fk_RuleKeeper_choose T 10 fun vs H Q E ⟨k, z, p, ph, r, bs, ev, hz, ⟨dx, l, us, hk, hl, pr⟩, hr, hb, h⟩ => by
  subst ev
  refine ⟨rfl, CallP.by (p_moment T) (by decide) ⟨z, p, ph, rfl, hz, ans_bind h fun e q => ?_⟩⟩
  obtain ⟨m1, m2, m3, m4⟩ := moment_none e
  refine CallP.by (p_most T) (by decide) ⟨z, p, ph, r, bs, rfl, hz, m1, hr, hb, m3, ?_⟩
  obtain ⟨dr, tr, h1⟩ := ra_ins hr
  refine MethP.own rfl h1 (cl_Round T) (mt_Round_at T) (lkn (by decide)) ?_
  refine CallP.by (p_at T) (by decide) ⟨r, bs, ph, rfl, hr, hb, m3, ?_⟩
  refine FldP.by rfl hk (cl_RuleKeeper T) (na_RuleKeeper__rules T) lk1 ?_
  refine SeqP.l rfl (.of hl) ?_
  have q' : ∀ H', Gr H H' → Q (.int (chs z p (bat bs ph) (mostA z p bs ph) (lines t))) H' := q
  revert pr q'
  generalize lines t = ws
  intro pr q'
  refine for_list (xs := us) (fun i σ H' => Gr H H' ∧ chs z p (bat bs ph) (mostA z p bs ph) ws = chs z p (bat bs ph) (mostA z p bs ph) (ws.drop i) ∧ ∃ o1 o2, σ = [some (.ref k), some (.str z), some (.int p), some (.ref r), some (.int ph), some (.int (mostA z p bs ph)), some (.int (bat bs ph)), o1, o2])
    ⟨Gr.refl, by rw [List.drop_zero], none, none, rfl⟩ (fun i σ H' _ q => .of (q.1 _ _ hl)) ?_ ?_
  · rintro i x σ H' hx ⟨k2, ec, o1, o2, rfl⟩
    obtain ⟨w, rr, hw, er, prr⟩ := pr.at hx
    have prr' := prr.gr k2
    obtain ⟨am, fs⟩ := rline_amt er
    rw [drop_at hw, chs_some er] at ec
    obtain ⟨pp, c, rfl, hp2, hc⟩ : ∃ pp c, x = .ref pp ∧ H' pp = some (.tup [.ref c, .str rr.amt]) ∧ CondAt H' c rr := by
      cases rr with
      | els a => obtain ⟨pp, c, e1, e2, e3⟩ := prr'; exact ⟨pp, c, e1, e2, e3⟩
      | whn f s n a => obtain ⟨pp, c, e1, e2, e3⟩ := prr'; exact ⟨pp, c, e1, e2, e3⟩
    refine UnpP.t rfl (.of hp2) rfl ?_
    refine CallP.by (p_app T) (by decide) ⟨c, z, p, bat bs ph, rr, rfl, hz, m1, fs, hc, fun H3 k3 => ?_⟩
    have k23 := k2.trans k3
    refine ite_i (fun ch => ?_) (fun ch => ?_)
    · rw [if_pos ch] at ec
      have q2 := q' _ k23
      rw [ec] at q2
      unfold amtV at q2
      refine ite_i (fun ca => ?_) (fun ca => ?_)
      · rw [if_pos (dt0 ca)] at q2
        exact q2
      · rw [if_neg (df0 ca)] at q2
        obtain ⟨n, en⟩ := amt_num am (df0 ca)
        obtain ⟨n1, n2, n3⟩ := num_some en
        rw [en] at q2
        exact ⟨n, n3, by omega, q2⟩
    · rw [if_neg (by rw [ch]; decide)] at ec
      exact ⟨k23, ec, _, _, rfl⟩
  · rintro σ H' ⟨k2, ec, o1, o2, rfl⟩
    have q2 := q' _ k2
    rw [ec, List.drop_eq_nil_of_le (by rw [pr.len]; exact Nat.le_refl _)] at q2
    exact q2
theorem p_rulab (T : Top g) (t : Str) (ht : (lines t).length ≤ 10000000) : FnG g 2 (mad g.K (gad g.K "RuleKeeper") "label") (spLab (fun k H => RKAt g H k t) (("rule " : Str) ++ Str.ofString (toString ((lines t).length : Int)))) := fk_RuleKeeper_label T 0 fun vs H Q E ⟨k, ev, ⟨dx, l, us, hk, hl, pr⟩, h⟩ => by
  subst ev
  have hlog : (((lines t).length : Nat) : Int).natAbs.log2 < 1920 := lg (by omega) (by decide) (by
    have : (10000000 : Int) < 2 ^ 1920 := by decide +kernel
    omega)
  refine ⟨rfl, by decide +kernel, FldP.by rfl hk (cl_RuleKeeper T) (na_RuleKeeper__rules T) lk1 (LenP.l (.of hl) ?_)⟩
  rw [pr.len]
  refine ⟨hlog, ?_, ?_⟩
  · rw [len_app, e_app, sizeLine_eq]
    have := int_len hlog
    have e : ("rule " : Str).length = 5 := by decide +kernel
    show ("rule " : Str).length + (Str.ofString (toString ((lines t).length : Int))).length ≤ _
    omega
  · show Q (.str (Str.empty ++ "rule " ++ Str.ofString (toString ((lines t).length : Int)))) H
    rw [e_app]
    exact h
end
end Lw
-- of law_k55_rule_texts
namespace Lw
open PySem PySem.Spec PyProof.Rows L2 Cy Tx
def lnum (z : Str) : Int := (num? z).getD (-1)
def lamt (a : Str) : Int := if a = "all" then 1000 else lnum a
theorem lnum_ge {z : Str} : 0 ≤ lnum z ↔ (num? z).isSome = true := by
  unfold lnum
  cases e : num? z with
  | none => simp
  | some n => have := num_nn e; simp [this]
theorem lamt_ge {a : Str} : 0 ≤ lamt a ↔ amtOk a = true := by
  unfold lamt amtOk
  by_cases h : a = "all"
  · simp [h]
  · rw [if_neg h, lnum_ge]
    simp [h]
theorem none_gr {H H' : Hp} {p : Addr} (k : Gr H H') (h : H' p = none) : H p = none := by
  cases q : H p with
  | none => rfl
  | some o => have := k _ _ q; rw [h] at this; cases this
theorem occ_ten (c : Nat) : (true != !(Builtin.Str.occurrences ten ⟨#[c]⟩ 0 ten.length 1).isEmpty) = !isD c := by
  rw [StrLaws.found_one, show decide (c ∈ ten.cps.toList) = isD c from mem_ten c]
  cases isD c <;> rfl
/-- a rule as the law keeps it -/
def lvals : Rl → List V
  | .els a => [.str "else", .str "", .int 0, .int (lamt a)]
  | .whn f s k a => [.str f, .str s, .int k, .int (lamt a)]
section
variable {g : Wd} {j : Nat} {H : Hp}
def spLNum : Sp := fun vs H Q _ => ∃ z : Str, vs = [.str z] ∧ z.length ≤ 4000000 ∧ Q (.int (lnum z)) H
theorem p_lnum (T : Top g) : FnG g 2 (gad g.K "_law_number") spLNum := fk__law_number T 0 fun vs H Q E ⟨z, ev, hz, h⟩ => by
  subst ev
  have no : ¬((1 ≤ z.length ∧ z.length ≤ 3) ∧ (ls z).all isD = true) → Q (.int (-1)) H := fun c => by
    have e : lnum z = -1 := by unfold lnum; rw [show num? z = none from if_neg c]; rfl
    rw [e] at h; exact h
  refine ⟨rfl, ml4 hz, ite_i (fun c1 => no fun q => by have := dt c1; omega) (fun c1 => ⟨ml4 hz, ite_i (fun c2 => no fun q => by have := dt c2; omega) (fun c2 => ?_)⟩)⟩
  have h1 : 1 ≤ z.length := by have := df c1; omega
  have h3 : z.length ≤ 3 := by have := df c2; omega
  refine SeqP.s rfl ?_
  refine for_it (walk_str (z := z)) (fun i σ H' => H' = H ∧ (∀ k, k < i → ∀ c, (ls z)[k]? = some c → isD c = true) ∧ ∃ o, σ = [some (.str z), o]) ⟨rfl, fun k hk => absurd hk (Nat.not_lt_zero _), none, rfl⟩ (fun _ _ _ _ _ => trivial) ?_ ?_
  · rintro i x σ H2 H3 hi ⟨rfl, hg, o, rfl⟩ ⟨rfl, c, hc, rfl⟩
    have hc2 : (ls z)[i]? = some c := by simpa using hc
    refine ite_i (fun cc => no fun q => ?_) (fun cc => ⟨rfl, fun k hk c' hc' => ?_, _, rfl⟩) <;> rw [occ_ten] at cc
    · have := List.all_eq_true.mp q.2 c (List.mem_of_getElem? hc2)
      rw [this] at cc; cases cc
    · by_cases e : k = i
      · subst e
        rw [hc2] at hc'
        cases hc'
        simpa using cc
      · exact hg k (by omega) c' hc'
  · rintro σ H2 ⟨rfl, hg, o, rfl⟩
    have hd : (ls z).all isD = true := List.all_eq_true.mpr fun c hc => by
      obtain ⟨k, hk, rfl⟩ := List.getElem_of_mem hc
      exact hg k (by have : (ls z).length = z.cps.size := by simp
                     omega) _ (by simp [hk])
    refine ⟨_, num_int h1 h3 hd, by omega, ?_⟩
    have e : lnum z = ((NumText.digitsVal (ls z) : Nat) : Int) := by unfold lnum; rw [show num? z = some ((NumText.digitsVal (ls z) : Nat) : Int) from if_pos ⟨⟨h1, h3⟩, hd⟩]; rfl
    rw [e] at h
    exact h
def spLAmt : Sp := fun vs H Q _ => ∃ z : Str, vs = [.str z] ∧ z.length ≤ 4000000 ∧ Q (.int (lamt z)) H
theorem p_lamt (T : Top g) : FnG g 4 (gad g.K "_law_amount") spLAmt := fk__law_amount T 2 fun vs H Q E ⟨z, ev, hz, h⟩ => by
  subst ev
  unfold lamt at h
  refine ⟨rfl, ite_i (fun c => ?_) (fun c => ?_)⟩
  · rw [if_pos (dt0 c)] at h; exact h
  · rw [if_neg (df0 c)] at h
    exact CallP.by (p_lnum T) (by decide) ⟨z, rfl, hz, h⟩
def spLRl : Sp := fun vs H Q _ => ∃ z : Str, vs = [.str z] ∧ z.length ≤ 3000000 ∧ (∀ p H', Gr H H' → H p = none → (rline z = none → H' p = some (.lst [])) → (∀ r, rline z = some r → H' p = some (.lst (lvals r))) → Q (.ref p) H')
theorem p_lrule (T : Top g) : FnG g 6 (gad g.K "_law_rule") spLRl := fk__law_rule T 4 fun vs H Q E ⟨z, ev, hz, h⟩ => by
  subst ev
  refine ⟨rfl, by decide +kernel, by rw [sizeLine_eq]; omega, fun p hp => ?_⟩
  have e0 : rline z = rl (Txt.split z " ") := rfl
  rw [e0] at h
  have hlen : ∀ w ∈ Txt.split z " ", w.length ≤ 4000000 := fun w hw => by have := ((split_facts (z := z) sp_eq (by decide)).2.2 w hw).1; omega
  revert h hlen
  generalize Txt.split z " " = ws
  intro h hlen
  have k1 : Gr H (upd H p (.lst (ws.map V.str))) := Gr.new hp
  have hpp : upd H p (.lst (ws.map V.str)) p = some (.lst (ws.map V.str)) := upd_same
  revert k1 hpp
  generalize upd H p (.lst (ws.map V.str)) = H1
  intro k1 hpp
  have hno : rl ws = none → ∀ H2, Gr H1 H2 → tRet (tLst tNil) { nx := fun _ H1 => Q .non H1, rt := Q } [] H2 := fun e H2 k2 => ⟨by decide, fun q hq => h q _ ((k1.trans k2).trans (Gr.new hq)) (none_gr (k1.trans k2) hq) (fun _ => upd_same) (fun r er => by rw [e] at er; cases er)⟩
  dsimp only [gName]
  refine sif (fun b H2 => H2 = H1 ∧ (b = true ↔ ∃ w, ws = [("else" : Str), "carry", w] ∧ amtOk w = true)) (fun K hK => ?_) ?_
  · refine LenP.l (.of hpp) ?_
    rw [List.length_map]
    refine ite_i (fun c3 => ?_) (fun c3 => hK _ _ ⟨rfl, ?_⟩)
    · have h3 : ws.length = 3 := by have := dt0 c3; omega
      obtain ⟨w0, w1, w2, rfl⟩ := len3 h3
      refine IxR'.l (.of hpp) (v := .str w0) rfl (ite_i (fun c4 => ?_) (fun c4 => hK _ _ ⟨rfl, ?_⟩))
      · refine IxR'.l (.of hpp) (v := .str w1) rfl (ite_i (fun c5 => ?_) (fun c5 => hK _ _ ⟨rfl, ?_⟩))
        · refine IxR'.l (.of hpp) (v := .str w2) rfl (CallP.by (p_lamt T) (by decide) ⟨w2, rfl, hlen w2 (by simp), hK _ _ ⟨rfl, ?_⟩⟩)
          have e0 := dt0 c4
          have e1 := dt0 c5
          subst e0 e1
          have := lamt_ge (a := w2)
          simp [this]
        · have e1 := df0 c5
          simp [e1]
      · have e0 := df0 c4
        simp [e0]
    · have := df0 c3
      simp
      intro w e
      rw [e] at this
      simp at this
  · rintro b H2 ⟨rfl, hb⟩
    refine ite_i (fun c => ?_) (fun c => ?_)
    · obtain ⟨w, rfl, aw⟩ := hb.mp c
      refine IxR'.l (.of hpp) (v := .str w) rfl (CallP.by (p_lamt T) (by decide) ⟨w, rfl, hlen w (by simp), (by decide : 4 ≤ sizeLine), fun q hq => ?_⟩)
      have er : rl [("else" : Str), "carry", w] = some (.els w) := by simp [rl, aw]
      refine h q _ (k1.trans (Gr.new hq)) (none_gr k1 hq) (fun e => by rw [er] at e; cases e) (fun r e => by rw [er] at e; cases e; exact upd_same)
    · have n3 : ¬∃ w, ws = [("else" : Str), "carry", w] ∧ amtOk w = true := fun q => by rw [hb.mpr q] at c; cases c
      dsimp only [tNext]
      refine sif (fun b H4 => H4 = H2 ∧ (b = false ↔ ∃ f s k w, ws = [("when" : Str), f, s, k, "carry", w])) (fun K hK => ?_) ?_
      · refine LenP.l (.of hpp) ?_
        rw [List.length_map]
        refine ite_i (fun c3 => hK _ _ ⟨rfl, ?_⟩) (fun c3 => ?_)
        · have := dt1 c3
          simp
          intro _ _ _ _ e
          rw [e] at this
          simp at this
        · have h6 : ws.length = 6 := by have := df1 c3; omega
          obtain ⟨w0, w1, w2, w3, w4, w5, rfl⟩ := len6 h6
          refine IxR'.l (.of hpp) (v := .str w0) rfl (ite_i (fun c4 => hK _ _ ⟨rfl, ?_⟩) (fun c4 => ?_))
          · have e0 := dt1 c4
            simp [e0]
          · refine IxR'.l (.of hpp) (v := .str w4) rfl (hK _ _ ⟨rfl, ?_⟩)
            have e0 := df1 c4
            subst e0
            by_cases e1 : w4 = "carry" <;> simp [e1]
      · rintro b H4 ⟨rfl, hb6⟩
        refine ite_i (fun c => ?_) (fun c => ?_)
        · have n6 : ¬∃ f s k w, ws = [("when" : Str), f, s, k, "carry", w] := fun q => by rw [hb6.mpr q] at c; cases c
          refine hno ?_ _ Gr.refl
          unfold rl
          split
          · rename_i w0 w1 x
            rw [if_neg]
            rintro ⟨e0, e1, e2⟩
            exact n3 ⟨x, by rw [e0, e1], e2⟩
          · rename_i w0 f s k w4 x
            rw [if_neg]
            rintro ⟨e0, e1, _⟩
            exact n6 ⟨f, s, k, x, by rw [e0, e1]⟩
          · rfl
        · obtain ⟨f, s, k, w, rfl⟩ := hb6.mp c
          dsimp only [tNext]
          have er : rl [("when" : Str), f, s, k, "carry", w] = if amtOk w = true then (cond? f s k).map fun c => .whn c.1 c.2.1 c.2.2 w else none := by simp [rl]
          refine sif (fun b H5 => Gr H4 H5 ∧ (b = false ↔ f ∈ facts ∧ s ∈ sgns)) (fun K hK => ?_) ?_
          · refine IxR'.l (.of hpp) (v := .str f) rfl ⟨(by decide : 5 ≤ sizeLine), fun q hq => InR.sq _ (.inl (.of upd_same)) rfl rfl ?_⟩
            rw [show inV (V.str f) [V.str "free", V.str "living", V.str "dead", V.str "gap", V.str "budget"] = decide (f ∈ facts) from inV_strs f facts]
            refine ite_i (fun c => hK _ _ ⟨Gr.new hq, ?_⟩) (fun c => ?_)
            · have := dt1 c
              simp [this]
            · have hf := df1 c
              refine IxR'.l (.of ((Gr.new hq) _ _ hpp)) (v := .str s) rfl ⟨(by decide : 3 ≤ sizeLine), fun q2 hq2 => InR.sq _ (.inl (.of upd_same)) rfl rfl ?_⟩
              rw [show inV (V.str s) [V.str "<=", V.str ">=", V.str "=="] = decide (s ∈ sgns) from inV_strs s sgns]
              refine hK _ _ ⟨(Gr.new hq).trans (Gr.new hq2), ?_⟩
              by_cases hs : s ∈ sgns <;> simp [hs, hf]
          · rintro b H5 ⟨k5, hb5⟩
            have hp5 := k5 _ _ hpp
            refine ite_i (fun c => ?_) (fun c => ?_)
            · have n5 : ¬(f ∈ facts ∧ s ∈ sgns) := fun q => by rw [hb5.mpr q] at c; cases c
              refine hno ?_ _ k5
              rw [er, show cond? f s k = none from if_neg n5]
              split <;> rfl
            · have y5 := hb5.mp c
              have ec : cond? f s k = (num? k).map fun n => (f, s, n) := if_pos y5
              dsimp only [tNext]
              refine sif (fun b H6 => H6 = H5 ∧ (b = false ↔ (num? k).isSome = true ∧ amtOk w = true)) (fun K hK => ?_) ?_
              · refine IxR'.l (.of hp5) (v := .str k) rfl (CallP.by (p_lnum T) (by decide) ⟨k, rfl, hlen k (by simp), ?_⟩)
                have e1 := lnum_ge (z := k)
                have e2 := lamt_ge (a := w)
                refine ite_i (fun c => hK _ _ ⟨rfl, ?_⟩) (fun c => ?_)
                · have := dt c
                  have h1 : ¬ (num? k).isSome = true := fun q => by have := e1.mpr q; omega
                  simp [h1]
                · have := df c
                  have h1 : (num? k).isSome = true := e1.mp (by omega)
                  refine IxR'.l (.of hp5) (v := .str w) rfl (CallP.by (p_lamt T) (by decide) ⟨w, rfl, hlen w (by simp), hK _ _ ⟨rfl, ?_⟩⟩)
                  by_cases h2 : amtOk w = true
                  · have := e2.mpr h2
                    simp [h1, h2]
                    omega
                  · have : ¬ 0 ≤ lamt w := fun q => h2 (e2.mp q)
                    simp [h2]
                    omega
              · rintro b H6 ⟨rfl, hb7⟩
                refine ite_i (fun c => ?_) (fun c => ?_)
                · have n7 : ¬((num? k).isSome = true ∧ amtOk w = true) := fun q => by rw [hb7.mpr q] at c; cases c
                  refine hno ?_ _ k5
                  rw [er, ec]
                  split
                  · rename_i aw
                    cases en : num? k with
                    | none => rfl
                    | some n => exact absurd ⟨by rw [en]; rfl, aw⟩ n7
                  · rfl
                · obtain ⟨hk, hw⟩ := hb7.mp c
                  obtain ⟨n, en⟩ := Option.isSome_iff_exists.mp hk
                  have ek : lnum k = n := by unfold lnum; rw [en]; rfl
                  have er2 : rl [("when" : Str), f, s, k, "carry", w] = some (.whn f s n w) := by rw [er, if_pos hw, ec, en]; rfl
                  dsimp only [tNext]
                  refine IxR'.l (.of hp5) (v := .str f) rfl (IxR'.l (.of hp5) (v := .str s) rfl (IxR'.l (.of hp5) (v := .str k) rfl (CallP.by (p_lnum T) (by decide) ⟨k, rfl, hlen k (by simp), ?_⟩)))
                  refine IxR'.l (.of hp5) (v := .str w) rfl (CallP.by (p_lamt T) (by decide) ⟨w, rfl, hlen w (by simp), (by decide : 4 ≤ sizeLine), fun q hq => ?_⟩)
                  rw [ek]
                  have kk := (k1.trans k5).trans (Gr.new (o := .lst [.str f, .str s, .int n, .int (lamt w)]) hq)
                  refine h q _ kk (none_gr (k1.trans k5) hq) (fun e => by rw [er2] at e; cases e) (fun r e => by rw [er2] at e; cases e; exact upd_same)
end
end Lw
-- of law_k55_rule_texts
namespace Lw
open PySem PySem.Spec PyProof.Rows L2 Cy Tx
theorem count0 (z : Str) : Txt.count z "0" = ((ls z).count 48 : Int) := by rw [zero_eq, count_cnt, cnt_count]
theorem bits_count : ∀ l : List Nat, l.all Bit = true → l.count 48 + l.count 49 = l.length
  | [], _ => rfl
  | a :: r, h => by
    rw [List.all_cons, Bool.and_eq_true] at h
    have ih := bits_count r h.2
    have ha : a = 48 ∨ a = 49 := by simpa [Bit] using h.1
    rcases ha with rfl | rfl
    · simp; omega
    · simp; omega
theorem count_dead {z : Str} (h : okW z = true) : Txt.count z "0" = z.length - Txt.count z "1" := by
  rw [count0, count1, ls_len]
  have := bits_count (ls z) (ok_all h)
  omega
theorem ones_le {z : Str} (h : okW z = true) : Txt.count z "1" ≤ z.length := by
  rw [count1, ls_len]
  have := bits_count (ls z) (ok_all h)
  omega
section
variable {g : Wd} {j : Nat} {H : Hp}
/-- a standing and the budgets, as the law holds them -/
structure SP (H : Hp) (p pp : Addr) (z : Str) (w t : Int) (bs : List Int) : Prop where
  st : Stn H p z w t
  hp : H pp = some (.lst (bs.map V.int))
  bo : BsOk bs
theorem SP.gr {H H' : Hp} {p pp : Addr} {z : Str} {w t : Int} {bs : List Int} (k : Gr H H') (h : SP H p pp z w t bs) : SP H' p pp z w t bs := ⟨h.st.gr k, k _ _ h.hp, h.bo⟩
theorem bat_at {bs : List Int} (hb : 0 < bs.length) (t : Int) : atI (bs.map V.int) (t % (bs.length : Int)) = some (.int (bat bs t)) := by
  obtain ⟨k, hk, ek⟩ := nat_mod (a := t) hb
  refine at_of ek ?_
  unfold bat
  rw [ek]
  simp [List.getD, hk]
def spVal : Sp := fun vs H Q _ => ∃ (f z : Str) (p pp : Addr) (w t : Int) (bs : List Int), vs = [.str f, .ref p, .ref pp] ∧ SP H p pp z w t bs ∧ Q (.int (fact f z w (bat bs t))) H
theorem p_val (T : Top g) : FnG g 2 (gad g.K "_law_value") spVal := fk__law_value T 0 fun vs H Q E ⟨f, z, p, pp, w, t, bs, ev, ⟨⟨hs, sv⟩, hp, bo⟩, h⟩ => by
  subst ev
  have hz : z.length ≤ 64 := by have := sv.lz; have := sv.w2; omega
  have hz2 : z.length ≤ sizeLine := ml (by omega)
  have hcut := cut_len z
  have hlb := bo.l1
  refine ⟨rfl, IxR'.l (.of hs) (v := .str z) rfl ?_⟩
  unfold fact at h
  refine ite_i (fun c => ?_) (fun c => ?_)
  · rw [if_pos (dt0 c)] at h
    exact IxR'.l (.of hs) (v := .int w) rfl ⟨hz2, h⟩
  rw [if_neg (df0 c)] at h
  refine ite_i (fun c => ?_) (fun c => ?_)
  · rw [if_pos (dt0 c)] at h
    exact h
  rw [if_neg (df0 c)] at h
  refine ite_i (fun c => ?_) (fun c => ?_)
  · rw [if_pos (dt0 c), ← count_dead sv.ok] at h
    exact h
  rw [if_neg (df0 c)] at h
  refine ite_i (fun c => ?_) (fun c => ?_)
  · rw [if_pos (dt0 c)] at h
    have hl : (Txt.lstripChars (cutS z (some 1) none) "0").length ≤ (cutS z (some 1) none).length := by
      rw [ls_len, lstrip0, ls_len]
      exact (List.dropWhile_sublist _).length_le
    exact ⟨hz2, ml (by omega), hz2, ml (by omega), ml (by omega), h⟩
  · rw [if_neg (df0 c)] at h
    refine IxR'.l (.of hs) (v := .int t) rfl ?_
    refine LenP.l (.of hp) ?_
    rw [List.length_map]
    exact ⟨by omega, IxR'.l (.of hp) (bat_at hlb t) h⟩
/-- a rule as the law keeps it, of a line -/
def spHld : Sp := fun vs H Q _ => ∃ (r : Rl) (q p pp : Addr) (z : Str) (w t : Int) (bs : List Int), vs = [.ref q, .ref p, .ref pp] ∧ (∀ f s k a, r = .whn f s k a → f ∈ facts ∧ s ∈ sgns) ∧ H q = some (.lst (lvals r)) ∧ SP H p pp z w t bs ∧ Q (.bl (hold r z w (bat bs t))) H
theorem p_hld (T : Top g) : FnG g 4 (gad g.K "_law_holds") spHld := fk__law_holds T 2 fun vs H Q E ⟨r, q, p, pp, z, w, t, bs, ev, fs, hq, hsp, h⟩ => by
  subst ev
  cases r with
  | els a =>
    refine ⟨rfl, IxR'.l (.of hq) (v := .str "else") rfl ?_⟩
    exact h
  | whn f s k a =>
    refine ⟨rfl, IxR'.l (.of hq) (v := .str f) rfl ?_⟩
    have ff := (fs f s k a rfl).1
    have fe : f ≠ "else" := by
      have : ∀ f ∈ facts, f ≠ "else" := by decide +kernel
      exact this f ff
    refine ite_i (fun c => absurd (dt0 c) fe) (fun _ => ?_)
    refine IxR'.l (.of hq) (v := .str f) rfl (CallP.by (p_val T) (by decide) ⟨f, z, p, pp, w, t, bs, rfl, hsp, ?_⟩)
    have h2 : Q (.bl (if s = "<=" then decide (fact f z w (bat bs t) ≤ k) else if s = ">=" then decide (k ≤ fact f z w (bat bs t)) else decide (fact f z w (bat bs t) = k))) H := h
    refine IxR'.l (.of hq) (v := .str s) rfl (ite_i (fun c => ?_) (fun c => ?_))
    · rw [if_pos (dt0 c)] at h2
      exact IxR'.l (.of hq) (v := .int k) rfl h2
    rw [if_neg (df0 c)] at h2
    refine IxR'.l (.of hq) (v := .str s) rfl (ite_i (fun c => ?_) (fun c => ?_))
    · rw [if_pos (dt0 c)] at h2
      exact IxR'.l (.of hq) (v := .int k) rfl h2
    · rw [if_neg (df0 c)] at h2
      refine IxR'.l (.of hq) (v := .int k) rfl ?_
      have e : (false != decide (fact f z w (bat bs t) = k)) = decide (fact f z w (bat bs t) = k) := by cases decide (fact f z w (bat bs t) = k) <;> rfl
      show Q (.bl (false != decide (fact f z w (bat bs t) = k))) _
      rw [e]
      exact h2
/-- the law's rules of lines -/
inductive LRules (H : Hp) : List V → List Str → Prop where
  | nil : LRules H [] []
  | cons {q : Addr} {vs : List V} {w : Str} {ws : List Str} {r : Rl} (h : rline w = some r) (p : H q = some (.lst (lvals r))) (t : LRules H vs ws) : LRules H (.ref q :: vs) (w :: ws)
theorem LRules.gr {H H' : Hp} (k : Gr H H') {vs : List V} {ws : List Str} (h : LRules H vs ws) : LRules H' vs ws := by
  induction h with
  | nil => exact .nil
  | cons h p t ih => exact .cons h (k _ _ p) ih
theorem LRules.snoc {H : Hp} {vs : List V} {ws : List Str} {q : Addr} {w : Str} {r : Rl} (h : LRules H vs ws) (e : rline w = some r) (p : H q = some (.lst (lvals r))) : LRules H (vs ++ [.ref q]) (ws ++ [w]) := by
  induction h with
  | nil => exact .cons e p .nil
  | cons h p' t ih => exact .cons h p' ih
theorem LRules.len {H : Hp} {vs : List V} {ws : List Str} (h : LRules H vs ws) : vs.length = ws.length := by
  induction h with
  | nil => rfl
  | cons h p' t ih => simp [ih]
theorem LRules.at {H : Hp} {us : List V} {ws : List Str} (h : LRules H us ws) : ∀ {i : Nat} {v : V}, us[i]? = some v → ∃ w r q, v = .ref q ∧ ws[i]? = some w ∧ rline w = some r ∧ H q = some (.lst (lvals r)) := by
  induction h with
  | nil => intro i v e; simp at e
  | @cons q0 vs w ws r hr p t ih =>
    intro i v e
    cases i with
    | zero => cases e; exact ⟨w, r, q0, rfl, rfl, hr, p⟩
    | succ i => exact ih e
theorem lvals3 (r : Rl) : atI (lvals r) 3 = some (.int (lamt r.amt)) := by cases r <;> rfl
theorem amt_due {a : Str} {b o : Int} (am : amtOk a = true) (ho : o ≤ 1000) : min (min (lamt a) b) o = amtV a (min b o) := by
  unfold lamt amtV lnum
  by_cases h : a = "all"
  · rw [if_pos h, if_pos h]; omega
  · rw [if_neg h, if_neg h]
    obtain ⟨n, en⟩ := amt_num am h
    rw [en]
    show min (min n b) o = min (min b o) n
    omega
theorem chs_zero {z : Str} {p b : Int} : ∀ {ws : List Str}, chs z p b 0 ws = 0
  | [] => rfl
  | w :: ws => by
    cases er : rline w with
    | none =>
      show (match rline w with
        | some r => if hold r z p b = true then amtV r.amt 0 else chs z p b 0 ws
        | none => 0) = 0
      rw [er]
    | some r =>
      rw [chs_some er]
      split
      · unfold amtV
        split
        · rfl
        · cases en : num? r.amt with
          | none => rfl
          | some n => have := num_nn en; show min 0 n = 0; omega
      · exact chs_zero
def spDue : Sp := fun vs H Q _ => ∃ (l p pp : Addr) (us : List V) (ws : List Str) (z : Str) (w t : Int) (bs : List Int), vs = [.ref l, .ref p, .ref pp] ∧ H l = some (.lst us) ∧ LRules H us ws ∧ SP H p pp z w t bs ∧ ∀ H', Gr H H' → Q (.int (chs z w (bat bs t) (mostA z w bs t) ws)) H'
theorem p_due (T : Top g) : FnG g 6 (gad g.K "_law_due") spDue := fk__law_due T 4 fun vs H Q E ⟨l, p, pp, us, ws, z, w, t, bs, ev, hl, lr, hsp, h⟩ => by
  subst ev
  obtain ⟨⟨hs, sv⟩, hp, bo⟩ := id hsp
  have hz : z.length ≤ 64 := by have := sv.lz; have := sv.w2; omega
  have hz2 : z.length ≤ sizeLine := ml (by omega)
  refine ⟨rfl, IxR'.l (.of hs) (v := .str z) rfl ⟨hz2, IxR'.l (.of hs) (v := .int w) rfl (ite_i (fun c => ?_) (fun c => ?_))⟩⟩
  · have e0 : mostA z w bs t = 0 := by unfold mostA; rw [if_pos (dt0 c)]
    rw [e0] at h
    have := h H Gr.refl
    rw [chs_zero] at this
    exact this
  · have e0 : mostA z w bs t = min (bat bs t) (Txt.count z "1") := by unfold mostA; rw [if_neg (df0 c)]
    rw [e0] at h
    refine SeqP.l rfl (.of hl) ?_
    refine for_list (xs := us) (fun i σ H' => Gr H H' ∧ chs z w (bat bs t) (min (bat bs t) (Txt.count z "1")) ws = chs z w (bat bs t) (min (bat bs t) (Txt.count z "1")) (ws.drop i) ∧ ∃ o1, σ = [some (.ref l), some (.ref p), some (.ref pp), o1])
      ⟨Gr.refl, by rw [List.drop_zero], none, rfl⟩ (fun i σ H' _ q => .of (q.1 _ _ hl)) ?_ ?_
    · rintro i x σ H' hx ⟨k2, ec, o1, rfl⟩
      obtain ⟨w0, rr, q, rfl, hw, er, hq⟩ := lr.at hx
      obtain ⟨am, fs⟩ := rline_amt er
      rw [drop_at hw, chs_some er] at ec
      refine CallP.by (p_hld T) (by decide) ⟨rr, q, p, pp, z, w, t, bs, rfl, fs, k2 _ _ hq, hsp.gr k2, ?_⟩
      refine ite_i (fun ch => ?_) (fun ch => ?_)
      · rw [if_pos ch, ← amt_due am (by have := ones_le sv.ok; omega)] at ec
        have q2 := h _ k2
        rw [ec] at q2
        refine IxR'.l (.of (k2 _ _ hq)) (lvals3 rr) ?_
        refine IxR'.l (.of (k2 _ _ hs)) (v := .int t) rfl ?_
        refine LenP.l (.of (k2 _ _ hp)) ?_
        rw [List.length_map]
        refine ⟨by have := bo.l1; omega, IxR'.l (.of (k2 _ _ hp)) (bat_at bo.l1 t) ?_⟩
        exact IxR'.l (.of (k2 _ _ hs)) (v := .str z) rfl q2
      · rw [if_neg (by rw [ch]; decide)] at ec
        exact ⟨k2, ec, _, rfl⟩
    · rintro σ H' ⟨k2, ec, o1, rfl⟩
      have q2 := h _ k2
      rw [ec, List.drop_eq_nil_of_le (by rw [lr.len]; exact Nat.le_refl _)] at q2
      exact q2
end
end Lw
-- of law_k55_rule_texts
namespace Lw
open PySem PySem.Spec PyProof.Rows L2 Cy Tx
def ldat : Rl → List PyData
  | .els a => [.str "else", .str "", .int 0, .int (lamt a)]
  | .whn f s k a => [.str f, .str s, .int k, .int (lamt a)]
theorem ldat_shaped {r : Rl} (fs : ∀ f s k a, r = .whn f s k a → f ∈ facts ∧ s ∈ sgns) : SeqAt.shaped (.list (ldat r)) = true := by
  cases r with
  | els a =>
    have : PyData.strOk ("else" : Str) = true ∧ PyData.strOk ("" : Str) = true := by decide +kernel
    simp [ldat, SeqAt.shaped, PyData.canLay0, PyData.canLayAll0, PyData.depth, PyData.depthAll, this]
  | whn f s k a =>
    simp [ldat, SeqAt.shaped, PyData.canLay0, PyData.canLayAll0, PyData.depth, PyData.depthAll]
    exact strok (fs f s k a rfl)
theorem dp_vals {K : PySem.W.Frag} {H : Hp} (r : Rl) : DpAll K H (lvals r) (ldat r) := by
  cases r with
  | els a => exact .cons (.str _) (.cons (.str _) (.cons (.int _) (.cons (.int _) .nil)))
  | whn f s k a => exact .cons (.str _) (.cons (.str _) (.cons (.int _) (.cons (.int _) .nil)))
section
variable {g : Wd} {j : Nat} {H : Hp}
/-- rule(line) == [] -/
theorem bad_eq (T : Top g) {z : Str} {Q : VK} {E : XK} (hj : 6 ≤ j) (hz : z.length ≤ 3000000) (h : ∀ H', Gr H H' → Q (.bl (isBad z)) H') :
    CallP g j (gad g.K "_law_rule") [.str z] H (fun x H1 => 0 ≤ sizeLine ∧ ∀ p, H1 p = none → cEqN g.K false x (.ref p) (upd H1 p (.lst [])) Q) E := by
  refine CallP.by (p_lrule T) hj ⟨z, rfl, hz, fun p H1 k1 np hno hyes => ⟨(by decide : 0 ≤ sizeLine), fun q hq => ?_⟩⟩
  have k2 : Gr H1 (upd H1 q (.lst [])) := Gr.new hq
  have h2 := h _ (k1.trans k2)
  unfold isBad at h2
  cases er : rline z with
  | none =>
    rw [er] at h2
    exact .dat (.list []) (.list []) (.lst (.of (k2 _ _ (hno er))) .nil) (.lst (.of upd_same) .nil) rfl rfl h2
  | some r =>
    rw [er] at h2
    refine .dat (.list (ldat r)) (.list []) (.lst (.of (k2 _ _ (hyes r er))) (dp_vals r)) (.lst (.of upd_same) .nil) (ldat_shaped (rline_amt er).2) rfl ?_
    have e : PyData.eqv (.list (ldat r)) (.list []) = false := by cases r <;> rfl
    rw [e]
    exact h2
def fbad (z : Str) : Int := if badAt (lines z) < (lines z).length then (badAt (lines z) : Nat) + 1 else 0
def spFb : Sp := fun vs H Q _ => ∃ z : Str, vs = [.str z] ∧ z.length ≤ 3000000 ∧ ∀ H', Gr H H' → Q (.int (fbad z)) H'
theorem p_fb (T : Top g) : FnG g 8 (gad g.K "_law_first_bad") spFb := fk__law_first_bad T 6 fun vs H Q E ⟨z, ev, hz, h⟩ => by
  subst ev
  obtain ⟨f1, f2, f3⟩ := split_facts (z := z) nl_eq (by decide)
  refine ⟨rfl, by decide +kernel, by rw [sizeLine_eq]; omega, fun p hp => ?_⟩
  have e0 : Txt.split z "\n" = lines z := rfl
  unfold fbad at h
  rw [e0] at f1 f2 f3 ⊢
  revert f1 f2 f3 h
  generalize lines z = ws
  intro h f1 f2 f3
  have hpp : upd H p (.lst (ws.map V.str)) p = some (.lst (ws.map V.str)) := upd_same
  have k0 : Gr H (upd H p (.lst (ws.map V.str))) := Gr.new hp
  revert hpp k0
  generalize upd H p (.lst (ws.map V.str)) = H1
  intro hpp k0
  refine LenP.l (.of hpp) ?_
  rw [List.length_map]
  refine ⟨_, rfl, by omega, by omega, ?_⟩
  have en : ((ws.length : Nat) : Int).toNat = ws.length := by omega
  rw [en]
  refine for_range (fun i σ H' => Gr H1 H' ∧ (∀ k, k < i → ∀ w, ws[k]? = some w → isBad w = false) ∧ ∃ o, σ = [some (.str z), some (.ref p), o]) ⟨Gr.refl, fun k hk => absurd hk (Nat.not_lt_zero _), none, rfl⟩ ?_ ?_
  · rintro i σ H2 hi ⟨k2, hg, o, rfl⟩
    have ei : ws[i]? = some ws[i] := by simp [hi]
    have hwl := (f3 ws[i] (List.getElem_mem hi)).1
    refine IxR'.l (.of (k2 _ _ hpp)) (v := .str ws[i]) (at_of (j := i) (by omega) (by rw [List.getElem?_map, ei]; rfl)) ?_
    refine bad_eq T (by decide) (by omega) fun H3 k3 => ite_i (fun cb => ?_) (fun cb => ?_)
    · have hb : badAt ws = i := (List.findIdx_eq hi).mpr ⟨cb, fun k hk => by
        have hk2 : k < ws.length := by omega
        have := hg k hk ws[k] (by simp [hk2])
        simpa using this⟩
      rw [hb, if_pos hi] at h
      rw [show (0 : Int) + (i : Nat) = (i : Nat) by omega]
      exact h _ ((k0.trans k2).trans k3)
    · refine ⟨k2.trans k3, fun k hk w hkw => ?_, _, rfl⟩
      by_cases e : k = i
      · subst e
        have e2 : w = ws[k] := Option.some.inj (hkw.symm.trans ei)
        subst e2
        exact cb
      · exact hg k (by omega) w hkw
  · rintro σ H2 ⟨k2, hg, o, rfl⟩
    have hb : badAt ws = ws.length := List.findIdx_eq_length_of_false fun w hw => by
      obtain ⟨k, hk, rfl⟩ := List.getElem_of_mem hw
      exact hg k hk _ (by simp [hk])
    rw [hb, if_neg (Nat.lt_irrefl _)] at h
    exact h _ (k0.trans k2)
def spIsc : Sp := fun vs H Q _ => ∃ n : Int, vs = [.int n] ∧ Q (.bl true) H
theorem p_isc (T : Top g) : FnG g 2 (gad g.K "_law_is_count") spIsc := fk__law_is_count T 0 fun vs H Q E ⟨n, ev, h⟩ => by
  subst ev
  refine ⟨rfl, IsiP.sc (n := "int") (m := "int") (b := true) rfl rfl rfl ?_⟩
  exact IsiP.sc (n := "int") (m := "bool") (b := false) rfl rfl rfl h
theorem p_iscx (T : Top g) : FnP g 2 (gad g.K "_law_is_count") (fun _ _ _ vs H Q => ∃ n : Int, vs = [.int n] ∧ Q (.bl true) H) := by
  obtain ⟨fd, F⟩ := fd__law_is_count T
  have hb : Binds g.K fd ["_law_thing"] [] := FunD.bindsN F fun _ _ _ _ _ _ us hl => match us, hl with | [_], _ => rfl
  obtain ⟨oc, od, dV, kV, doc, pm, an, cdv, ct, osl, rfl, lk, hcd, hD, _⟩ := F.ex
  refine fn_ofP (f := gad g.K "_law_is_count") lk hcd sc__law_is_count hb (fun a c d vs H Q ⟨n, ev, _⟩ => by subst ev; rfl) fun A outer s H vs Q p cls d hr hz hfv ⟨n, ev, q⟩ => ⟨rd__law_is_count g 0 E0, ?_, ?_⟩
  · unfold rd__law_is_count
    exact (pss_one (ps_ret (pe_cAnd (pe_callB (call_cIsi) (by rfl) (bl_isinstance T) bt_isinstance (pa_cons (cv 0) (pa_cons (pe_bltn (v := .ty "int") (by rfl) (bl_int T) bt_int (by rfl)) pa_nil))) (pe_one (pe_cNot (pe_callB (call_cIsi) (by rfl) (bl_isinstance T) bt_isinstance (pa_cons (cv 0) (pa_cons (pe_bltn (v := .ty "bool") (by rfl) (bl_bool T) bt_bool (by rfl)) pa_nil))))))))
  · subst ev
    refine IsiP.sc (n := "int") (m := "int") (b := true) rfl rfl rfl ?_
    exact IsiP.sc (n := "int") (m := "bool") (b := false) rfl rfl rfl q
def spRef : Sp := fun vs H Q _ => ∃ (z : Str) (n : Int), vs = [.str z, .int n] ∧ z.length ≤ 3000000 ∧ fbad z = n ∧ 0 < n ∧ ∀ H', Gr H H' → Q (.bl true) H'
theorem caughtB (T : Top g) {i : Nat} {ts : Addr → Value → Option Addr → TS} {Wout : WX} {D : Ends} {σ : L2.St} {n : Int}
    (h : ∀ a d H1, Gr H H1 → H1 d = some (.xd [("line", .int n)]) → H1 a = none → ts a (.ref (gad g.K "BadRule")) (some d) { nx := fun σ' H' => D.nx (σ'.set i none) H', rt := D.rt, bk := fun σ' H' => D.bk (σ'.set i none) H', ct := fun σ' H' => D.ct (σ'.set i none) H' } (σ.set i (some (.ref a))) H1) :
    BRo g (fun cls d H' => wAs g.K (.ref (gad g.K "BadRule")) i ts Wout D cls d σ H') H n := fun H1 d k e =>
  ⟨true, em_BadRule_BadRule T, fun _ a ha => h a d H1 k e ha, fun z => Bool.noConfusion z⟩
theorem p_ref (T : Top g) : FnG g 14 (gad g.K "_law_refused") spRef := fk__law_refused T 12 fun vs H Q E ⟨z, n, ev, hz, hb, hn, h⟩ => by
  subst ev
  have hlt : badAt (lines z) < (lines z).length ∧ ((badAt (lines z) : Nat) : Int) + 1 = n := by
    unfold fbad at hb
    split at hb
    · rename_i c; exact ⟨c, hb⟩
    · omega
  refine ⟨rfl, mk_rk T (by decide) hz (fun _ => ?_) (fun e => absurd hlt.1 (by omega))⟩
  rw [hlt.2]
  refine caughtB T fun a d H1 k e ha => ?_
  refine XfP.by rfl rfl (xf_BadRule T) (na_BadRule_line T) rfl e lk1 ?_
  refine CallX.by (p_iscx T) (by decide) ⟨n, rfl, ?_⟩
  refine XfP.by rfl rfl (xf_BadRule T) (na_BadRule_line T) rfl e lk1 ?_
  refine ite_i (fun c => absurd rfl (dt1 c)) (fun _ => ?_)
  refine GvP.by (gv_InvalidInput T) ?_
  refine IsxP.own rfl rfl (ec_BadRule T) rfl e rfl (kt_BadRule_InvalidInput T) ?_
  refine GvP.by (gv_StoreError T) ?_
  refine IsxP.own rfl rfl (ec_BadRule T) rfl e rfl (kt_BadRule_StoreError T) ?_
  exact IsxP.ty rfl rfl (ec_BadRule T) rfl e rfl (kv_BadRule T) (h _ k)
end
end Lw
-- of law_k55_rule_texts
namespace Lw
open PySem PySem.Spec PyProof.Rows L2 Cy Tx
abbrev fixS : Str := "when budget >= 002 carry 3"
def fixW (w : Str) : Str := if isBad w = true then fixS else w
def heal (z : Str) : Str := Txt.join "\n" ((lines z).map fixW)
theorem fix_ok : isBad fixS = false := by decide +kernel
theorem fix_ls : 10 ∉ ls fixS := by decide +kernel
theorem fix_len : fixS.length = 26 := by decide +kernel
theorem fixW_ok (w : Str) : isBad (fixW w) = false := by
  unfold fixW
  split
  · exact fix_ok
  · rename_i c; simpa using c
theorem heal_lines (z : Str) : lines (heal z) = (lines z).map fixW := by
  obtain ⟨f1, f2, f3⟩ := split_facts (z := z) nl_eq (by decide)
  refine cut_lines (fun e => f1 (List.map_eq_nil_iff.mp e)) fun p hp => ?_
  obtain ⟨w, hw, rfl⟩ := List.mem_map.mp hp
  unfold fixW
  split
  · exact fix_ls
  · exact (f3 w hw).2
theorem heal_good (z : Str) : badAt (lines (heal z)) = (lines (heal z)).length := by
  rw [heal_lines]
  refine List.findIdx_eq_length_of_false fun w hw => ?_
  obtain ⟨v, hv, rfl⟩ := List.mem_map.mp hw
  exact fixW_ok v
theorem fix_sum : ∀ ws : List Str, ((ws.map fixW).map (·.length)).sum ≤ (ws.map (·.length)).sum + 26 * ws.length
  | [] => by simp
  | w :: ws => by
    have ih := fix_sum ws
    have h : (fixW w).length ≤ w.length + 26 := by
      unfold fixW
      split
      · rw [fix_len]; omega
      · omega
    simp only [List.map_cons, List.sum_cons, List.length_cons]
    omega
theorem nl_len : ("\n" : Str).length = 1 := by decide +kernel
theorem heal_sum {z : Str} (hz : z.length ≤ 100000) : (((lines z).map fixW).map (·.length)).sum + ((lines z).map fixW).length * ("\n" : Str).length ≤ 2900000 := by
  obtain ⟨f1, f2, f3⟩ := split_facts (z := z) nl_eq (by decide)
  have h1 := split_sum (z := z) nl_eq (by decide)
  have h2 := fix_sum (lines z)
  have e0 : Txt.split z "\n" = lines z := rfl
  rw [e0] at h1 f2
  rw [List.length_map, nl_len]
  omega
theorem heal_len {z : Str} (hz : z.length ≤ 100000) : (heal z).length ≤ 3000000 := by
  have h := heal_sum hz
  have h2 := StrLaws.join_length_le "\n" ((lines z).map fixW)
  unfold heal
  rw [TL.join_eq]
  omega
section
variable {g : Wd} {j : Nat} {H : Hp}
def spHeal : Sp := fun vs H Q _ => ∃ z : Str, vs = [.str z] ∧ z.length ≤ 100000 ∧ ∀ H', Gr H H' → Q (.str (heal z)) H'
theorem p_heal (T : Top g) : FnG g 8 (gad g.K "_law_healed") spHeal := fk__law_healed T 6 fun vs H Q E ⟨z, ev, hz, h⟩ => by
  subst ev
  obtain ⟨f1, f2, f3⟩ := split_facts (z := z) nl_eq (by decide)
  have hsum := heal_sum hz
  refine ⟨rfl, by decide, fun l hl => ?_⟩
  refine ⟨by decide +kernel, by rw [sizeLine_eq]; omega, fun p hp => ?_⟩
  have e0 : Txt.split z "\n" = lines z := rfl
  unfold heal at h
  rw [e0] at f1 f2 f3 ⊢
  revert f1 f2 f3 h hsum
  generalize lines z = ws
  intro h f1 f2 f3 hsum
  have pl : p ≠ l := fun e => by rw [e, upd_same] at hp; cases hp
  have hpp : upd (upd H l (.lst [])) p (.lst (ws.map V.str)) p = some (.lst (ws.map V.str)) := upd_same
  have hll : upd (upd H l (.lst [])) p (.lst (ws.map V.str)) l = some (.lst []) := by rw [upd_ne (Ne.symm pl), upd_same]
  have k0 : Gr H (upd (upd H l (.lst [])) p (.lst (ws.map V.str))) := (Gr.new hl).trans (Gr.new hp)
  refine SeqP.l rfl (.of hpp) ?_
  revert hpp hll k0
  generalize upd (upd H l (.lst [])) p (.lst (ws.map V.str)) = H1
  intro hpp hll k0
  refine for_list (xs := ws.map V.str) (fun i σ H' => Gr H H' ∧ H' p = some (.lst (ws.map V.str)) ∧ H' l = some (.lst (((ws.take i).map fixW).map V.str)) ∧ ∃ o, σ = [some (.str z), some (.ref l), o])
    ⟨k0, hpp, hll, none, rfl⟩ (fun i σ H' _ q => .of q.2.1) ?_ ?_
  · rintro i x σ H2 hx ⟨k2, hp2, hl2, o, rfl⟩
    rw [List.getElem?_map] at hx
    cases ei : ws[i]? with
    | none => rw [ei] at hx; cases hx
    | some w =>
      rw [ei] at hx
      cases hx
      have hwl := (f3 w (List.mem_of_getElem? ei)).1
      have hi : i < ws.length := (List.getElem?_eq_some_iff.mp ei).1
      have fin : ∀ (y : Str) (H3 : Hp) (K : Hp → Prop), y = fixW w → Gr H2 H3 → (∀ H4, Gr H H4 ∧ H4 p = some (.lst (ws.map V.str)) ∧ H4 l = some (.lst (((ws.take (i + 1)).map fixW).map V.str)) → K H4) →
          IsLst g.K (.ref l) H3 fun p' => AppP p' (.str y) H3 fun _ H4 => K H4 := fun y H3 K ey k3 hK => by
        subst ey
        have hl3 := k3 _ _ hl2
        refine IsLst.by rfl (.of hl3) (AppP.by hl3 (by rw [List.length_map, List.length_map, List.length_take, sizeLine_eq]; omega) (hK _ ⟨gr_upd (k2.trans k3) hl, by rw [upd_ne pl]; exact k3 _ _ hp2, ?_⟩))
        rw [upd_same, List.take_succ, ei, List.map_append, List.map_append]
        rfl
      refine bad_eq T (by decide) (by omega) fun H3 k3 => ite_i (fun cb => ?_) (fun cb => ?_)
      · exact fin fixS H3 _ (by unfold fixW; rw [if_pos cb]) k3 fun H4 ⟨a, b, c⟩ => ⟨a, b, c, _, rfl⟩
      · exact fin w H3 _ (by unfold fixW; rw [if_neg (by rw [cb]; decide)]) k3 fun H4 ⟨a, b, c⟩ => ⟨a, b, c, _, rfl⟩
  · rintro σ H2 ⟨k2, hp2, hl2, o, rfl⟩
    rw [List.length_map, List.take_length] at hl2
    refine JoinL.mk _ hl2 (by omega) (h _ k2)
def spChs (g : Wd) : Sp := fun vs H Q _ => ∃ (k p pp r : Addr) (z y : Str) (w t : Int) (bs : List Int), vs = [.ref k, .str z, .ref p, .ref pp, .ref r] ∧ z.length ≤ 3000000 ∧ RKAt g H k z ∧ badAt (lines z) = (lines z).length ∧ SP H p pp y w t bs ∧ RoundAt g H r bs ∧ ∀ H', Gr H H' → Q (.bl true) H'
theorem moment_ok {z : Str} {p ph : Int} (h1 : okW z = true) (h2 : 1 ≤ p) (h3 : 0 ≤ ph) (h4 : (z.length : Int) ≤ p) : moment z p ph = none := by
  unfold moment
  rw [if_neg (by rw [h1]; decide), if_neg (by omega), if_neg (by omega), if_neg (by omega)]
theorem p_chs (T : Top g) : FnG g 16 (gad g.K "_law_chooses") (spChs g) := fk__law_chooses T 14 fun vs H Q E ⟨k, p, pp, r, z, y, w, t, bs, ev, hz, hrk, hgd, hsp, hra, h⟩ => by
  subst ev
  obtain ⟨f1, f2, f3⟩ := split_facts (z := z) nl_eq (by decide)
  have good := bad_none hgd
  refine ⟨rfl, by decide +kernel, by rw [sizeLine_eq]; omega, fun q hq => ?_⟩
  have e0 : Txt.split z "\n" = lines z := rfl
  rw [e0] at f1 f2 f3 ⊢
  have hqq : upd H q (.lst ((lines z).map V.str)) q = some (.lst ((lines z).map V.str)) := upd_same
  have k0 : Gr H (upd H q (.lst ((lines z).map V.str))) := Gr.new hq
  refine SeqP.l rfl (.of hqq) fun D hD => ?_
  revert hqq k0 hD
  generalize upd H q (.lst ((lines z).map V.str)) = H1
  intro hqq k0 hD
  have qD : q ≠ D := fun e => by rw [e, hD] at hqq; cases hqq
  refine lc_list (xs := (lines z).map V.str) (fun i H' => Gr H1 H' ∧ ∃ us, H' D = some (.lst us) ∧ LRules (off D H') us ((lines z).take i)) ⟨Gr.new hD, [], upd_same, .nil⟩ (fun i H' _ q => .of (q.1 _ _ hqq)) ?_ ?_
  · rintro i x H2 hx ⟨k2, us, hu, lr⟩
    rw [List.getElem?_map] at hx
    cases ei : (lines z)[i]? with
    | none => rw [ei] at hx; cases hx
    | some v =>
      rw [ei] at hx
      cases hx
      have hv := List.mem_of_getElem? ei
      have hvl := (f3 v hv).1
      obtain ⟨rr, er⟩ := good v hv
      refine ⟨rfl, CallP.by (p_lrule T) (by decide) ⟨v, rfl, by omega, fun p3 H3 k3 np3 _ hyes => ?_⟩⟩
      have hp3 := hyes rr er
      have p3D : p3 ≠ D := fun e => by rw [e, hu] at np3; cases np3
      have hu3 := k3 _ _ hu
      refine ⟨us, hu3, by rw [lr.len, List.length_take, sizeLine_eq]; omega, gr_upd (k2.trans k3) hD, us ++ [.ref p3], upd_same, ?_⟩
      rw [List.take_succ, ei]
      have koff : Gr (off D H2) (off D (upd H3 D (.lst (us ++ [.ref p3])))) := fun a o e => by
        have n : a ≠ D := fun e' => by unfold off at e; rw [if_pos e'] at e; cases e
        exact off_ne n (by rw [upd_ne n]; exact k3 _ _ (off_le a o e))
      exact (lr.gr koff).snoc er (off_ne p3D (by rw [upd_ne p3D]; exact hp3))
  · rintro H2 ⟨k2, us, hu, lr⟩
    rw [List.length_map, List.take_length] at lr
    have lr := lr.gr off_le
    have k02 := k0.trans k2
    have hsp2 := hsp.gr k02
    have hra2 := hra.gr k02
    obtain ⟨⟨hs, sv⟩, hp, bo⟩ := id hsp2
    have hz64 : y.length ≤ 64 := by have := sv.lz; have := sv.w2; omega
    obtain ⟨dx, l, rs, i1, i2, i3⟩ := hrk.gr k02
    refine MethP.own rfl i1 (cl_RuleKeeper T) (mt_RuleKeeper_choose T) (lkn (by decide)) ?_
    refine IxR'.l (.of hs) (v := .str y) rfl (IxR'.l (.of hs) (v := .int w) rfl (IxR'.l (.of hs) (v := .int t) rfl ?_))
    refine CallP.by (p_ruch T z) (by decide) ⟨k, y, w, t, r, bs, rfl, by omega, ⟨dx, l, rs, i1, i2, i3⟩, hra2, bo.l1, ?_⟩
    rw [moment_ok sv.ok sv.w1 sv.t0 sv.lz]
    intro H3 k3
    refine CallP.by (p_isc T) (by decide) ⟨_, rfl, ?_⟩
    refine CallP.by (p_due T) (by decide) ⟨D, p, pp, us, lines z, y, w, t, bs, rfl, k3 _ _ hu, lr.gr k3, hsp2.gr k3, fun H4 k4 => ?_⟩
    refine ite_i (fun c => absurd rfl (dt1 c)) (fun _ => ?_)
    have k34 := k3.trans k4
    refine GvP.by (gv_Keeper T) ?_
    refine IsiP.own (b := true) (ty_RuleKeeper T (k34 _ _ i1)) rfl (kt_RuleKeeper_Keeper T) ?_
    refine MethP.own rfl (k34 _ _ i1) (cl_RuleKeeper T) (mt_RuleKeeper_label T) (lkn (by decide)) ?_
    refine CallP.by (p_rulab T z (by omega)) (by decide) ⟨k, rfl, ⟨dx, l, rs, k34 _ _ i1, k34 _ _ i2, i3.gr k34⟩, ?_⟩
    refine LenP.l (.of (k34 _ _ hu)) ?_
    rw [lr.len]
    have hlog : (((lines z).length : Nat) : Int).natAbs.log2 < 1920 := lg (by omega) (by decide) (by
      have : (10000000 : Int) < 2 ^ 1920 := by decide +kernel
      omega)
    refine ⟨hlog, ?_, ?_⟩
    · have := int_len hlog
      have e : ("rule " : Str).length = 5 := by decide +kernel
      show ("rule " : Str).length + (Str.ofString (toString ((lines z).length : Int))).length ≤ _
      rw [sizeLine_eq]
      omega
    · have hh := h _ (k02.trans k34)
      have e : (false != decide (("rule " : Str) ++ Str.ofString (toString ((lines z).length : Int)) = ("rule " : Str) ++ Str.ofString (toString ((lines z).length : Int)))) = true := by simp
      show Q (.bl (false != decide (("rule " : Str) ++ Str.ofString (toString ((lines z).length : Int)) = ("rule " : Str) ++ Str.ofString (toString ((lines z).length : Int))))) H4
      rw [e]
      exact hh
end
end Lw
-- of law_k55_rule_texts
namespace Lw
open PySem PySem.Spec PyProof.Rows L2 Cy Tx
theorem seq_cut {t r : TS} {D : Ends} {σ : L2.St} {H : Hp} (post : L2.St → Hp → Prop) (h1 : ∀ D' : Ends, (∀ σ' H', post σ' H' → D'.nx σ' H') → t D' σ H) (h2 : ∀ σ' H', post σ' H' → r D σ' H') : tSeq t r D σ H := h1 _ h2
section
variable {g : Wd} {j : Nat} {H : Hp}
structure Dr (g : Wd) (H : Hp) (sc b : Addr) (n : Int) (ns : List Int) : Prop where
  len : ns.length ≤ 63
  sc : Sc g H sc ns b
  bx : BoxAt H b n
theorem Dr.gr {H' : Hp} {sc b : Addr} {n : Int} {ns : List Int} (k : Gr H H') (h : Dr g H sc b n ns) : Dr g H' sc b n ns := ⟨h.len, h.sc.gx (Gx.gr k), h.bx.gr k⟩
theorem Dr.mono {sc b : Addr} {n m : Int} {ns : List Int} (h : Dr g H sc b n ns) (k : n ≤ m) : Dr g H sc b m ns := ⟨h.len, h.sc, h.bx.mono k⟩
theorem Dr.nb {sc b p : Addr} {n : Int} {ns : List Int} (h : Dr g H sc b n ns) (hp : H p = none) : p ≠ b := fun e => by obtain ⟨o, z⟩ := h.bx.some; rw [← e, hp] at z; cases z
/-- what is new stands beside the box -/
theorem Dr.al {sc b p : Addr} {n : Int} {ns : List Int} {o : HO} (h : Dr g H sc b n ns) (hp : H p = none) : Gr (off b H) (off b (upd H p o)) ∧ off b (upd H p o) p = some o ∧ Dr g (upd H p o) sc b n ns :=
  ⟨Gx.off (Gx.gr (Gr.new hp)), off_ne (h.nb hp) upd_same, h.gr (Gr.new hp)⟩
theorem t_take (T : Top g) {sc b : Addr} {n m : Int} {ns : List Int} {Q : VK} {E : XK} (D : Dr g H sc b n ns) (hj : 2 ≤ j) (hn : n ≤ 10 ^ 9) (h0 : 0 < m) (hm : m ≤ 10 ^ 31)
    (h : ∀ d H', 0 ≤ d → d < m → Gx b H H' → Dr g H' sc b (n + 1) ns → Q (.int d) H') : CallP g j (gad g.K "_law_take") [.ref sc, .ref b, .int m] H Q E :=
  CallP.by (p_take T) hj ⟨sc, b, m, n, ns, rfl, D.len, D.sc, D.bx, hn, h0, hm, fun d H' d0 d1 k hb => h d H' d0 d1 k ⟨D.len, D.sc.gx k, hb⟩⟩
theorem at_str {l : List Str} {d : Int} (h0 : 0 ≤ d) (h1 : d < l.length) : ∃ v, v ∈ l ∧ atI (l.map V.str) d = some (.str v) := by
  have hlt : d.toNat < l.length := by omega
  exact ⟨l[d.toNat]'hlt, List.getElem_mem hlt, at_of (j := d.toNat) (by omega) (by simp [hlt])⟩
def spDig (g : Wd) : Sp := fun vs H Q _ => ∃ (sc b : Addr) (k n : Int) (ns : List Int), vs = [.ref sc, .ref b, .int k] ∧ Dr g H sc b n ns ∧ n ≤ 10 ^ 8 ∧ 0 ≤ k ∧ k < 1000 ∧ ∀ (z : Str) H', z.length ≤ 3 → Gx b H H' → Dr g H' sc b (n + 1) ns → Q (.str z) H'
theorem p_dig (T : Top g) : FnG g 4 (gad g.K "_law_digits") (spDig g) := fk__law_digits T 2 fun vs H Q E ⟨sc, b, k, n, ns, ev, D, hn, k0, k1, h⟩ => by
  subst ev
  have hl : k.natAbs.log2 < 1920 := lg k0 (by decide) (by
    have : (1000 : Int) < 2 ^ 1920 := by decide +kernel
    omega)
  have hlen : (Str.ofString (toString k)).length ≤ 3 := by
    obtain ⟨m, rfl⟩ : ∃ m : Nat, k = (m : Int) := ⟨k.toNat, by omega⟩
    have e := TL.tl_num m
    rw [TL.len_tl, e]
    exact TL.numL_len (by decide) (by omega)
  refine ⟨rfl, hl, t_take T D (by decide) (by omega) (by decide) (by decide) fun d H1 d0 d1 kx D1 => ⟨?_, ?_⟩⟩
  · have : d = 0 ∨ d = 1 ∨ d = 2 ∨ d = 3 := by omega
    rcases this with rfl | rfl | rfl | rfl <;> decide +kernel
  · refine h _ H1 ?_ kx D1
    have e := len_zfill (Str.ofString (toString k)) d
    have e2 : ((Txt.zfill (Str.ofString (toString k)) d).length : Int) ≤ 3 := by
      rw [e]
      split <;> omega
    show (Txt.zfill (Str.ofString (toString k)) d).length ≤ 3
    omega
def spAmT (g : Wd) : Sp := fun vs H Q _ => ∃ (sc b : Addr) (n : Int) (ns : List Int), vs = [.ref sc, .ref b] ∧ Dr g H sc b n ns ∧ n ≤ 10 ^ 8 - 10 ∧ ∀ (z : Str) H', z.length ≤ 3 → Gx b H H' → Dr g H' sc b (n + 3) ns → Q (.str z) H'
theorem p_amt (T : Top g) : FnG g 6 (gad g.K "_law_amount_text") (spAmT g) := fk__law_amount_text T 4 fun vs H Q E ⟨sc, b, n, ns, ev, D, hn, h⟩ => by
  subst ev
  refine ⟨rfl, t_take T D (by decide) (by omega) (by decide) (by decide) fun d H1 d0 d1 k1 D1 => ?_⟩
  refine ⟨(by decide : 4 ≤ sizeLine), fun q hq => ?_⟩
  obtain ⟨kq, eq, Dq⟩ := D1.al (o := .lst (([5, 5, 30, 1000] : List Int).map V.int)) hq
  obtain ⟨v, hv, ev⟩ := at_int (l := [5, 5, 30, 1000]) d0 (by simpa using d1)
  have hv2 : 0 < v ∧ v ≤ 1000 := by
    simp only [List.mem_cons, List.not_mem_nil, or_false] at hv
    rcases hv with rfl | rfl | rfl | rfl <;> decide
  refine IxR'.l (xs := ([5, 5, 30, 1000] : List Int).map V.int) (.of upd_same) ev ?_
  refine t_take T Dq (by decide) (by omega) hv2.1 (by have := hv2.2; omega) fun d2 H2 d20 d21 k2 D2 => ?_
  have kk := (k1.trans (Gx.gr (Gr.new (o := .lst (([5, 5, 30, 1000] : List Int).map V.int)) hq))).trans k2
  refine ite_i (fun _ => ?_) (fun _ => ?_)
  · exact h _ _ (by decide +kernel) kk (D2.mono (by omega))
  · exact CallP.by (p_dig T) (by decide) ⟨sc, b, d2, _, ns, rfl, D2, by omega, d20, by omega, fun z H3 hz k3 D3 => h z H3 hz (kk.trans k3) (D3.mono (by omega))⟩
/-- the three standings and the budgets -/
structure St3 (F : Hp) (st pp : Addr) (ps : List Addr) (bs : List Int) : Prop where
  len : ps.length = 3
  st : F st = some (.lst (ps.map V.ref))
  each : ∀ p ∈ ps, ∃ z w t, Stn F p z w t
  hp : F pp = some (.lst (bs.map V.int))
  bo : BsOk bs
theorem St3.gr {F F' : Hp} {st pp : Addr} {ps : List Addr} {bs : List Int} (k : Gr F F') (h : St3 F st pp ps bs) : St3 F' st pp ps bs := ⟨h.len, k _ _ h.st, fun p hp => by
  obtain ⟨z, w, t, q⟩ := h.each p hp
  exact ⟨z, w, t, q.gr k⟩, k _ _ h.hp, h.bo⟩
theorem at_ref {l : List Addr} {d : Int} (h0 : 0 ≤ d) (h1 : d < l.length) : ∃ v, v ∈ l ∧ atI (l.map V.ref) d = some (.ref v) := by
  have hlt : d.toNat < l.length := by omega
  exact ⟨l[d.toNat]'hlt, List.getElem_mem hlt, at_of (j := d.toNat) (by omega) (by simp [hlt])⟩
def spLine (g : Wd) : Sp := fun vs H Q _ => ∃ (sc b st pp : Addr) (n : Int) (ns : List Int) (ps : List Addr) (bs : List Int), vs = [.ref sc, .ref b, .ref st, .ref pp] ∧ Dr g H sc b n ns ∧ n ≤ 10 ^ 7 ∧ St3 (off b H) st pp ps bs ∧ ∀ (z : Str) H', z.length ≤ 30 → Gx b H H' → Dr g H' sc b (n + 20) ns → Q (.str z) H'
theorem p_line (T : Top g) : FnG g 8 (gad g.K "_law_line") (spLine g) := fk__law_line T 6 fun vs H Q E ⟨sc, b, st, pp, n, ns, ps, bs, ev, D, hn, s3, h⟩ => by
  subst ev
  have join : ∀ {xs : List Str} {H' : Hp} {q : Addr} {m : Int}, H' q = some (.lst (xs.map V.str)) → (xs.map (·.length)).sum + xs.length ≤ 30 → Gx b H H' → Dr g H' sc b m ns → m ≤ n + 20 → JoinL g.K " " q H' Q := fun {xs H' q m} e hx k D' hm => by
    have e1 : (" " : Str).length = 1 := by decide +kernel
    refine JoinL.mk xs e (by rw [e1]; omega) (h _ _ ?_ k (D'.mono hm))
    have := StrLaws.join_length_le " " xs
    rw [TL.join_eq]
    rw [e1] at this
    omega
  refine ⟨rfl, CallP.by (p_amt T) (by decide) ⟨sc, b, n, ns, rfl, D, by omega, fun a H1 ha k1 D1 => ⟨(by decide : 2 ≤ sizeLine), fun e he => ?_⟩⟩⟩
  obtain ⟨k2, e2, D2⟩ := D1.al (o := .lst (([("carry" : Str), a] : List Str).map V.str)) he
  have kx2 : Gx b H (upd H1 e (.lst (([("carry" : Str), a] : List Str).map V.str))) := k1.trans (Gx.gr (Gr.new he))
  show tSeq _ _ _ _ (upd H1 e (.lst (([("carry" : Str), a] : List Str).map V.str)))
  have s32 := (s3.gr k1.off).gr k2
  revert k2 e2 D2 kx2 s32
  generalize upd H1 e (.lst (([("carry" : Str), a] : List Str).map V.str)) = H2
  intro k2 e2 D2 kx2 s32
  have lc : ("carry" : Str).length = 5 := by decide +kernel
  refine t_take T D2 (by decide) (by omega) (by decide) (by decide) fun d H3 d0 d1 k3 D3 => ?_
  have kx3 := kx2.trans k3
  have e3 := k3.off _ _ e2
  have s33 := s32.gr k3.off
  refine ite_i (fun _ => ?_) (fun _ => ?_)
  · refine ⟨(by decide : 1 ≤ sizeLine), fun q hq => ?_⟩
    obtain ⟨k4, e4, D4⟩ := D3.al (o := .lst (([("else" : Str)] : List Str).map V.str)) hq
    refine AddR.lst (([("else" : Str)] : List Str).map V.str) (([("carry" : Str), a] : List Str).map V.str) upd_same (off_le _ _ (k4 _ _ e3)) (show 1 + 2 ≤ sizeLine by decide) fun r hr => ?_
    rw [← List.map_append]
    refine join (xs := [("else" : Str)] ++ [("carry" : Str), a]) upd_same ?_ ((kx3.trans (Gx.gr (Gr.new hq))).trans (Gx.gr (Gr.new hr))) (D4.gr (Gr.new hr)) (by omega)
    have le : ("else" : Str).length = 4 := by decide +kernel
    simp [le, lc]
    omega
  · dsimp only [tNext]
    -- the name
    refine ⟨(by decide : 5 ≤ sizeLine), fun q hq => ?_⟩
    obtain ⟨k4, e4, D4⟩ := D3.al (o := .lst (facts.map V.str)) hq
    have kx4 : Gx b H (upd H3 q (.lst (facts.map V.str))) := kx3.trans (Gx.gr (Gr.new hq))
    refine t_take T D4 (by decide) (by omega) (by decide) (by decide) fun d5 H5 d50 d51 k5 D5 => ?_
    obtain ⟨f, hf, af⟩ := at_str (l := facts) d50 (by simpa [facts] using d51)
    have fl : f.length ≤ 6 := by
      have : ∀ f ∈ facts, f.length ≤ 6 := by decide +kernel
      exact this f hf
    refine IxR'.l (.of (off_le _ _ (k5.off _ _ e4))) af ?_
    have kx5 := kx4.trans k5
    have e5 := (k4.trans k5.off) _ _ e3
    have s5 := s33.gr (k4.trans k5.off)
    dsimp only [gName]
    -- the sign
    refine ⟨(by decide : 3 ≤ sizeLine), fun q6 hq6 => ?_⟩
    obtain ⟨k6, e6, D6⟩ := D5.al (o := .lst (sgns.map V.str)) hq6
    have kx6 : Gx b H (upd H5 q6 (.lst (sgns.map V.str))) := kx5.trans (Gx.gr (Gr.new hq6))
    refine t_take T D6 (by decide) (by omega) (by decide) (by decide) fun d7 H7 d70 d71 k7 D7 => ?_
    obtain ⟨s, hs, as⟩ := at_str (l := sgns) d70 (by simpa [sgns] using d71)
    have sl : s.length ≤ 2 := by
      have : ∀ f ∈ sgns, f.length ≤ 2 := by decide +kernel
      exact this s hs
    refine IxR'.l (.of (off_le _ _ (k7.off _ _ e6))) as ?_
    have kx7 := kx6.trans k7
    have e7 := (k6.trans k7.off) _ _ e5
    have s7 := s5.gr (k6.trans k7.off)
    dsimp only [gName]
    -- the standing
    refine t_take T D7 (by decide) (by omega) (by decide) (by decide) fun d8 H8 d80 d81 k8 D8 => ?_
    have kx8 := kx7.trans k8
    have e8 := k8.off _ _ e7
    have s8 := s7.gr k8.off
    obtain ⟨p, hp, ap⟩ := at_ref (l := ps) d80 (by rw [s8.len]; omega)
    refine IxR'.l (.of (off_le _ _ s8.st)) ap ?_
    dsimp only [gName]
    obtain ⟨z, w, t, hst⟩ := (s8.gr off_le).each p hp
    refine CallP.by (p_val T) (by decide) ⟨f, z, p, pp, w, t, bs, rfl, ⟨hst, off_le _ _ s8.hp, s8.bo⟩, ?_⟩
    refine t_take T D8 (by decide) (by omega) (by decide) (by decide) fun d9 H9 d90 d91 k9 D9 => ?_
    have kx9 := kx8.trans k9
    have e9 := k9.off _ _ e8
    dsimp only [cAdd, cSub, cI0, gName, tOp, tC]
    refine seq_cut (fun σ' H' => ∃ m : Int, σ' = [some (.ref sc), some (.ref b), some (.ref st), some (.ref pp), some (.ref e), some (.str f), some (.str s), some (.ref p), some (.int m)] ∧ Gx b H9 H' ∧ Dr g H' sc b (n + 10) ns) (fun D' hD' => ?_) ?_
    · refine t_take T D9 (by decide) (by omega) (by decide) (by decide) fun d10 H10 d100 d101 k10 D10 => ?_
      refine ite_i (fun _ => ?_) (fun _ => ?_)
      · refine t_take T D10 (by decide) (by omega) (by decide) (by decide) fun d11 H11 d110 d111 k11 D11 => ?_
        exact hD' _ _ ⟨d11, rfl, k10.trans k11, D11.mono (by omega)⟩
      · exact hD' _ _ ⟨_, rfl, k10, D10.mono (by omega)⟩
    · rintro σ' H10 ⟨m, rfl, k10, D10⟩
      have kx10 := kx9.trans k10
      have e10 := k10.off _ _ e9
      refine CallP.by (p_dig T) (by decide) ⟨sc, b, _, _, ns, rfl, D10, by omega, by omega, by omega, fun y H11 hy k11 D11 => ⟨(by decide : 4 ≤ sizeLine), fun q12 hq12 => ?_⟩⟩
      obtain ⟨k12, e12, D12⟩ := D11.al (o := .lst (([("when" : Str), f, s, y] : List Str).map V.str)) hq12
      refine AddR.lst (([("when" : Str), f, s, y] : List Str).map V.str) (([("carry" : Str), a] : List Str).map V.str) upd_same (off_le _ _ (k12 _ _ (k11.off _ _ e10))) (show 4 + 2 ≤ sizeLine by decide) fun r hr => ?_
      rw [← List.map_append]
      refine join (xs := [("when" : Str), f, s, y] ++ [("carry" : Str), a]) upd_same ?_ (((kx10.trans k11).trans (Gx.gr (Gr.new hq12))).trans (Gx.gr (Gr.new hr))) (D12.gr (Gr.new hr)) (by omega)
      have le : ("when" : Str).length = 4 := by decide +kernel
      simp [le, lc]
      omega
end
end Lw
-- of law_k55_rule_texts
namespace Lw
open PySem PySem.Spec PyProof.Rows L2 Cy Tx
section
variable {g : Wd} {j : Nat} {H : Hp}
def spOdd (g : Wd) (L : Nat) : Sp := fun vs H Q _ => ∃ (sc b : Addr) (n : Int) (ns : List Int), vs = [.ref sc, .ref b] ∧ Dr g H sc b n ns ∧ n ≤ 10 ^ 8 ∧ ∀ (z : Str) H', z.length ≤ L → Gx b H H' → Dr g H' sc b (n + 1) ns → Q (.str z) H'
def ow1 : List Str := ["", "when", "else", "carry", "all", "free", "living", "dead", "gap", "budget", "<=", ">=", "=="]
def ow2 : List Str := ["<", ">", "=", "!=", "=<", "0000", "1000", "-1", "+1", "007", "1.0", "x", "age", "none"]
/-- texts put together in a list: one of them drawn -/
theorem draw_of (T : Top g) {sc b p : Addr} {n : Int} {ns : List Int} {l : List Str} {L : Nat} {H0 : Hp} {Q : VK} {E : XK} (D : Dr g H sc b n ns) (hj : 2 ≤ j) (hn : n ≤ 10 ^ 8) (hp : off b H p = some (.lst (l.map V.str))) (h0 : 0 < l.length) (h1 : l.length ≤ 1000) (hL : ∀ w ∈ l, w.length ≤ L) (k0 : Gx b H0 H)
    (h : ∀ (z : Str) H', z.length ≤ L → Gx b H0 H' → Dr g H' sc b (n + 1) ns → Q (.str z) H') : LenP g j p H fun x H1 => CallP g j (gad g.K "_law_take") [.ref sc, .ref b, x] H1 (fun y H2 => cIx g.K (.ref p) y H2 Q) E := by
  refine LenP.l (.of (off_le _ _ hp)) ?_
  rw [List.length_map]
  refine t_take T D hj (by omega) (by omega) (by omega) fun d H1 d0 d1 k1 D1 => ?_
  obtain ⟨v, hv, av⟩ := at_str (l := l) d0 d1
  exact IxR'.l (.of (off_le _ _ (k1.off _ _ hp))) av (h v H1 (hL v hv) (k0.trans k1) D1)
/-- .. + [..] -/
theorem add_of {sc b p : Addr} {n : Int} {ns : List Int} {l m : List Str} {H0 : Hp} {Q : VK} (D : Dr g H sc b n ns) (hp : off b H p = some (.lst (l.map V.str))) (h1 : l.length ≤ 1000) (hm : m.length ≤ 1000) (k0 : Gx b H0 H)
    (h : ∀ r H', off b H' r = some (.lst ((l ++ m).map V.str)) → Gx b H0 H' → Dr g H' sc b n ns → Q (.ref r) H') : (m.map V.str).length ≤ sizeLine ∧ ∀ q, H q = none → AddR g.K noOw p q (upd H q (.lst (m.map V.str))) Q := by
  refine ⟨by rw [List.length_map, sizeLine_eq]; omega, fun q hq => ?_⟩
  obtain ⟨k1, e1, D1⟩ := D.al (o := .lst (m.map V.str)) hq
  refine AddR.lst (l.map V.str) (m.map V.str) (off_le _ _ (k1 _ _ hp)) upd_same (by rw [List.length_map, List.length_map, sizeLine_eq]; omega) fun r hr => ?_
  obtain ⟨k2, e2, D2⟩ := D1.al (o := .lst (l.map V.str ++ m.map V.str)) hr
  refine h r _ (by rw [List.map_append]; exact e2) ((k0.trans (Gx.gr (Gr.new hq))).trans (Gx.gr (Gr.new hr))) D2
theorem p_oddw (T : Top g) : FnG g 4 (gad g.K "_law_odd_word") (spOdd g 6) := fk__law_odd_word T 2 fun vs H Q E ⟨sc, b, n, ns, ev, D, hn, h⟩ => by
  subst ev
  refine ⟨rfl, (by decide : 13 ≤ sizeLine), fun p hp => ?_⟩
  obtain ⟨k1, e1, D1⟩ := D.al (o := .lst (ow1.map V.str)) hp
  refine add_of (l := ow1) (m := ow2) D1 e1 (by decide) (by decide) (Gx.gr (Gr.new hp)) fun r H2 e2 kx2 D2 => ?_
  exact draw_of T D2 (by decide) hn e2 (by decide) (by decide) (by decide +kernel) kx2 h
def ol1 : List Str := ["", " ", "else", "when", "carry all", "else all", "else carry", "else carry all all"]
def ol2 : List Str := ["when free carry 1", "when free <= 1", "when free <= carry 1", "when free <= 1 carry"]
def ol3 : List Str := ["else when free <= 1 carry 1", "when free <= 1 carry 1 else carry 2", "else carries 1"]
def ol4 : List Str := ["when free <= 1 and gap >= 1 carry 1", "when 1 >= free carry 1", "free <= 1 carry 1"]
def ol5 : List Str := ["When free <= 1 carry 1", "when free <= 1 carry -1", "when free <=1 carry 1"]
def ol6 : List Str := ["else: carry 1", "else carry 0001"]
theorem p_oddl (T : Top g) : FnG g 4 (gad g.K "_law_odd_line") (spOdd g 40) := fk__law_odd_line T 2 fun vs H Q E ⟨sc, b, n, ns, ev, D, hn, h⟩ => by
  subst ev
  refine ⟨rfl, (by decide : 8 ≤ sizeLine), fun p hp => ?_⟩
  obtain ⟨k1, e1, D1⟩ := D.al (o := .lst (ol1.map V.str)) hp
  refine add_of (l := ol1) (m := ol2) D1 e1 (by decide) (by decide) (Gx.gr (Gr.new hp)) fun r2 H2 e2 kx2 D2 => ?_
  refine add_of (l := ol1 ++ ol2) (m := ol3) D2 e2 (by decide) (by decide) kx2 fun r3 H3 e3 kx3 D3 => ?_
  refine add_of (l := ol1 ++ ol2 ++ ol3) (m := ol4) D3 e3 (by decide) (by decide) kx3 fun r4 H4 e4 kx4 D4 => ?_
  refine add_of (l := ol1 ++ ol2 ++ ol3 ++ ol4) (m := ol5) D4 e4 (by decide) (by decide) kx4 fun r5 H5 e5 kx5 D5 => ?_
  refine add_of (l := ol1 ++ ol2 ++ ol3 ++ ol4 ++ ol5) (m := ol6) D5 e5 (by decide) (by decide) kx5 fun r6 H6 e6 kx6 D6 => ?_
  exact draw_of T D6 (by decide) hn e6 (by decide) (by decide) (by decide +kernel) kx6 h
theorem p_sign (T : Top g) : FnG g 4 (gad g.K "_law_sign") (spOdd g 1) := fk__law_sign T 2 fun vs H Q E ⟨sc, b, n, ns, ev, D, hn, h⟩ => by
  subst ev
  refine ⟨rfl, ⟨by decide +kernel, ?_⟩⟩
  generalize hz : ((" !\"#$&'()*+,-./0123456789:;<=>?@ABCDEFGHIJKLMNOPQRSTUVWXYZ[\\]^_`" : Str) ++ ("abcdefghijklmnopqrstuvwxyz{|}~\n\t" : Str)) = z
  have hl : z.length = 96 := by rw [← hz]; decide +kernel
  refine ⟨by rw [sizeLine_eq]; omega, t_take T D (by decide) (by omega) (by omega) (by omega) fun d H1 d0 d1 k1 D1 => ?_⟩
  have hlt : d.toNat < z.cps.toList.length := by
    have : z.cps.toList.length = z.length := (ls_len z).symm
    omega
  refine ⟨by rw [sizeLine_eq]; omega, z.cps.toList[d.toNat]'hlt, ?_, h _ H1 (Nat.le_refl 1) k1 D1⟩
  have := atI_nat (xs := z.cps.toList) (j := d.toNat) (v := z.cps.toList[d.toNat]'hlt) (by simp [hlt])
  rwa [show ((d.toNat : Nat) : Int) = d by omega] at this
end
end Lw
-- of law_k55_rule_texts
namespace Lw
open PySem PySem.Spec PyProof.Rows L2 Cy Tx
def wt (l : List Str) : Nat := (l.map (·.length)).sum + l.length
theorem wt_app (a b : List Str) : wt (a ++ b) = wt a + wt b := by
  unfold wt
  rw [List.map_append, List.sum_append, List.length_append]
  omega
theorem wt_take : ∀ (l : List Str) (n : Nat), wt (l.take n) ≤ wt l
  | [], n => by simp [wt]
  | a :: r, 0 => by simp [wt]
  | a :: r, n + 1 => by
    have := wt_take r n
    rw [List.take_succ_cons]
    simp [wt] at this ⊢
    omega
theorem wt_drop : ∀ (l : List Str) (n : Nat), wt (l.drop n) ≤ wt l
  | [], n => by simp [wt]
  | a :: r, 0 => by simp
  | a :: r, n + 1 => by
    have := wt_drop r n
    rw [List.drop_succ_cons]
    simp [wt] at this ⊢
    omega
theorem cut_strs (l : List Str) (lo hi : Option Int) : ∃ l' : List Str, cutV (l.map V.str) lo hi = l'.map V.str ∧ wt l' ≤ wt l := by
  refine ⟨(l.drop (HT.sIx (l.map V.str).length 0 lo)).take (HT.sIx (l.map V.str).length (l.map V.str).length hi - HT.sIx (l.map V.str).length 0 lo), ?_, Nat.le_trans (wt_take _ _) (wt_drop _ _)⟩
  unfold cutV
  rw [List.map_take, List.map_drop]
theorem cutS_len (z : Str) (lo hi : Option Int) : (cutS z lo hi).length ≤ z.length := by
  unfold cutS
  show (List.take _ _).toArray.size ≤ _
  rw [List.size_toArray, List.length_take, List.length_drop]
  have h : z.length = z.cps.toList.length := ls_len z
  omega
def Ls (b : Addr) (H : Hp) (M : List (Addr × List Str)) : Prop := ∀ x ∈ M, off b H x.1 = some (.lst (x.2.map V.str))
section
variable {g : Wd} {j : Nat} {H : Hp} {sc b p q : Addr} {n : Int} {ns : List Int} {M : List (Addr × List Str)} {l m : List Str} {Q : VK}
theorem Ls.gx {H' : Hp} (k : Gx b H H') (h : Ls b H M) : Ls b H' M := fun x hx => k.off _ _ (h x hx)
theorem Ls.cons (h : Ls b H M) (e : off b H p = some (.lst (l.map V.str))) : Ls b H ((p, l) :: M) := fun x hx => by
  rcases List.mem_cons.mp hx with rfl | hx
  · exact e
  · exact h x hx
theorem Ls.at (h : Ls b H M) (hm : (p, l) ∈ M) : H p = some (.lst (l.map V.str)) := off_le _ _ (h _ hm)
theorem ls_sl {lo hi : Option Int} (D : Dr g H sc b n ns) (h0 : Ls b H M) (hm : (p, l) ∈ M) (h : ∀ r l' H', wt l' ≤ wt l → Ls b H' ((r, l') :: M) → Gx b H H' → Dr g H' sc b n ns → Q (.ref r) H') : SlP g.K p lo hi H Q := by
  refine SlP.l (.of (h0.at hm)) fun r hr => ?_
  obtain ⟨l', e, hw⟩ := cut_strs l lo hi
  rw [e]
  obtain ⟨k1, e1, D1⟩ := D.al (o := .lst (l'.map V.str)) hr
  have kx : Gx b H (upd H r (.lst (l'.map V.str))) := Gx.gr (Gr.new hr)
  exact h r l' _ hw ((h0.gx kx).cons e1) kx D1
theorem wt_len (l : List Str) : l.length ≤ wt l := by unfold wt; omega
theorem ls_add (D : Dr g H sc b n ns) (h0 : Ls b H M) (hm : (p, l) ∈ M) (hm2 : (q, m) ∈ M) (hw : wt l + wt m ≤ 100000) (h : ∀ r H', Ls b H' ((r, l ++ m) :: M) → Gx b H H' → Dr g H' sc b n ns → Q (.ref r) H') : AddR g.K noOw p q H Q := by
  have w1 := wt_len l
  have w2 := wt_len m
  refine AddR.lst _ _ (h0.at hm) (h0.at hm2) (by rw [List.length_map, List.length_map, sizeLine_eq]; omega) fun r hr => ?_
  obtain ⟨k1, e1, D1⟩ := D.al (o := .lst (l.map V.str ++ m.map V.str)) hr
  have kx : Gx b H (upd H r (.lst (l.map V.str ++ m.map V.str))) := Gx.gr (Gr.new hr)
  exact h r _ ((h0.gx kx).cons (by rw [List.map_append]; exact e1)) kx D1
theorem ls_new {x : Str} {r : Addr} (D : Dr g H sc b n ns) (h0 : Ls b H M) (hr : H r = none) : ∃ H', H' = upd H r (.lst [.str x]) ∧ Ls b H' ((r, [x]) :: M) ∧ Gx b H H' ∧ Dr g H' sc b n ns := by
  obtain ⟨k1, e1, D1⟩ := D.al (o := .lst [.str x]) hr
  have kx : Gx b H (upd H r (.lst [.str x])) := Gx.gr (Gr.new hr)
  exact ⟨_, rfl, (h0.gx kx).cons (l := [x]) e1, kx, D1⟩
theorem ls_join {y : Str} (hy : y.length = 1) (h0 : Ls b H M) (hm : (p, l) ∈ M) (hw : wt l ≤ 1000000) (h : ∀ z : Str, z.length ≤ wt l → Q (.str z) H) : JoinL g.K y p H Q := by
  refine JoinL.mk l (h0.at hm) (by rw [hy]; unfold wt at hw; omega) (h _ ?_)
  have := StrLaws.join_length_le y l
  rw [TL.join_eq]
  rw [hy] at this
  unfold wt
  omega
def spBent (g : Wd) : Sp := fun vs H Q _ => ∃ (sc b : Addr) (z : Str) (n : Int) (ns : List Int), vs = [.ref sc, .ref b, .str z] ∧ Dr g H sc b n ns ∧ n ≤ 10 ^ 7 ∧ 1 ≤ z.length ∧ z.length ≤ 1000 ∧ ∀ (y : Str) H', y.length ≤ 9 * z.length + 43 → Gx b H H' → Dr g H' sc b (n + 10) ns → Q (.str y) H'
theorem sp_len : (" " : Str).length = 1 := by decide +kernel
theorem tab_len : ("\t" : Str).length = 1 := by decide +kernel
theorem p_bent (T : Top g) : FnG g 6 (gad g.K "_law_bent") (spBent g) := fk__law_bent T 4 fun vs H Q E ⟨sc, b, z, n, ns, ev, D, hn, z1, z2, h⟩ => by
  subst ev
  obtain ⟨f1, f2, f3⟩ := split_facts (z := z) sp_eq (by decide)
  have fs := split_sum (z := z) sp_eq (by decide)
  refine ⟨rfl, t_take T D (by decide) (by omega) (by decide) (by decide) fun way H1 w0 w1 k1 D1 => ?_⟩
  refine ⟨by decide +kernel, by rw [sizeLine_eq]; omega, fun p hp => ?_⟩
  have hwt : wt (Txt.split z " ") ≤ 2 * z.length + 1 := by unfold wt; omega
  have hel : ∀ w ∈ Txt.split z " ", w.length ≤ z.length := fun w hw => (f3 w hw).1
  have hpos : 0 < (Txt.split z " ").length := List.length_pos_iff.mpr f1
  revert hwt hel hpos
  generalize Txt.split z " " = ws
  intro hwt hel hpos
  obtain ⟨k2, e2, D2⟩ := D1.al (o := .lst (ws.map V.str)) hp
  have kx2 : Gx b H (upd H1 p (.lst (ws.map V.str))) := k1.trans (Gx.gr (Gr.new hp))
  have M2 : Ls b (upd H1 p (.lst (ws.map V.str))) [(p, ws)] := Ls.cons (fun x hx => by cases hx) e2
  dsimp only [gName]
  revert D2 kx2 M2
  generalize upd H1 p (.lst (ws.map V.str)) = H2
  intro D2 kx2 M2
  have hwl := wt_len ws
  refine LenP.l (.of (M2.at (p := p) (l := ws) (by simp))) ?_
  rw [List.length_map]
  refine t_take T D2 (by decide) (by omega) (by omega) (by omega) fun k H3 k0 k1' k3 D3 => ?_
  have M3 := M2.gx k3
  refine ⟨ml (by omega), t_take T D3 (by decide) (by omega) (by omega) (by omega) fun s H4 s0 s1 k4 D4 => ?_⟩
  have M4 := M3.gx k4
  have kx4 := (kx2.trans k3).trans k4
  dsimp only [gName]
  have fin : ∀ {H' : Hp} {m : Int} (y : Str), y.length ≤ 9 * z.length + 43 → Gx b H4 H' → Dr g H' sc b m ns → m ≤ n + 10 → Q (.str y) H' := fun y hy kk DD hm => h y _ hy (kx4.trans kk) (DD.mono hm)
  have hk : ∃ v, v ∈ ws ∧ atI (ws.map V.str) k = some (.str v) := at_str k0 (by omega)
  obtain ⟨wk, hwk, awk⟩ := hk
  have hwkl := hel wk hwk
  refine ite_i (fun _ => ?_) (fun _ => ?_)
  · refine ls_sl D4 M4 (p := p) (l := ws) (by simp) fun r1 l1 H5 w5 M5 k5 D5 => ls_sl D5 M5 (p := p) (l := ws) (by simp) fun r2 l2 H6 w6 M6 k6 D6 => ?_
    refine ls_add D6 M6 (l := l1) (m := l2) (by simp) (by simp) (by omega) fun r3 H7 M7 k7 D7 => ?_
    refine ls_join sp_len M7 (l := l1 ++ l2) (by simp) (by rw [wt_app]; omega) fun y hy => fin y (by rw [wt_app] at hy; omega) ((k5.trans k6).trans k7) D7 (by omega)
  refine ite_i (fun _ => ?_) (fun _ => ?_)
  · refine ls_sl D4 M4 (p := p) (l := ws) (by simp) fun r1 l1 H5 w5 M5 k5 D5 => ls_sl D5 M5 (p := p) (l := ws) (by simp) fun r2 l2 H6 w6 M6 k6 D6 => ?_
    refine ls_add D6 M6 (l := l1) (m := l2) (by simp) (by simp) (by omega) fun r3 H7 M7 k7 D7 => ?_
    refine ls_join sp_len M7 (l := l1 ++ l2) (by simp) (by rw [wt_app]; omega) fun y hy => fin y (by rw [wt_app] at hy; omega) ((k5.trans k6).trans k7) D7 (by omega)
  refine ite_i (fun _ => ?_) (fun _ => ?_)
  · refine ls_sl D4 M4 (p := p) (l := ws) (by simp) fun r1 l1 H5 w5 M5 k5 D5 => ?_
    refine CallP.by (p_oddw T) (by decide) ⟨sc, b, _, ns, rfl, D5, by omega, fun x6 H6 hx6 k6 D6 => ?_⟩
    have wx : wt [x6] = x6.length + 1 := by simp [wt]
    refine ⟨(by decide : 1 ≤ sizeLine), fun r7 hr7 => ?_⟩
    obtain ⟨H7, eH, M7, k7, D7⟩ := ls_new (x := x6) D6 (M5.gx k6) hr7
    rw [← eH]
    refine ls_add D7 M7 (l := l1) (m := [x6]) (by simp) (by simp) (by omega) fun r8 H8 M8 k8 D8 => ?_
    refine ls_sl D8 M8 (p := p) (l := ws) (by simp) fun r9 l9 H9 w9 M9 k9 D9 => ?_
    refine ls_add D9 M9 (l := l1 ++ [x6]) (m := l9) (by simp) (by simp) (by rw [wt_app]; omega) fun r10 H10 M10 k10 D10 => ?_
    refine ls_join sp_len M10 (l := (l1 ++ [x6]) ++ l9) (by simp) (by rw [wt_app, wt_app]; omega) fun y hy => fin y (by rw [wt_app, wt_app] at hy; omega) (((((k5.trans k6).trans k7).trans k8).trans k9).trans k10) D10 (by omega)
  refine ite_i (fun _ => ?_) (fun _ => ?_)
  · refine ls_sl D4 M4 (p := p) (l := ws) (by simp) fun r1 l1 H5 w5 M5 k5 D5 => ?_
    refine IxR'.l (.of (M5.at (p := p) (l := ws) (by simp))) awk ⟨by omega, ?_⟩
    have hx6l : (Txt.upper wk).length ≤ 3 * wk.length := len_upper wk
    have wx : wt [Txt.upper wk] = (Txt.upper wk).length + 1 := by simp [wt]
    refine ⟨(by decide : 1 ≤ sizeLine), fun r7 hr7 => ?_⟩
    obtain ⟨H7, eH, M7, k7, D7⟩ := ls_new (x := Txt.upper wk) D5 M5 hr7
    rw [show upd H5 r7 (HO.lst [(fun a => V.str (Txt.upper a)) wk]) = H7 from eH.symm]
    refine ls_add D7 M7 (l := l1) (m := [Txt.upper wk]) (by simp) (by simp) (by omega) fun r8 H8 M8 k8 D8 => ?_
    refine ls_sl D8 M8 (p := p) (l := ws) (by simp) fun r9 l9 H9 w9 M9 k9 D9 => ?_
    refine ls_add D9 M9 (l := l1 ++ [Txt.upper wk]) (m := l9) (by simp) (by simp) (by rw [wt_app]; omega) fun r10 H10 M10 k10 D10 => ?_
    refine ls_join sp_len M10 (l := (l1 ++ [Txt.upper wk]) ++ l9) (by simp) (by rw [wt_app, wt_app]; omega) fun y hy => fin y (by rw [wt_app, wt_app] at hy; omega) ((((k5.trans k7).trans k8).trans k9).trans k10) D10 (by omega)
  refine ite_i (fun _ => ?_) (fun _ => ?_)
  · refine ls_sl D4 M4 (p := p) (l := ws) (by simp) fun r1 l1 H5 w5 M5 k5 D5 => ls_sl D5 M5 (p := p) (l := ws) (by simp) fun r2 l2 H6 w6 M6 k6 D6 => ?_
    refine ls_add D6 M6 (l := l1) (m := l2) (by simp) (by simp) (by omega) fun r3 H7 M7 k7 D7 => ?_
    refine IxR'.l (.of (M7.at (p := p) (l := ws) (by simp))) awk ?_
    have wx : wt [wk] = wk.length + 1 := by simp [wt]
    refine ⟨(by decide : 1 ≤ sizeLine), fun r8 hr8 => ?_⟩
    obtain ⟨H8, eH, M8, k8, D8⟩ := ls_new (x := wk) D7 M7 hr8
    rw [← eH]
    refine ls_add D8 M8 (l := l1 ++ l2) (m := [wk]) (by simp) (by simp) (by rw [wt_app]; omega) fun r9 H9 M9 k9 D9 => ?_
    refine ls_sl D9 M9 (p := p) (l := ws) (by simp) fun r10 l10 H10 w10 M10 k10 D10 => ?_
    refine ls_add D10 M10 (l := (l1 ++ l2) ++ [wk]) (m := l10) (by simp) (by simp) (by rw [wt_app, wt_app]; omega) fun r11 H11 M11 k11 D11 => ?_
    refine ls_join sp_len M11 (l := ((l1 ++ l2) ++ [wk]) ++ l10) (by simp) (by rw [wt_app, wt_app, wt_app]; omega) fun y hy => fin y (by rw [wt_app, wt_app, wt_app] at hy; omega) ((((((k5.trans k6).trans k7).trans k8).trans k9).trans k10).trans k11) D11 (by omega)
  refine ite_i (fun _ => ?_) (fun _ => ?_)
  · refine ls_sl D4 M4 (p := p) (l := ws) (by simp) fun r1 l1 H5 w5 M5 k5 D5 => ?_
    generalize hx6 : ("" : Str) = x6
    have hx6l : x6.length = 0 := by rw [← hx6]; decide +kernel
    have wx : wt [x6] = x6.length + 1 := by simp [wt]
    refine ⟨(by decide : 1 ≤ sizeLine), fun r7 hr7 => ?_⟩
    obtain ⟨H7, eH, M7, k7, D7⟩ := ls_new (x := x6) D5 M5 hr7
    rw [← eH]
    refine ls_add D7 M7 (l := l1) (m := [x6]) (by simp) (by simp) (by omega) fun r8 H8 M8 k8 D8 => ?_
    refine ls_sl D8 M8 (p := p) (l := ws) (by simp) fun r9 l9 H9 w9 M9 k9 D9 => ?_
    refine ls_add D9 M9 (l := l1 ++ [x6]) (m := l9) (by simp) (by simp) (by rw [wt_app]; omega) fun r10 H10 M10 k10 D10 => ?_
    refine ls_join sp_len M10 (l := (l1 ++ [x6]) ++ l9) (by simp) (by rw [wt_app, wt_app]; omega) fun y hy => fin y (by rw [wt_app, wt_app] at hy; omega) ((((k5.trans k7).trans k8).trans k9).trans k10) D10 (by omega)
  refine ite_i (fun _ => ?_) (fun _ => ?_)
  · refine ⟨by rw [sp_len, sizeLine_eq]; omega, fin _ (by rw [len_app, sp_len]; omega) Gx.refl D4 (by omega)⟩
  refine ite_i (fun _ => ?_) (fun _ => ?_)
  · refine ls_sl D4 M4 (p := p) (l := ws) (by simp) fun r1 l1 H5 w5 M5 k5 D5 => ls_sl D5 M5 (p := p) (l := ws) (by simp) fun r2 l2 H6 w6 M6 k6 D6 => ?_
    refine ls_join tab_len M6 (l := l2) (by simp) (by omega) fun x6 hx6 => ?_
    have wx : wt [x6] = x6.length + 1 := by simp [wt]
    refine ⟨(by decide : 1 ≤ sizeLine), fun r7 hr7 => ?_⟩
    obtain ⟨H7, eH, M7, k7, D7⟩ := ls_new (x := x6) D6 M6 hr7
    rw [← eH]
    refine ls_add D7 M7 (l := l1) (m := [x6]) (by simp) (by simp) (by omega) fun r8 H8 M8 k8 D8 => ?_
    refine ls_sl D8 M8 (p := p) (l := ws) (by simp) fun r9 l9 H9 w9 M9 k9 D9 => ?_
    refine ls_add D9 M9 (l := l1 ++ [x6]) (m := l9) (by simp) (by simp) (by rw [wt_app]; omega) fun r10 H10 M10 k10 D10 => ?_
    refine ls_join sp_len M10 (l := (l1 ++ [x6]) ++ l9) (by simp) (by rw [wt_app, wt_app]; omega) fun y hy => fin y (by rw [wt_app, wt_app] at hy; omega) (((((k5.trans k6).trans k7).trans k8).trans k9).trans k10) D10 (by omega)
  have c1 := cutS_len z none (some s)
  have c2 := cutS_len z (some s) none
  have c3 := cutS_len z (some (s + 1)) none
  refine ite_i (fun _ => ?_) (fun _ => ?_)
  · refine ⟨ml (by omega), CallP.by (p_sign T) (by decide) ⟨sc, b, _, ns, rfl, D4, by omega, fun x5 H5 hx5 k5 D5 => ⟨by rw [sizeLine_eq]; omega, ml (by omega), by rw [len_app, sizeLine_eq]; omega, ?_⟩⟩⟩
    exact fin _ (by rw [len_app, len_app]; omega) k5 D5 (by omega)
  refine ite_i (fun _ => ?_) (fun _ => ?_)
  · exact ⟨ml (by omega), ml (by omega), by rw [sizeLine_eq]; omega, fin _ (by rw [len_app]; omega) Gx.refl D4 (by omega)⟩
  refine ite_i (fun _ => ?_) (fun _ => ?_)
  · refine CallP.by (p_sign T) (by decide) ⟨sc, b, _, ns, rfl, D4, by omega, fun x5 H5 hx5 k5 D5 => ⟨by rw [sizeLine_eq]; omega, ?_⟩⟩
    exact fin _ (by rw [len_app]; omega) k5 D5 (by omega)
  · exact CallP.by (p_oddl T) (by decide) ⟨sc, b, _, ns, rfl, D4, by omega, fun x5 H5 hx5 k5 D5 => fin _ (by omega) k5 D5 (by omega)⟩
end
end Lw
-- of law_k55_rule_texts
namespace Lw
open PySem PySem.Spec PyProof.Rows L2 Cy Tx
theorem gx_upd {b p : Addr} {H H' : Hp} {o : HO} (k : Gx b H H') (h : H p = none) : Gx b H (upd H' p o) := fun a u n e => by rw [upd_ne (ne_of_none e h)]; exact k a u n e
theorem len_zero {z : Str} (h : z.length = 0) : z = "" := by
  refine ls_ext ?_
  rw [ls_len] at h
  rw [List.eq_nil_of_length_eq_zero h]
  decide +kernel
section
variable {g : Wd} {j : Nat} {H : Hp}
theorem Dr.up {sc b p : Addr} {n : Int} {ns : List Int} {o : HO} {H0 : Hp} (h : Dr g H sc b n ns) (np : p ≠ b) (hs : Gx b H0 H) (h0 : Sc g H0 sc ns b) (hp : H0 p = none) : Dr g (upd H p o) sc b n ns := ⟨h.len, h0.gx (gx_upd hs hp), by
  obtain ⟨b0, b1, b2, b3, z, r⟩ := h.bx
  exact ⟨b0, b1, b2, b3, by rw [upd_ne (Ne.symm np)]; exact z, r⟩⟩
theorem sum_le {B : Nat} : ∀ {l : List Str}, (∀ w ∈ l, w.length ≤ B) → (l.map (·.length)).sum ≤ l.length * B
  | [], _ => by simp
  | a :: r, h => by
    have h1 := h a (List.mem_cons_self ..)
    have h2 := sum_le (l := r) fun w hw => h w (List.mem_cons_of_mem _ hw)
    rw [List.map_cons, List.sum_cons, List.length_cons, Nat.add_mul]
    omega
def spText (g : Wd) : Sp := fun vs H Q _ => ∃ (sc b st pp : Addr) (n : Int) (ns : List Int) (ps : List Addr) (bs : List Int), vs = [.ref sc, .ref b, .ref st, .ref pp] ∧ Dr g H sc b n ns ∧ n ≤ 10 ^ 6 ∧ St3 (off b H) st pp ps bs ∧ ∀ (z : Str) H', z.length ≤ 100000 → Gx b H H' → Q (.str z) H'
/-- what a text's loops keep -/
structure TxI (g : Wd) (H0 H : Hp) (sc b p : Addr) (m : Int) (ns : List Int) (L B : Nat) : Prop where
  k : Gx b H0 H
  dr : Dr g H sc b m ns
  ls : ∃ l : List Str, H p = some (.lst (l.map V.str)) ∧ l.length = L ∧ ∀ w ∈ l, w.length ≤ B
def bB : Nat → Nat
  | 0 => 30
  | n + 1 => 9 * bB n + 43
theorem p_text (T : Top g) : FnG g 10 (gad g.K "_law_text") (spText g) := fk__law_text T 8 fun vs H Q E ⟨sc, b, st, pp, n, ns, ps, bs, ev, D, hn, s3, h⟩ => by
  subst ev
  refine ⟨rfl, t_take T D (by decide) (by omega) (by decide) (by decide) fun d1 H1 d10 d11 k1 D1 => ?_⟩
  dsimp only [cAdd, gName, tOp, tC]
  refine seq_cut (fun σ' H' => ∃ m : Int, σ' = [some (.ref sc), some (.ref b), some (.ref st), some (.ref pp), some (.int m), none, none, none, none, none] ∧ 1 ≤ m ∧ m ≤ 30 ∧ Gx b H H' ∧ Dr g H' sc b (n + 10) ns) (fun D' hD' => ?_) ?_
  · refine t_take T D1 (by decide) (by omega) (by decide) (by decide) fun d2 H2 d20 d21 k2 D2 => ?_
    refine ite_i (fun _ => ?_) (fun _ => ?_)
    · refine t_take T D2 (by decide) (by omega) (by decide) (by decide) fun d3 H3 d30 d31 k3 D3 => ?_
      exact hD' _ _ ⟨7 + d3, rfl, by omega, by omega, (k1.trans k2).trans k3, D3.mono (by omega)⟩
    · exact hD' _ _ ⟨1 + d1, rfl, by omega, by omega, k1.trans k2, D2.mono (by omega)⟩
  · rintro σ' H2 ⟨m, rfl, m1, m2, k2, D2⟩
    refine ⟨(by decide : 4 ≤ sizeLine), fun q hq => ?_⟩
    obtain ⟨k3, e3, D3⟩ := D2.al (o := .lst (([0, 0, 1, 2] : List Int).map V.int)) hq
    refine t_take T D3 (by decide) (by omega) (by decide) (by decide) fun d4 H4 d40 d41 k4 D4 => ?_
    obtain ⟨be, hbe, abe⟩ := at_int (l := [0, 0, 1, 2]) d40 (by simpa using d41)
    have be2 : 0 ≤ be ∧ be ≤ 2 := by
      simp only [List.mem_cons, List.not_mem_nil, or_false] at hbe
      rcases hbe with rfl | rfl | rfl | rfl <;> decide
    refine IxR'.l (xs := ([0, 0, 1, 2] : List Int).map V.int) (.of (off_le _ _ (k4.off _ _ e3))) abe ?_
    have kx4 : Gx b H H4 := (k2.trans (Gx.gr (Gr.new (o := .lst (([0, 0, 1, 2] : List Int).map V.int)) hq))).trans k4
    dsimp only [gName]
    refine t_take T D4 (by decide) (by omega) (by decide) (by decide) fun en H5 en0 en1 k5 D5 => ?_
    have kx5 := kx4.trans k5
    dsimp only [gName]
    refine ⟨(by decide : 0 ≤ sizeLine), fun p hp => ?_⟩
    have np := D5.nb hp
    have s5 := s3.gr kx5.off
    have I0 : TxI g H5 (upd H5 p (.lst [])) sc b p (n + 20) ns 0 30 := ⟨Gx.gr (Gr.new hp), (D5.gr (Gr.new hp)).mono (by omega), [], upd_same, rfl, fun w hw => by cases hw⟩
    dsimp only [gName]
    revert I0
    generalize upd H5 p (.lst []) = H6
    intro I0
    refine ⟨m, rfl, by omega, by omega, ?_⟩
    -- the lines
    refine for_range (fun i σ H' => TxI g H5 H' sc b p (n + 20 + 20 * i) ns i 30 ∧ ∃ o1 o2, σ = [some (.ref sc), some (.ref b), some (.ref st), some (.ref pp), some (.int m), some (.int be), some (.int en), some (.ref p), o1, o2]) ⟨by simpa using I0, none, none, rfl⟩ ?_ ?_
    · rintro i σ H7 hi ⟨⟨k7, D7, l, hl, ll, lb⟩, o1, o2, rfl⟩
      have hi2 : (i : Int) < 30 := by omega
      refine IsLst.by rfl (.of hl) (CallP.by (p_line T) (by decide) ⟨sc, b, st, pp, _, ns, ps, bs, rfl, D7, by omega, s5.gr k7.off, fun z H8 hz k8 D8 => ?_⟩)
      have hl8 := k8 _ _ np hl
      refine AppP.by hl8 (by rw [List.length_map, ll, sizeLine_eq]; omega) ⟨⟨gx_upd (k7.trans k8) hp, ?_, l ++ [z], by rw [List.map_append]; exact upd_same, by rw [List.length_append, ll]; rfl, ?_⟩, _, _, rfl⟩
      · exact (D8.up np (k7.trans k8) D5.sc hp).mono (by omega)
      · intro w hw
        rcases List.mem_append.mp hw with hw | hw
        · exact lb w hw
        · rw [List.mem_singleton] at hw; subst hw; exact hz
    · rintro σ H7 ⟨I7, o1, o2, rfl⟩
      have em : ((m.toNat : Nat) : Int) = m := by omega
      refine ⟨be, rfl, by omega, by omega, ?_⟩
      -- the bends
      refine for_range (fun i σ H' => TxI g H5 H' sc b p (n + 700 + 20 * i) ns m.toNat (bB i) ∧ ∃ o1 o2, σ = [some (.ref sc), some (.ref b), some (.ref st), some (.ref pp), some (.int m), some (.int be), some (.int en), some (.ref p), o1, o2]) ⟨⟨I7.k, I7.dr.mono (by omega), I7.ls⟩, _, _, rfl⟩ ?_ ?_
      · rintro i σ H8 hi ⟨⟨k8, D8, l, hl, ll, lb⟩, o1, o2, rfl⟩
        have hi2 : i < 2 := by omega
        have hbB : bB i ≤ 313 := by
          have : i = 0 ∨ i = 1 := by omega
          rcases this with rfl | rfl <;> decide
        refine t_take T D8 (by decide) (by omega) (by omega) (by omega) fun sp H9 sp0 sp1 k9 D9 => ?_
        have hl9 := k9 _ _ np hl
        obtain ⟨w, hw, aw⟩ := at_str (l := l) sp0 (by rw [ll]; omega)
        have hwb := lb w hw
        dsimp only [gName]
        have ixs : ixN (l.map V.str).length sp = some sp.toNat := by
          unfold ixN
          rw [if_pos sp0, if_pos (by rw [List.length_map, ll]; omega)]
        have stay : ∀ w ∈ l, w.length ≤ bB (i + 1) := fun w hw => by have := lb w hw; show w.length ≤ 9 * bB i + 43; omega
        refine IxR'.l (.of hl9) aw (ite_i (fun c => ?_) (fun c => ?_))
        · have hne := dt1 c
          have w1 : 1 ≤ w.length := by
            by_cases e : w.length = 0
            · exact absurd (len_zero e) hne
            · omega
          refine IxR'.l (.of hl9) aw (CallP.by (p_bent T) (by decide) ⟨sc, b, w, _, ns, rfl, D9, by omega, w1, by omega, fun y H10 hy k10 D10 => ?_⟩)
          have hl10 := k10 _ _ np hl9
          refine StIx.by hl10 ixs ⟨⟨gx_upd ((k8.trans k9).trans k10) hp, ?_, l.set sp.toNat y, ?_, by rw [List.length_set, ll], ?_⟩, _, _, rfl⟩
          · exact (D10.up np ((k8.trans k9).trans k10) D5.sc hp).mono (by omega)
          · rw [List.map_set]; exact upd_same
          · intro v hv
            rcases List.mem_or_eq_of_mem_set hv with hv | rfl
            · exact stay v hv
            · show v.length ≤ 9 * bB i + 43
              omega
        · exact ⟨⟨k8.trans k9, D9.mono (by omega), l, hl9, ll, stay⟩, _, _, rfl⟩
      · rintro σ H8 ⟨⟨k8, D8, l, hl, ll, lb⟩, o1, o2, rfl⟩
        have hB : bB be.toNat ≤ 2860 := by
          have : be.toNat = 0 ∨ be.toNat = 1 ∨ be.toNat = 2 := by omega
          rcases this with e | e | e <;> rw [e] <;> decide
        have lb2 : ∀ w ∈ l, w.length ≤ 2860 := fun w hw => Nat.le_trans (lb w hw) hB
        have fin : ∀ {H9 : Hp} (l9 : List Str), H9 p = some (.lst (l9.map V.str)) → l9.length ≤ 31 → (∀ w ∈ l9, w.length ≤ 2860) → Gx b H5 H9 → JoinL g.K "\n" p H9 Q := fun {H9} l9 e9 n9 b9 k9 => by
          have hs := sum_le b9
          have hs2 : l9.length * 2860 ≤ 31 * 2860 := Nat.mul_le_mul_right _ n9
          refine JoinL.mk l9 e9 (by rw [nl_len]; omega) (h _ _ ?_ (kx5.trans k9))
          have := StrLaws.join_length_le "\n" l9
          rw [TL.join_eq]
          rw [nl_len] at this
          omega
        refine ite_i (fun _ => ?_) (fun _ => ?_)
        · refine IsLst.by rfl (.of hl) (AppP.by hl (by rw [List.length_map, ll, sizeLine_eq]; omega) ?_)
          refine fin (l ++ [("" : Str)]) (by rw [List.map_append]; exact upd_same) (by rw [List.length_append, ll]; simp; omega) (fun w hw => ?_) (gx_upd k8 hp)
          rcases List.mem_append.mp hw with hw | hw
          · exact lb2 w hw
          · rw [List.mem_singleton] at hw; subst hw; decide +kernel
        · exact fin l hl (by omega) lb2 k8
end
end Lw
-- of law_k55_rule_texts
namespace Lw
open PySem PySem.Spec PyProof.Rows L2 Cy Tx
section
variable {g : Wd} {j : Nat} {H : Hp}
theorem dpAll_ints {K : PySem.W.Frag} : ∀ l : List Int, DpAll K H (l.map V.int) (l.map PyData.int)
  | [] => .nil
  | a :: r => .cons (.int a) (dpAll_ints r)
theorem eq_ints {K : PySem.W.Frag} {p q : Addr} {l : List Int} {Q : VK} (h1 : H p = some (.lst (l.map V.int))) (h2 : H q = some (.lst (l.map V.int))) (k : Q (.bl true) H) : EqR K p q H false Q := by
  refine .dat (.list (l.map PyData.int)) (.list (l.map PyData.int)) (.lst (.of h1) (dpAll_ints l)) (.lst (.of h2) (dpAll_ints l)) (PySem.W.shaped_ints l) (PySem.W.shaped_ints l) ?_
  rw [PySem.SeqAt.eqv_refl _ (PySem.SeqAt.canLay_of_shaped (PySem.W.shaped_ints l))]
  exact k
theorem cut_refs (l : List Addr) (lo hi : Option Int) : ∃ l' : List Addr, cutV (l.map V.ref) lo hi = l'.map V.ref ∧ (∀ x ∈ l', x ∈ l) ∧ l'.length ≤ l.length := by
  refine ⟨(l.drop (HT.sIx (l.map V.ref).length 0 lo)).take (HT.sIx (l.map V.ref).length (l.map V.ref).length hi - HT.sIx (l.map V.ref).length 0 lo), ?_, fun x hx => List.mem_of_mem_drop (List.mem_of_mem_take hx), ?_⟩
  · unfold cutV
    rw [List.map_take, List.map_drop]
  · rw [List.length_take, List.length_drop]; omega
theorem Stn.up {a p : Addr} {o : HO} {z : Str} {w t : Int} {ps : List Addr} (ha : H a = some (.lst (ps.map V.ref))) (h : Stn H p z w t) : Stn (upd H a o) p z w t := by
  refine ⟨?_, h.2⟩
  have n : p ≠ a := fun e => by
    have h1 := h.1
    rw [e, ha] at h1
    have h2 := HO.lst.inj (Option.some.inj h1)
    cases ps with
    | nil => cases h2
    | cons x r => cases h2
  rw [upd_ne n]
  exact h.1
/-- what stands, when a list that holds no tuples is changed -/
theorem RKAt.up {a k : Addr} {o : HO} {xs : List V} {z : Str} (ha : H a = some (.lst xs)) (hx : ∀ p ys, V.ref p ∈ xs → H p ≠ some (.tup ys)) (hz : lines z ≠ []) (h : RKAt g H k z) : RKAt g (upd H a o) k z := by
  obtain ⟨dx, l, us, h1, h2, h3⟩ := h
  have nk : k ≠ a := fun e => by rw [e, ha] at h1; cases h1
  have nl : l ≠ a := fun e => by
    rw [e, ha] at h2
    have e2 := HO.lst.inj (Option.some.inj h2)
    subst e2
    revert hz h3
    generalize lines z = ws0
    intro hz h3
    cases h3 with
    | nil => exact hz rfl
    | @cons v vs w ws r hr p t =>
      cases r with
      | els a' => obtain ⟨q, c, e1, q1, q2⟩ := p; subst e1; exact hx q _ (List.mem_cons_self ..) q1
      | whn f s n a' => obtain ⟨q, c, e1, q1, q2⟩ := p; subst e1; exact hx q _ (List.mem_cons_self ..) q1
  exact ⟨dx, l, us, by rw [upd_ne nk]; exact h1, by rw [upd_ne nl]; exact h2, h3.ul fun ys e => by rw [ha] at e; cases e⟩
/-- the texts and their keepers -/
structure TK (g : Wd) (H0 H : Hp) (tl kl : Addr) (zs : List Str) (ks : List Addr) : Prop where
  k : Gr H0 H
  ne : tl ≠ kl
  t : H tl = some (.lst (zs.map V.str))
  q : H kl = some (.lst (ks.map V.ref))
  ins : ∀ k ∈ ks, ∀ ys, H k ≠ some (.tup ys)
  len : zs.length = ks.length
  each : ∀ (m : Nat) (z : Str) (k : Addr), zs[m]? = some z → ks[m]? = some k → z.length ≤ 3000000 ∧ badAt (lines z) = (lines z).length ∧ RKAt g H k z
theorem TK.gr {H0 H H' : Hp} {tl kl : Addr} {zs : List Str} {ks : List Addr} (q : Gr H H') (h : TK g H0 H tl kl zs ks) : TK g H0 H' tl kl zs ks :=
  ⟨h.k.trans q, h.ne, q _ _ h.t, q _ _ h.q, fun k hk ys e => (by
    obtain ⟨m, hm, rfl⟩ := List.getElem_of_mem hk
    have hm2 : m < zs.length := by rw [h.len]; exact hm
    obtain ⟨_, _, dx, l, us, e1, _⟩ := h.each m zs[m] ks[m] (by simp [hm2]) (by simp [hm])
    rw [q _ _ e1] at e
    cases e), h.len, fun m z k e1 e2 => by
    obtain ⟨a, b, c⟩ := h.each m z k e1 e2
    exact ⟨a, b, c.gr q⟩⟩
theorem lines_ne (z : Str) : lines z ≠ [] := (split_facts (z := z) nl_eq (by decide)).1
def spLaw (g : Wd) : Sp := fun vs H Q _ => ∃ (a : Addr) (ns : List Int), vs = [.ref a] ∧ ns.length ≤ 63 ∧ SqL g.K H a (ns.map V.int) ∧ ∀ H', Q (.bl true) H'
theorem ok_the_law (T : Top g) {fd : FuncData} (F : FunD g.K "law" "law" (defArgs (top 55)) (defBody (top 55)) (defScope (top 55)) [] [] (gad g.K "law") fd) :
    FnOk g.P g.w g.K g.mg g.base (L2.CX g.P g.w) 20 (gad g.K "law") fd ["_law_script"] (spLaw g) := ok_law T F (j := 18) fun vs H Q E ⟨sc, ns, ev, hl, hsq, h⟩ => by
  subst ev
  refine ⟨rfl, CallP.by (p_box T) (by decide) ⟨sc, 0, ns, rfl, hl, hsq, by decide, by decide, fun b H1 k1 nb hb => ?_⟩⟩
  have D1 : Dr g H1 sc b 0 ns := ⟨hl, Sc.new hsq k1 nb, hb⟩
  dsimp only [gName]
  refine CallP.by (p_box T) (by decide) ⟨sc, 1, ns, rfl, hl, D1.sc.sq, by decide, by decide, fun bq H2 k2 nbq hbq => ?_⟩
  have D2 := D1.gr k2
  have hsc2 : Sc g H2 sc ns bq := Sc.new D1.sc.sq k2 nbq
  have nbb : b ≠ bq := fun e => by obtain ⟨o, z⟩ := hb.some; rw [e, nbq] at z; cases z
  refine CallP.by (p_pays T) (by decide) ⟨sc, bq, 0, ns, rfl, hl, hsc2, hbq, by decide, fun pp bs H3 bo npp k3 hpp => ?_⟩
  have D3 : Dr g H3 sc b 0 ns := ⟨hl, by
    rcases D2.sc with ⟨_, nsb⟩ | z
    · rcases hsc2.gx k3 with ⟨hr, _⟩ | z
      · exact .inl ⟨hr, nsb⟩
      · exact .inr z
    · exact .inr z, by
    obtain ⟨b0, b1, b2, b3, z0, z⟩ := D2.bx
    exact ⟨b0, b1, b2, b3, k3 _ _ nbb z0, z⟩⟩
  have ppb : pp ≠ b := D2.nb npp
  dsimp only [gName]
  refine CallP.by (p_round T) (by decide) ⟨pp, bs, rfl, hpp, bo, fun r H4 k4 ra => ?_⟩
  have D4 := D3.gr k4
  have hpp4 := k4 _ _ hpp
  dsimp only [gName]
  refine ⟨(by decide : 0 ≤ sizeLine), fun st hst => ?_⟩
  have nst := D4.nb hst
  dsimp only [gName]
  have D5 : Dr g (upd H4 st (.lst [])) sc b 0 ns := D4.gr (Gr.new hst)
  have e5 : upd H4 st (.lst []) st = some (.lst (([] : List Addr).map V.ref)) := upd_same
  have kx5 : Gx b H4 (upd H4 st (.lst [])) := Gx.gr (Gr.new hst)
  revert D5 e5 kx5
  generalize upd H4 st (.lst []) = H5
  intro D5 e5 kx5
  refine ⟨3, rfl, by decide, by decide, ?_⟩
  refine for_range (n := 3) (fun i σ H' => Gx b H4 H' ∧ Dr g H' sc b (100 * i) ns ∧ (∃ ps : List Addr, ps.length = i ∧ H' st = some (.lst (ps.map V.ref)) ∧ ∀ p ∈ ps, ∃ z w t, Stn H' p z w t) ∧ ∃ o, σ = [some (.ref sc), some (.ref b), some (.ref pp), some (.ref r), some (.ref st), o, none, none, none, none])
    ⟨kx5, by simpa using D5, ⟨[], rfl, e5, fun p hp => by cases hp⟩, none, rfl⟩ ?_ ?_
  · rintro i σ H6 hi ⟨k6, D6, ⟨ps, lp, e6, hps⟩, o, rfl⟩
    refine IsLst.by rfl (.of e6) (CallP.by (p_stand T) (by decide) ⟨sc, b, _, ns, rfl, hl, D6.sc, D6.bx, by omega, fun p z w t H7 np k7 hb7 st7 => ?_⟩)
    have e7 := k7 _ _ nst e6
    have nps : p ≠ st := fun e => by rw [e, e6] at np; cases np
    refine AppP.by e7 (by rw [List.length_map, lp, sizeLine_eq]; omega) ⟨gx_upd (k6.trans k7) hst, ?_, ⟨ps ++ [p], by rw [List.length_append, lp]; rfl, by rw [List.map_append]; exact upd_same, fun p' hp' => ?_⟩, _, rfl⟩
    · have D7 : Dr g H7 sc b (100 * i + 100) ns := ⟨hl, D6.sc.gx k7, hb7⟩
      exact (D7.up nst (k6.trans k7) D4.sc hst).mono (by omega)
    · rcases List.mem_append.mp hp' with hp' | hp'
      · obtain ⟨z', w', t', s'⟩ := hps p' hp'
        exact ⟨z', w', t', (s'.gx k7 D6.bx).up e7⟩
      · rw [List.mem_singleton] at hp'
        subst hp'
        exact ⟨z, w, t, st7.up e7⟩
  · rintro σ H6 ⟨k6, D6, ⟨ps, lp, e6, hps⟩, o, rfl⟩
    have s6 : St3 H6 st pp ps bs := ⟨lp, e6, hps, k6 _ _ ppb hpp4, bo⟩
    have ra6 : RoundAt g H6 r bs := ra.gx k6 D4.bx
    have sq6 := D6.sc.sq
    refine ⟨(by decide : 0 ≤ sizeLine), fun tl htl => ?_⟩
    dsimp only [gName]
    refine ⟨(by decide : 0 ≤ sizeLine), fun kl hkl => ?_⟩
    dsimp only [gName]
    have ntk : tl ≠ kl := fun e => by rw [← e, upd_same] at hkl; cases hkl
    have hkl6 : H6 kl = none := by rw [upd_ne (Ne.symm ntk)] at hkl; exact hkl
    have I7 : TK g H6 (upd (upd H6 tl (.lst [])) kl (.lst [])) tl kl [] [] := ⟨(Gr.new htl).trans (Gr.new hkl), ntk, by rw [upd_ne ntk, upd_same]; rfl, upd_same, fun k hk => (by cases hk), rfl, fun m z k e1 => (by simp at e1)⟩
    revert I7
    generalize upd (upd H6 tl (.lst [])) kl (.lst []) = H7
    intro I7
    refine ⟨2, rfl, by decide, by decide, ?_⟩
    refine for_range (n := 2) (fun i σ H' => (∃ zs ks, zs.length = i ∧ TK g H6 H' tl kl zs ks) ∧ ∃ o1 o2, σ = [some (.ref sc), some (.ref b), some (.ref pp), some (.ref r), some (.ref st), o1, some (.ref tl), some (.ref kl), o2, none]) ⟨⟨[], [], rfl, I7⟩, _, _, rfl⟩ ?_ ?_
    · rintro i σ H8 hi ⟨⟨zs, ks, lz, I8⟩, o1, o2, rfl⟩
      have hi2 : (i : Int) < 2 := by omega
      refine CallP.by (p_box T) (by decide) ⟨sc, _, ns, rfl, hl, SqL_gr I8.k sq6, by omega, by omega, fun bt H9 k9 nbt hbt => ?_⟩
      have D9 : Dr g H9 sc bt 0 ns := ⟨hl, Sc.new (SqL_gr I8.k sq6) k9 nbt, hbt⟩
      have s9 : St3 (off bt H9) st pp ps bs := (s6.gr I8.k).gr fun a o e => off_ne (fun e' => by rw [e', nbt] at e; cases e) (k9 _ _ e)
      refine CallP.by (p_text T) (by decide) ⟨sc, bt, st, pp, 0, ns, ps, bs, rfl, D9, by decide, s9, fun z H10 hz k10 => ?_⟩
      have k810 : Gr H8 H10 := fun a o e => k10 _ _ (fun e' => by rw [e', nbt] at e; cases e) (k9 _ _ e)
      have I10 := I8.gr k810
      dsimp only [gName]
      -- the text is mended
      refine seq_cut (fun σ' H' => ∃ y : Str, y.length ≤ 3000000 ∧ badAt (lines y) = (lines y).length ∧ Gr H10 H' ∧ σ' = [some (.ref sc), some (.ref b), some (.ref pp), some (.ref r), some (.ref st), some (.int (0 + i)), some (.ref tl), some (.ref kl), some (.str y), none]) (fun D' hD' => ?_) ?_
      · refine CallP.by (p_fb T) (by decide) ⟨z, rfl, by omega, fun H11 k11 => ite_i (fun c => ?_) (fun c => ?_)⟩
        · have c1 := dt c
          refine seq_cut (fun σ' H' => Gr H10 H' ∧ σ' = [some (.ref sc), some (.ref b), some (.ref pp), some (.ref r), some (.ref st), some (.int (0 + i)), some (.ref tl), some (.ref kl), some (.str z), none]) (fun D2 hD2 => ?_) ?_
          · refine CallP.by (p_fb T) (by decide) ⟨z, rfl, by omega, fun H12 k12 => ?_⟩
            refine CallP.by (p_ref T) (by decide) ⟨z, _, rfl, by omega, rfl, by omega, fun H13 k13 => ?_⟩
            exact hD2 _ _ ⟨(k11.trans k12).trans k13, rfl⟩
          · rintro σ' H13 ⟨k13, rfl⟩
            refine CallP.by (p_heal T) (by decide) ⟨z, rfl, hz, fun H14 k14 => ?_⟩
            exact hD' _ _ ⟨heal z, heal_len hz, heal_good z, k13.trans k14, rfl⟩
        · have c1 := df c
          have hgd : badAt (lines z) = (lines z).length := by
            unfold fbad at c1
            split at c1
            · omega
            · rename_i c2
              have := List.findIdx_le_length (xs := lines z) (p := isBad)
              have h2 : ¬ (lines z).findIdx isBad < (lines z).length := c2
              show (lines z).findIdx isBad = _
              omega
          exact hD' _ _ ⟨z, by omega, hgd, k11, rfl⟩
      · rintro σ' H11 ⟨y, hy, hg, k11, rfl⟩
        have I11 := I10.gr k11
        refine IsLst.by rfl (.of I11.t) (AppP.by I11.t (by rw [List.length_map, lz, sizeLine_eq]; omega) ?_)
        have hkl12 : upd H11 tl (.lst (zs.map V.str ++ [.str y])) kl = some (.lst (ks.map V.ref)) := by rw [upd_ne (Ne.symm I11.ne)]; exact I11.q
        refine IsLst.by rfl (.of hkl12) (mk_rk T (by decide) hy (fun e => absurd hg (by omega)) fun _ k H13 k13 nk rk => ?_)
        have hkl13 := k13 _ _ hkl12
        refine AppP.by hkl13 (by rw [List.length_map, ← I11.len, lz, sizeLine_eq]; omega) ⟨⟨zs ++ [y], ks ++ [k], by rw [List.length_append, lz]; rfl, ?_⟩, _, _, rfl⟩
        have noT : ∀ p ys, V.ref p ∈ zs.map V.str → H11 p ≠ some (.tup ys) := fun p ys hp => by
          obtain ⟨w, _, e⟩ := List.mem_map.mp hp
          cases e
        have nk12 : k ≠ kl := fun e => by rw [e, hkl12] at nk; cases nk
        have hins13 : ∀ p ys, V.ref p ∈ ks.map V.ref → H13 p ≠ some (.tup ys) := fun p ys hp => by
          obtain ⟨w, hw, e⟩ := List.mem_map.mp hp
          cases e
          obtain ⟨m, hm, rfl⟩ := List.getElem_of_mem hw
          have hm2 : m < zs.length := by rw [I11.len]; exact hm
          obtain ⟨_, _, rk'⟩ := I11.each m zs[m] ks[m] (by simp [hm2]) (by simp [hm])
          obtain ⟨dx, l, us, e1, _⟩ := (rk'.up (o := .lst (zs.map V.str ++ [.str y])) I11.t noT (lines_ne _)).gr k13
          intro e; rw [e1] at e; cases e
        have rkn : RKAt g (upd H13 kl (.lst (ks.map V.ref ++ [.ref k]))) k y := rk.up hkl13 hins13 (lines_ne _)
        refine ⟨gr_upd (Gr.trans (gr_upd I11.k htl) k13) hkl6, I11.ne, ?_, by rw [List.map_append]; exact upd_same, ?_, by rw [List.length_append, List.length_append, I11.len]; rfl, ?_⟩
        · rw [upd_ne I11.ne, List.map_append]
          exact k13 _ _ upd_same
        · intro k' hk' ys e
          by_cases ek : k' = kl
          · rw [ek, upd_same] at e; cases e
          · rw [upd_ne ek] at e
            rcases List.mem_append.mp hk' with hk' | hk'
            · exact hins13 k' ys (List.mem_map_of_mem hk') e
            · rw [List.mem_singleton] at hk'
              subst hk'
              obtain ⟨dx, l, us, e1, _⟩ := rk
              rw [e1] at e; cases e
        · intro m z' k' e1 e2
          by_cases hm : m < zs.length
          · rw [List.getElem?_append_left hm] at e1
            rw [List.getElem?_append_left (by rw [← I11.len]; exact hm)] at e2
            obtain ⟨a1, a2, a3⟩ := I11.each m z' k' e1 e2
            exact ⟨a1, a2, ((a3.up (o := .lst (zs.map V.str ++ [.str y])) I11.t noT (lines_ne _)).gr k13).up hkl13 hins13 (lines_ne _)⟩
          · have hm1 : m < (zs ++ [y]).length := (List.getElem?_eq_some_iff.mp e1).1
            rw [List.length_append, List.length_singleton] at hm1
            have em : m = zs.length := by omega
            subst em
            rw [List.getElem?_append_right (Nat.le_refl _), Nat.sub_self] at e1
            rw [I11.len, List.getElem?_append_right (Nat.le_refl _), Nat.sub_self] at e2
            cases e1
            cases e2
            exact ⟨hy, hg, rkn⟩
    · rintro σ H8 ⟨⟨zs, ks, lz, I8⟩, o1, o2, rfl⟩
      have s8 := s6.gr I8.k
      have ra8 := ra6.gr I8.k
      refine SlP.l (.of s8.st) fun r1 hr1 => ?_
      obtain ⟨l1, el1, hl1, ll1⟩ := cut_refs ps none (some 1)
      rw [el1]
      refine AddR.lst (ps.map V.ref) (l1.map V.ref) ((Gr.new hr1) _ _ s8.st) upd_same (by rw [List.length_map, List.length_map, sizeLine_eq]; have := s8.len; omega) fun r2 hr2 => ?_
      have k9 : Gr H8 (upd (upd H8 r1 (.lst (l1.map V.ref))) r2 (.lst (ps.map V.ref ++ l1.map V.ref))) := (Gr.new hr1).trans (Gr.new hr2)
      have e9 : upd (upd H8 r1 (.lst (l1.map V.ref))) r2 (.lst (ps.map V.ref ++ l1.map V.ref)) r2 = some (.lst ((ps ++ l1).map V.ref)) := by rw [List.map_append]; exact upd_same
      refine SeqP.l rfl (.of e9) ?_
      have hall : ∀ p ∈ ps ++ l1, p ∈ ps := fun p hp => by
        rcases List.mem_append.mp hp with hp | hp
        · exact hp
        · exact hl1 p hp
      revert k9 e9 hall
      generalize upd (upd H8 r1 (.lst (l1.map V.ref))) r2 (.lst (ps.map V.ref ++ l1.map V.ref)) = H9
      generalize ps ++ l1 = qs
      intro k9 e9 hall
      have I9 := I8.gr k9
      refine for_list (xs := qs.map V.ref) (fun i σ H' => Gr H9 H' ∧ ∃ o1 o2 o3, σ = [some (.ref sc), some (.ref b), some (.ref pp), some (.ref r), some (.ref st), o1, some (.ref tl), some (.ref kl), o2, o3]) ⟨Gr.refl, _, _, _, rfl⟩ (fun i σ H' _ q => .of (q.1 _ _ e9)) ?_ ?_
      · rintro i x σ H10 hx ⟨k10, o1, o2, o3, rfl⟩
        rw [List.getElem?_map] at hx
        cases eq : qs[i]? with
        | none => rw [eq] at hx; cases hx
        | some p =>
          rw [eq] at hx
          cases hx
          have hp := hall p (List.mem_of_getElem? eq)
          refine ⟨2, rfl, by decide, by decide, ?_⟩
          refine for_range (n := 2) (fun i σ H' => Gr H9 H' ∧ ∃ o1 o2, σ = [some (.ref sc), some (.ref b), some (.ref pp), some (.ref r), some (.ref st), o1, some (.ref tl), some (.ref kl), o2, some (.ref p)]) ⟨k10, _, _, rfl⟩ ?_ ?_
          · rintro m σ H11 hm ⟨k11, o1, o2, rfl⟩
            have I11 := I9.gr k11
            have hm1 : m < zs.length := by omega
            have hm2 : m < ks.length := by rw [← I11.len]; exact hm1
            refine IxR'.l (.of I11.q) (v := .ref ks[m]) (at_of (j := m) (by omega) (by simp [hm2])) ?_
            refine IxR'.l (.of I11.t) (v := .str zs[m]) (at_of (j := m) (by omega) (by simp [hm1])) ?_
            obtain ⟨a1, a2, a3⟩ := I11.each m zs[m] ks[m] (by simp [hm1]) (by simp [hm2])
            have s11 := s6.gr I11.k
            obtain ⟨y, w, t, hst⟩ := s11.each p hp
            refine CallP.by (p_chs T) (by decide) ⟨ks[m], p, pp, r, zs[m], y, w, t, bs, rfl, a1, a3, a2, ⟨hst, s11.hp, bo⟩, ra6.gr I11.k, fun H12 k12 => ?_⟩
            exact ⟨k11.trans k12, _, _, rfl⟩
          · rintro σ H11 ⟨k11, o1, o2, rfl⟩
            exact ⟨k11, _, _, _, rfl⟩
      · rintro σ H10 ⟨k10, o1, o2, o3, rfl⟩
        have I10 := I9.gr k10
        refine CallP.by (p_ref T) (by decide) ⟨"", 1, rfl, by decide +kernel, by decide +kernel, by decide, fun H11 k11 => ?_⟩
        have k611 := I10.k.trans k11
        have ra11 := ra6.gr k611
        obtain ⟨dr, tr, i1, i2⟩ := ra11
        refine PropP.by rfl i1 (cl_Round T) (pr_Round_budgets T) (p_rbud T) (by decide) ⟨r, bs, rfl, ⟨dr, tr, i1, i2⟩, fun q hq => ?_⟩
        exact eq_ints upd_same ((Gr.new hq) _ _ (k611 _ _ s6.hp)) (h _)
end
end Lw
namespace Hd
open PySem PySem.Spec PyProof.Rows L2 Cy
/-- what a def lets out, in some world -/
def cxA (P : Program) : CXT := fun outer H s E e s' => ∃ w, L2.CX P w outer H s E e s'
theorem ok_cx {P : Program} {w : World} {K : PySem.W.Frag} {mg : Str → Option Value} {base : Heap} {k : Nat} {f : Addr} {fd : FuncData} {ps : List Str} {sp : Sp} (F : FnOk P w K mg base (L2.CX P w) k f fd ps sp) : FnOk P w K mg base (cxA P) k f fd ps sp :=
  ⟨F.len, fun A outer s H args us vs Q E hr e0 hb r hs => codeAny_mono (F.run A outer s H args us vs Q E hr e0 hb r hs) fun z s' q => by
    cases z with
    | error e => exact ⟨w, q⟩
    | ok fl =>
      cases fl with
      | ret u => exact q
      | next => exact q
      | brk => exact q
      | cont => exact q⟩
end Hd
open PySem PySem.W PySem.Calls PyProof.Rows
set_option maxHeartbeats 0 in
theorem PySem.Challenge.cw_carrylog_k55_rule_texts_holds : PySem.Challenge.rw_carrylog_k55_rule_texts.Holds := by
  w_on; o_law
  refine HandSHeadRun.head_any (r := OpenLaw.row PySem.Challenge.rw_carrylog_k55_rule_texts) (q := view (OpenLaw.row PySem.Challenge.rw_carrylog_k55_rule_texts).prog [55]) (H := Hd.hk) (ob := Hd.ob) (M := 40000) (loose := Hd.loose) (d := HandSHeadRun.topDef (OpenLaw.row PySem.Challenge.rw_carrylog_k55_rule_texts).prog 55) (kwd := []) Hd.ob_eq
    (by kernel_rfl) (fun s => by kernel_rfl) Hd.run (by kernel_rfl) (by kernel_rfl) (by kernel_rfl) (by rfl) (by first | assumption | decide +kernel) (by decide +kernel) ⟨rfl, rfl, rfl, rfl, rfl, by decide +kernel⟩ ?hw ?hc
  case hw => w_witness2
  case hc =>
    refine L2.walk_ofE (l := PySem.Challenge.rw_carrylog_k55_rule_texts) (n := 63) (k := 20) (x := "_law_script") (CX := Hd.cxA PySem.Challenge.pw_carrylog_k55_rule_texts) rfl (by decide) (by kernel_rfl) ⟨rfl, by decide, by decide⟩ ?F (fun _ _ _ _ z => by
      obtain ⟨w, _, _, _, _, _, _, _, _, _, _, _, _, z⟩ := z
      exact z)
    intro w mg fa h Y G hmg0
    obtain ⟨K, KX, c⟩ := Y
    have hmg : mg ("law" : PySem.Str) = some (.ref fa) := by
      have e : (HandSHeadRun.topDef (OpenLaw.row PySem.Challenge.rw_carrylog_k55_rule_texts).prog 55).name = ("law" : PySem.Str) := by kernel_rfl
      rw [← e]
      exact hmg0
    have T : ∀ base : Heap, Lw.Top ⟨PySem.Challenge.pw_carrylog_k55_rule_texts, w, K, mg, base⟩ := fun base => ⟨rfl, h, KX, G, c⟩
    obtain ⟨fd, F⟩ := Lw.fd_law (T h)
    have hf : fa = Cy.gad K "law" := by
      have := (Lw.gf_law (T h)).mg
      exact Value.ref.inj (Option.some.inj (hmg.symm.trans this))
    subst hf
    exact ⟨K, fd, Lw.spLaw ⟨PySem.Challenge.pw_carrylog_k55_rule_texts, w, K, mg, h⟩, KX, fun s v => L2.FunD.bindsA (ps := ["_law_script"]) F (fun _ _ _ _ _ _ us hl => match us, hl with | [_], _ => rfl) s [v] rfl,
      fun H a ns hl _ hS => ⟨a, ns, rfl, hl, hS, fun _ => rfl⟩, fun base _ _ => Hd.ok_cx (Lw.ok_the_law (T base) F)⟩
