import PyProof.Rows.All
import Wide.All
import OpenK.AllK
import Wide.FinOn
import KE.KStateDown
import HandS.ForMost
import HandS.Exc
import HandS.ExcOwn
import HandS.TryOnly
import HandS.WordsExc
import HandS.Defaults
import HandS.Wide
import HandS.FStr
import HandS.IsInst
import HandS.More
import HandS.StrMore
import HandS.Property
import OpenK.KOps
import OpenK.KMeth
import PyProof.SumWalkG
import PyProof.WalksMore
import HandS.Star
import KE.KExcSuper
import HandS.ExcInit
import HandS.ClsMeth
import HandS.ExcIs
import HandS.ExcField
import HandS.HotCalls
import KE.GoesEnumKw
import PyProof.Rows.CallKwBuiltin
import HandS.Head0
import HandS.Head1
import HandS.Head2
import HandS.HeadEnd
import HandS.HeadHook1
import HandS.HeadHook2
import HandS.New0
import PyProof.Rows.RegReprOcc
import Wide.Txt
import PyProof.Rows.RegStrFacts
import PySem.Challenge.RW_carrylog_k54_choose_family
set_option Elab.async false
set_option linter.all false
set_option maxRecDepth 100000
set_option maxHeartbeats 4000000
namespace Cy
open PySem PySem.Spec PyProof.Rows L2
abbrev St := L2.St

theorem PE.imp {X : Cx} {e : Expr} {t t' : TE} (p : PE X e t) (h : ∀ σ H Q, t' σ H Q → t σ H Q) : PE X e t' := ⟨fun pins s σ H Q I q => p.run pins s σ H Q I (h _ _ _ q)⟩
theorem PT.imp {X : Cx} {e : Expr} {t t' : TT} (p : PT X e t) (h : ∀ σ H Q, t' σ H Q → t σ H Q) : PT X e t' := ⟨fun pins s σ H Q I q => p.run pins s σ H Q I (h _ _ _ q)⟩

def sl : St → Nat → Option V
  | [], _ => none
  | o :: _, 0 => o
  | _ :: r, i + 1 => sl r i
theorem sl_get : ∀ {σ : St} {i : Nat} {v : V}, sl σ i = some v → σ[i]? = some (some v)
  | [], _, _, h => nomatch h
  | o :: r, 0, v, h => by
    have h : o = some v := h
    rw [h] <;> rfl
  | o :: r, i + 1, v, h => by
    rw [List.getElem?_cons_succ]
    exact sl_get (σ := r) h
def cV (i : Nat) : TE := fun σ H Q => match sl σ i with
  | some v => Q v H
  | none => False
theorem cv {X : Cx} (i : Nat) {x : Str} {pos : Pos} (hN : X.N[i]? = some x := by rfl) (hv : Vis X.env.scope x := by first | exact Or.inl rfl | exact Or.inr (Or.inl rfl) | exact Or.inr (Or.inr rfl)) (hd : (x == ("__debug__" : Str)) = false := by decide)
    (hcd : (x == ("__classdict__" : Str)) = false := by decide) : PE X (.Name x pos) (cV i) := PE.imp (pe_var hN hv hd hcd) fun σ H Q h => by
  unfold cV at h
  cases e : sl σ i with
  | none => rw [e] at h; exact h.elim
  | some v => rw [e] at h; exact ⟨v, sl_get e, h⟩

section
variable {X : Cx}
/-- + of two objects -/
inductive AddR (K : PySem.W.Frag) (ow : Addr → Addr → Hp → VK → Prop) (p q : Addr) (H : Hp) (Q : VK) : Prop where
  | lst (xs zs : List V) (h1 : H p = some (.lst xs)) (h2 : H q = some (.lst zs)) (hl : xs.length + zs.length ≤ sizeLine) (k : ∀ r, H r = none → Q (.ref r) (upd H r (.lst (xs ++ zs))))
  | tup (xs zs : List V) (h1 : SqT K H p xs) (h2 : SqT K H q zs) (hn : xs ≠ []) (hm : zs ≠ []) (hl : xs.length + zs.length ≤ sizeLine) (k : ∀ r, H r = none → Q (.ref r) (upd H r (.tup (xs ++ zs))))
  | own (h : ow p q H Q)
def noOw : Addr → Addr → Hp → VK → Prop := fun _ _ _ _ => False
def cAdd (K : PySem.W.Frag) (ow : Addr → Addr → Hp → VK → Prop) : R2 := fun x y H Q => match x, y with
  | .int i, .int j => Q (.int (i + j)) H
  | .str a, .str b => a.length + b.length ≤ sizeLine ∧ Q (.str (a ++ b)) H
  | .int i, .bl k => Q (.int (i + b2i k)) H
  | .ref p, .ref q => AddR K ow p q H Q
  | _, _ => False
/-- what an own + is worth -/
def OwOk (X : Cx) (ow : Addr → Addr → Hp → VK → Prop) : Prop := OpR X (binaryOp .Add) fun x y H Q => ∃ p q, x = .ref p ∧ y = .ref q ∧ ow p q H Q
theorem noOw_ok : OwOk X noOw := fun _ _ _ _ _ _ _ _ _ _ _ _ h => by
  obtain ⟨_, _, _, _, z⟩ := h
  exact z.elim
theorem op_cAdd {ow : Addr → Addr → Hp → VK → Prop} (ok : OwOk X ow) : OpR X (binaryOp .Add) (cAdd X.K ow) := by
  intro pins s σ H x y v u Q I rx ry h
  cases x <;> cases y <;> first
    | exact (show False from h).elim
    | exact op_add pins s σ H _ _ v u Q I rx ry ⟨_, _, rfl, rfl, h⟩
    | exact op_add_str pins s σ H _ _ v u Q I rx ry ⟨_, _, rfl, rfl, h.1, h.2⟩
    | exact op_add_ib pins s σ H _ _ v u Q I rx ry ⟨_, _, rfl, rfl, h⟩
    | skip
  rename_i p q
  have h : AddR X.K ow p q H Q := h
  cases h with
  | lst xs zs h1 h2 hl k => exact op_cat pins s σ H _ _ v u Q I rx ry ⟨_, _, _, _, rfl, rfl, h1, h2, hl, k⟩
  | tup xs zs h1 h2 hn hm hl k => exact op_catT pins s σ H _ _ v u Q I rx ry ⟨_, _, _, _, rfl, rfl, h1, h2, hn, hl, fun z => absurd z hm, fun _ => k⟩
  | own h => exact ok pins s σ H _ _ v u Q I rx ry ⟨p, q, rfl, rfl, h⟩
def cI2 (C : Int → Int → Prop) (g : Int → Int → V) : R2 := fun x y H Q => match x, y with
  | .int i, .int j => C i j ∧ Q (g i j) H
  | _, _ => False
def cI0 (g : Int → Int → V) : R2 := fun x y H Q => match x, y with
  | .int i, .int j => Q (g i j) H
  | _, _ => False
theorem op_cI2 {f : Value → Value → Sem Value} {C : Int → Int → Prop} {g : Int → Int → V} (p : OpR X f (rI C g)) : OpR X f (cI2 C g) := by
  intro pins s σ H x y v u Q I rx ry h
  cases x <;> cases y <;> first
    | exact (show False from h).elim
    | exact p pins s σ H _ _ v u Q I rx ry ⟨_, _, rfl, rfl, h.1, h.2⟩
theorem op_cI0 {f : Value → Value → Sem Value} {g : Int → Int → V} (p : OpR X f (rI0 g)) : OpR X f (cI0 g) := by
  intro pins s σ H x y v u Q I rx ry h
  cases x <;> cases y <;> first
    | exact (show False from h).elim
    | exact p pins s σ H _ _ v u Q I rx ry ⟨_, _, rfl, rfl, h⟩
abbrev cSub : R2 := cI0 fun i j => .int (i - j)
theorem op_cSub : OpR X (binaryOp .Sub) cSub := op_cI0 op_sub
abbrev cDiv : R2 := cI2 CDivW fun i j => .int (i / j)
theorem op_cDiv : OpR X (binaryOp .FloorDiv) cDiv := op_cI2 op_fdivW
abbrev cMod : R2 := cI2 (fun _ j => 0 < j) fun i j => .int (i % j)
theorem op_cMod : OpR X (binaryOp .Mod) cMod := op_cI2 op_mod
abbrev cPow : R2 := cI2 CPow fun i j => .int (i ^ j.toNat)
theorem op_cPow : OpR X (binaryOp .Pow) cPow := op_cI2 op_pow
inductive MulR (H : Hp) (Q : VK) (p : Addr) (k : Int) : Prop where
  | lst (xs : List V) (h : H p = some (.lst xs)) (h1 : -(2 ^ 63) ≤ k) (h2 : k < 2 ^ 63) (hl : xs.length * k.toNat ≤ sizeLine) (kk : ∀ q, H q = none → Q (.ref q) (upd H q (.lst (List.replicate k.toNat xs).flatten)))
def cMul : R2 := fun x y H Q => match x, y with
  | .int i, .int j => CMulW i j ∧ Q (.int (i * j)) H
  | .ref p, .int k => MulR H Q p k
  | _, _ => False
theorem op_cMul : OpR X (binaryOp .Mult) cMul := by
  intro pins s σ H x y v u Q I rx ry h
  cases x <;> cases y <;> first
    | exact (show False from h).elim
    | exact op_mulW pins s σ H _ _ v u Q I rx ry ⟨_, _, rfl, rfl, h.1, h.2⟩
    | skip
  rename_i p k
  have h : MulR H Q p k := h
  obtain ⟨xs, h, h1, h2, hl, kk⟩ := h
  exact op_rep pins s σ H _ _ v u Q I rx ry ⟨_, _, _, rfl, rfl, h, h1, h2, hl, kk⟩

abbrev cLt : R2 := cI0 fun i j => .bl (decide (i < j))
abbrev cLe : R2 := cI0 fun i j => .bl (decide (i ≤ j))
abbrev cGt : R2 := cI0 fun i j => .bl (decide (j < i))
abbrev cGe : R2 := cI0 fun i j => .bl (decide (j ≤ i))
theorem op_cLt : OpR X (compareOp .Lt) cLt := op_cI0 op_lt
theorem op_cLe : OpR X (compareOp .LtE) cLe := op_cI0 op_le
theorem op_cGt : OpR X (compareOp .Gt) cGt := op_cI0 op_gt
theorem op_cGe : OpR X (compareOp .GtE) cGe := op_cI0 op_ge
/-- == of two objects -/
inductive EqR (K : PySem.W.Frag) (p q : Addr) (H : Hp) (neg : Bool) (Q : VK) : Prop where
  | dat (d e : PyData) (h1 : Dp K H (.ref p) d) (h2 : Dp K H (.ref q) e) (h3 : SeqAt.shaped d = true) (h4 : SeqAt.shaped e = true) (k : Q (.bl (neg != PyData.eqv d e)) H)
def cEqN (K : PySem.W.Frag) (neg : Bool) : R2 := fun x y H Q => match x, y with
  | .int i, .int j => Q (.bl (neg != decide (i = j))) H
  | .str i, .str j => Q (.bl (neg != decide (i = j))) H
  | .bl i, .bl j => Q (.bl (neg != decide (i = j))) H
  | .non, .non => Q (.bl (neg != true)) H
  | .non, .int _ => Q (.bl neg) H
  | .int _, .non => Q (.bl neg) H
  | .ref p, .ref q => EqR K p q H neg Q
  | _, _ => False
theorem op_cEq (hu : X.A.units + 64 < cLine) : OpR X (compareOp .Eq) (cEqN X.K false) := by
  intro pins s σ H x y v u Q I rx ry h
  cases x <;> cases y <;> first
    | exact (show False from h).elim
    | skip
  case non.non => exact op_eq pins s σ H _ _ v u Q I rx ry ⟨rfl, h⟩
  case non.int j => exact op_eq pins s σ H _ _ v u Q I rx ry ⟨rfl, h⟩
  case int.non j => exact op_eq pins s σ H _ _ v u Q I rx ry ⟨rfl, h⟩
  case bl.bl i j =>
    refine op_eq pins s σ H _ _ v u Q I rx ry ⟨rfl, ?_⟩
    have e : decide (V.bl i = V.bl j) = (false != decide (i = j)) := by by_cases z : i = j <;> simp [z]
    rw [e]; exact h
  case int.int i j =>
    refine op_eq pins s σ H _ _ v u Q I rx ry ⟨rfl, ?_⟩
    have e : decide (V.int i = V.int j) = (false != decide (i = j)) := by by_cases z : i = j <;> simp [z]
    rw [e]; exact h
  case str.str i j =>
    refine op_eq pins s σ H _ _ v u Q I rx ry ⟨rfl, ?_⟩
    have e : decide (V.str i = V.str j) = (false != decide (i = j)) := by by_cases z : i = j <;> simp [z]
    rw [e]; exact h
  case ref.ref p q =>
    obtain ⟨d, e, h1, h2, h3, h4, k⟩ : EqR X.K p q H false Q := h
    refine op_eqD hu pins s σ H _ _ v u Q I rx ry ⟨d, e, h1, h2, h3, h4, ?_⟩
    have z : (false != PyData.eqv d e) = PyData.eqv d e := by cases PyData.eqv d e <;> rfl
    rw [← z]; exact k
theorem op_cNe (hu : X.A.units + 64 < cLine) : OpR X (compareOp .NotEq) (cEqN X.K true) := by
  intro pins s σ H x y v u Q I rx ry h
  cases x <;> cases y <;> first
    | exact (show False from h).elim
    | skip
  case non.non => exact op_ne pins s σ H _ _ v u Q I rx ry ⟨rfl, h⟩
  case non.int j => exact op_ne pins s σ H _ _ v u Q I rx ry ⟨rfl, h⟩
  case int.non j => exact op_ne pins s σ H _ _ v u Q I rx ry ⟨rfl, h⟩
  case bl.bl i j =>
    refine op_ne pins s σ H _ _ v u Q I rx ry ⟨rfl, ?_⟩
    have e : (!decide (V.bl i = V.bl j)) = (true != decide (i = j)) := by by_cases z : i = j <;> simp [z]
    rw [e]; exact h
  case int.int i j =>
    refine op_ne pins s σ H _ _ v u Q I rx ry ⟨rfl, ?_⟩
    have e : (!decide (V.int i = V.int j)) = (true != decide (i = j)) := by by_cases z : i = j <;> simp [z]
    rw [e]; exact h
  case str.str i j =>
    refine op_ne pins s σ H _ _ v u Q I rx ry ⟨rfl, ?_⟩
    have e : (!decide (V.str i = V.str j)) = (true != decide (i = j)) := by by_cases z : i = j <;> simp [z]
    rw [e]; exact h
  case ref.ref p q =>
    obtain ⟨d, e, h1, h2, h3, h4, k⟩ : EqR X.K p q H true Q := h
    refine op_neD hu pins s σ H _ _ v u Q I rx ry ⟨d, e, h1, h2, h3, h4, ?_⟩
    have z : (true != PyData.eqv d e) = !PyData.eqv d e := by cases PyData.eqv d e <;> rfl
    rw [← z]; exact k
/-- in -/
inductive InR (K : PySem.W.Frag) (x : V) (p : Addr) (H : Hp) (neg : Bool) (Q : VK) : Prop where
  | sq (xs : List V) (h : SqL K H p xs ∨ SqT K H p xs) (hx : flatV x = true) (ha : xs.all flatV = true) (k : Q (.bl (neg != inV x xs)) H)
def cIn (K : PySem.W.Frag) (neg : Bool) : R2 := fun x y H Q => match y with
  | .str z => (match x with
    | .str c => Q (.bl (neg != !(Builtin.Str.occurrences z c 0 z.length 1).isEmpty)) H
    | _ => False)
  | .ref p => InR K x p H neg Q
  | _ => False
theorem op_cIn : OpR X (compareOp .In) (cIn X.K false) := by
  intro pins s σ H x y v u Q I rx ry h
  cases y <;> first
    | exact (show False from h).elim
    | skip
  case str z =>
    cases x <;> first
      | exact (show False from h).elim
      | skip
    rename_i c
    refine op_in_str pins s σ H _ _ v u Q I rx ry ⟨_, _, rfl, rfl, ?_⟩
    have e : (false != !(Builtin.Str.occurrences z c 0 z.length 1).isEmpty) = !(Builtin.Str.occurrences z c 0 z.length 1).isEmpty := by cases (Builtin.Str.occurrences z c 0 z.length 1).isEmpty <;> rfl
    rw [← e]; exact h
  case ref p =>
    obtain ⟨xs, h, hx, ha, k⟩ : InR X.K x p H false Q := h
    refine op_in_seq pins s σ H _ _ v u Q I rx ry ⟨p, xs, rfl, h, hx, ha, ?_⟩
    have e : (false != inV x xs) = (if false = true then !inV x xs else inV x xs) := by cases inV x xs <;> rfl
    rw [← e]; exact k
theorem op_cNotIn : OpR X (compareOp .NotIn) (cIn X.K true) := by
  intro pins s σ H x y v u Q I rx ry h
  cases y <;> first
    | exact (show False from h).elim
    | skip
  case str z =>
    cases x <;> first
      | exact (show False from h).elim
      | skip
    rename_i c
    refine op_notIn_str pins s σ H _ _ v u Q I rx ry ⟨_, _, rfl, rfl, ?_⟩
    have e : (true != !(Builtin.Str.occurrences z c 0 z.length 1).isEmpty) = !(!(Builtin.Str.occurrences z c 0 z.length 1).isEmpty) := by cases (Builtin.Str.occurrences z c 0 z.length 1).isEmpty <;> rfl
    rw [← e]; exact h
  case ref p =>
    obtain ⟨xs, h, hx, ha, k⟩ : InR X.K x p H true Q := h
    refine op_notIn_seq pins s σ H _ _ v u Q I rx ry ⟨p, xs, rfl, h, hx, ha, ?_⟩
    have e : (true != inV x xs) = (if true = true then !inV x xs else inV x xs) := by cases inV x xs <;> rfl
    rw [← e]; exact k
/-- is None -/
def isNon : V → Bool
  | .non => true
  | _ => false
theorem isNon_eq (x : V) : decide (x = .non) = isNon x := by cases x <;> simp [isNon]
def cIsN (neg : Bool) : R2 := fun x y H Q => match y with
  | .non => Q (.bl (neg != isNon x)) H
  | _ => False
theorem op_cIs : OpR X (compareOp .Is) (cIsN false) := by
  intro pins s σ H x y v u Q I rx ry h
  cases y <;> first
    | exact (show False from h).elim
    | skip
  refine op_isN pins s σ H _ _ v u Q I rx ry ⟨rfl, ?_⟩
  rw [isNon_eq]
  have e : (false != isNon x) = isNon x := by cases isNon x <;> rfl
  rw [← e]; exact h
theorem op_cIsNot : OpR X (compareOp .IsNot) (cIsN true) := by
  intro pins s σ H x y v u Q I rx ry h
  cases y <;> first
    | exact (show False from h).elim
    | skip
  refine op_notN pins s σ H _ _ v u Q I rx ry ⟨rfl, ?_⟩
  rw [isNon_eq]
  have e : (true != isNon x) = !isNon x := by cases isNon x <;> rfl
  rw [← e]; exact h

def cTest (t : TE) : TT := fun σ H Q => t σ H fun x H' => match x with
  | .bl k => Q k H'
  | _ => False
variable {a b c : Expr} {ta tb tc : TE} {pos : Pos}
theorem ptc {op : CmpOp} {r : R2} (ho : OpR X (compareOp op) r) (ha : PE X a ta) (hb : PE X b tb) (hm : behindInMarks op b = false) : PT X (.Compare a [op] [b] pos) (cTest (tOp r ta tb)) := by
  refine ⟨fun pins s σ H Q I h => ?_⟩
  refine wpAny_isTrue_Compare1 (thn (ha.run pins s σ H _ I h) fun v s1 ⟨x, H1, I1, r1, q1⟩ => thn (hb.run pins s1 σ H1 _ I1 q1) fun u s2 ⟨y, H2, I2, r2, q2⟩ =>
    thn (ho pins s2 σ H2 x y v u _ I2 r1 r2 q2) fun c s3 ⟨z, H3, I3, r3, q3⟩ => ?_) hm
  cases z <;> first
    | exact (show False from q3).elim
    | skip
  cases r3
  exact wpAny_truthy_bool ⟨H3, I3, q3⟩
/-- a op1 b op2 c -/
def cChain (r r' : R2) (ta tb tc : TE) : TE := fun σ H Q => ta σ H fun x H1 => tb σ H1 fun y H2 => r x y H2 fun z H3 => match z with
  | .bl k => if k = true then tc σ H3 fun w' H4 => r' y w' H4 Q else Q (.bl false) H3
  | _ => False
theorem pec {op op' : CmpOp} {r r' : R2} (ho : OpR X (compareOp op) r) (ho' : OpR X (compareOp op') r') (ha : PE X a ta) (hb : PE X b tb) (hc : PE X c tc)
    (hm : lastMarks [op, op'] [b, c] = false := by with_unfolding_all rfl) : PE X (.Compare a [op, op'] [b, c] pos) (cChain r r' ta tb tc) := by
  refine ⟨fun pins s σ H Q I h => ?_⟩
  refine Compare_chain (thn (ha.run pins s σ H _ I h) fun v s1 ⟨x, H1, I1, r1, q1⟩ => chain_link (thn (hb.run pins s1 σ H1 _ I1 q1) fun u s2 ⟨y, H2, I2, r2, q2⟩ =>
    thn (ho pins s2 σ H2 x y v u _ I2 r1 r2 q2) fun d s3 ⟨z, H3, I3, r3, q3⟩ => ?_)) hm
  cases z <;> first
    | exact (show False from q3).elim
    | skip
  rename_i k
  cases r3
  refine wpAny_truthy_bool ?_
  cases k with
  | false => exact ite_ff ⟨.bl false, H3, I3, rfl, q3⟩
  | true => exact ite_tt (chain_last (thn (hc.run pins s3 σ H3 _ I3 q3) fun w' s4 ⟨z', H4, I4, r4, q4⟩ => ho' pins s4 σ H4 y z' u w' Q I4 r2 r4 q4))
theorem ptc2 {op op' : CmpOp} {r r' : R2} (ho : OpR X (compareOp op) r) (ho' : OpR X (compareOp op') r') (ha : PE X a ta) (hb : PE X b tb) (hc : PE X c tc)
    (hm : lastMarks [op, op'] [b, c] = false := by with_unfolding_all rfl) : PT X (.Compare a [op, op'] [b, c] pos) (cTest (cChain r r' ta tb tc)) := by
  refine ⟨fun pins s σ H Q I h => ?_⟩
  refine isTrue_chain (thn (ha.run pins s σ H _ I h) fun v s1 ⟨x, H1, I1, r1, q1⟩ => test_link (thn (hb.run pins s1 σ H1 _ I1 q1) fun u s2 ⟨y, H2, I2, r2, q2⟩ =>
    thn (ho pins s2 σ H2 x y v u _ I2 r1 r2 q2) fun d s3 ⟨z, H3, I3, r3, q3⟩ => ?_)) hm
  cases z <;> first
    | exact (show False from q3).elim
    | skip
  rename_i k
  cases r3
  refine wpAny_truthy_bool ?_
  cases k with
  | false => exact ite_ff ⟨H3, I3, q3⟩
  | true =>
    refine ite_tt (test_last (thn (hc.run pins s3 σ H3 _ I3 q3) fun w' s4 ⟨z', H4, I4, r4, q4⟩ => thn (ho' pins s4 σ H4 y z' u w' _ I4 r2 r4 q4) fun d' s5 ⟨z5, H5, I5, r5, q5⟩ => ?_))
    cases z5 <;> first
      | exact (show False from q5).elim
      | skip
    cases r5
    exact wpAny_truthy_bool ⟨H5, I5, q5⟩
/-- an expression by its truth -/
inductive TruP (K : PySem.W.Frag) (p : Addr) (H : Hp) (Q : Bool → Hp → Prop) : Prop where
  | lst (xs : List V) (h : SqL K H p xs) (k : Q (!xs.isEmpty) H)
  | tup (xs : List V) (h : SqT K H p xs) (k : Q (!xs.isEmpty) H)
  | dic (kvs : List (Key × V)) (h : H p = some (.dK kvs)) (k : Q (!kvs.isEmpty) H)
def cTru (K : PySem.W.Frag) (t : TE) : TT := fun σ H Q => t σ H fun x H' => match x with
  | .bl k => Q k H'
  | .non => Q false H'
  | .int i => Q (i != 0) H'
  | .str y => y.length ≤ sizeLine ∧ Q ((y.length : Int) != 0) H'
  | .ref p => TruP K p H' Q
  | _ => False
theorem ptv {e : Expr} {t : TE} (h : PE X e t) (he : ∀ whole, isTrue e X.env whole = (do let v ← whole; standAt e.pos; holding [v] (truthy v)) := by intro _; rfl) : PT X e (cTru X.K t) := by
  refine ⟨fun pins s σ H Q I hw => ?_⟩
  refine isTrue_plain (thn (h.run pins s σ H _ I hw) fun v s1 ⟨x, H1, I1, r1, q1⟩ => ?_) (he _)
  refine tru_ok pins s1 σ H1 x v Q I1 r1 ?_
  cases x <;> first
    | exact (show False from q1).elim
    | exact ⟨_, rfl, q1⟩
    | exact ⟨_, ⟨q1.1, rfl⟩, q1.2⟩
    | skip
  have q1 : TruP X.K _ H1 Q := q1
  cases q1 with
  | lst xs h k => exact ⟨_, .inl ⟨xs, h, rfl⟩, k⟩
  | tup xs h k => exact ⟨_, .inr (.inl ⟨xs, h, rfl⟩), k⟩
  | dic kvs h k => exact ⟨_, .inr (.inr ⟨kvs, h, rfl⟩), k⟩
variable {rest : List Expr}
def cAndV (ta tb : TE) : TE := fun σ H Q => ta σ H fun x H1 => match x with
  | .bl c => if c = true then tb σ H1 Q else Q (.bl false) H1
  | _ => False
def cOrV (ta tb : TE) : TE := fun σ H Q => ta σ H fun x H1 => match x with
  | .bl c => if c = true then Q (.bl true) H1 else tb σ H1 Q
  | _ => False
def cNotV (ta : TE) : TE := fun σ H Q => ta σ H fun x H1 => match x with
  | .bl c => Q (.bl (!c)) H1
  | _ => False
theorem pe_cAnd (ha : PE X a ta) (hb : PE X (.BoolOp .And (b :: rest) pos) tb) : PE X (.BoolOp .And (a :: b :: rest) pos) (cAndV ta tb) := by
  refine ⟨fun pins s σ H Q I h => ?_⟩
  refine BoolOp_and (thn (ha.run pins s σ H _ I h) fun v s1 ⟨x, H1, I1, r1, q1⟩ => ?_)
  cases x <;> first
    | exact (show False from q1).elim
    | skip
  rename_i c
  cases r1
  refine wpAny_truthy_bool ?_
  cases c with
  | true => exact hb.run pins s1 σ H1 Q I1 q1
  | false => exact ⟨.bl false, H1, I1, rfl, q1⟩
theorem pe_cOr (ha : PE X a ta) (hb : PE X (.BoolOp .Or (b :: rest) pos) tb) : PE X (.BoolOp .Or (a :: b :: rest) pos) (cOrV ta tb) := by
  refine ⟨fun pins s σ H Q I h => ?_⟩
  refine BoolOp_or (thn (ha.run pins s σ H _ I h) fun v s1 ⟨x, H1, I1, r1, q1⟩ => ?_)
  cases x <;> first
    | exact (show False from q1).elim
    | skip
  rename_i c
  cases r1
  refine wpAny_truthy_bool ?_
  cases c with
  | false => exact hb.run pins s1 σ H1 Q I1 q1
  | true => exact ⟨.bl true, H1, I1, rfl, q1⟩
theorem pe_cNot (ha : PE X a ta) : PE X (.UnaryOp .Not a pos) (cNotV ta) := by
  refine ⟨fun pins s σ H Q I h => ?_⟩
  refine UnaryOp_ (thn (ha.run pins s σ H _ I h) fun v s1 ⟨x, H1, I1, r1, q1⟩ => ?_)
  cases x <;> first
    | exact (show False from q1).elim
    | skip
  rename_i c
  cases r1
  exact not_of (wpAny_truthy_bool ⟨.bl (!c), H1, I1, rfl, q1⟩)
def cNeg : V → Hp → VK → Prop := fun x H Q => match x with
  | .int i => Q (.int (-i)) H
  | _ => False
theorem un_cNeg : UnR X (unaryOp .USub) cNeg := by
  intro pins s σ H x v Q I rx h
  cases x <;> first
    | exact (show False from h).elim
    | exact un_neg pins s σ H _ v Q I rx ⟨_, rfl, h⟩
inductive IxR' (K : PySem.W.Frag) (p : Addr) (i : Int) (H : Hp) (Q : VK) : Prop where
  | l {xs : List V} {v : V} (h : SqL K H p xs) (a : atI xs i = some v) (k : Q v H)
  | t {xs : List V} {v : V} (h : SqT K H p xs) (a : atI xs i = some v) (k : Q v H)
def cIx (K : PySem.W.Frag) : R2 := fun x y H Q => match y with
  | .int i => (match x with
    | .str z => z.length ≤ sizeLine ∧ ∃ c, atI z.cps.toList i = some c ∧ Q (.str ⟨#[c]⟩) H
    | .ref p => IxR' K p i H Q
    | _ => False)
  | _ => False
theorem ix_c : IxR X (cIx X.K) := by
  intro value slice pins s σ H x y v u Q I rx ry h hs
  cases y <;> first
    | exact (show False from h).elim
    | skip
  rename_i i
  cases x <;> first
    | exact (show False from h).elim
    | skip
  case str z =>
    obtain ⟨h1, c, h2, h3⟩ : z.length ≤ sizeLine ∧ ∃ c, atI z.cps.toList i = some c ∧ Q (.str ⟨#[c]⟩) H := h
    exact ix_seq value slice pins s σ H _ _ v u Q I rx ry (.inr (.inr ⟨z, i, c, rfl, rfl, h1, h2, h3⟩)) hs
  case ref p =>
    have h : IxR' X.K p i H Q := h
    cases h with
    | l h a k => exact ix_seq value slice pins s σ H _ _ v u Q I rx ry (.inl ⟨p, _, i, _, rfl, rfl, h, a, k⟩) hs
    | t h a k => exact ix_seq value slice pins s σ H _ _ v u Q I rx ry (.inr (.inl ⟨p, _, i, _, rfl, rfl, h, a, k⟩)) hs
def cPart (t : TE) : TO := fun σ H Q => t σ H fun x H1 => match x with
  | .int i => Q (some i) H1
  | _ => False
theorem po_c {te : TE} {e : Expr} (h : PE X e te) : PO X (some e) (cPart te) := by
  refine ⟨fun pins s σ H Q I hw => ?_⟩
  rw [evalPart_some]
  refine thn (h.run pins s σ H _ I hw) fun u s1 ⟨x, H1, I1, r1, q1⟩ => ?_
  cases x <;> first
    | exact (show False from q1).elim
    | skip
  obtain ⟨t, rfl⟩ := r1
  exact ⟨some _, H1, I1, .int _ t, q1⟩
/-- a slice of an object: a new one -/
inductive SlP (K : PySem.W.Frag) (p : Addr) (lo hi : Option Int) (H : Hp) (Q : VK) : Prop where
  | l {xs : List V} (h : SqL K H p xs) (k : ∀ r, H r = none → Q (.ref r) (upd H r (.lst (cutV xs lo hi))))
  | t {xs : List V} (h : SqT K H p xs) (hn : ¬ (HT.sIx xs.length 0 lo = 0 ∧ HT.sIx xs.length xs.length hi = xs.length)) (k : ∀ r, H r = none → Q (.ref r) (upd H r (.tup (cutV xs lo hi))))
def cSl (K : PySem.W.Frag) : V → Option Int → Option Int → Hp → VK → Prop := fun x lo hi H Q => match x with
  | .str z => z.length ≤ sizeLine ∧ Q (.str (cutS z lo hi)) H
  | .ref p => SlP K p lo hi H Q
  | _ => False
theorem sl_c : SlR X (cSl X.K) := by
  intro pins s σ H x v vl vu lo hi sl Q I rx hs pl pu h
  cases x <;> first
    | exact (show False from h).elim
    | skip
  case str z => exact sl_str pins s σ H _ v vl vu lo hi sl Q I rx hs pl pu ⟨z, rfl, h.1, h.2⟩
  case ref p =>
    have h : SlP X.K p lo hi H Q := h
    cases h with
    | l h k => exact sl_list pins s σ H _ v vl vu lo hi sl Q I rx hs pl pu ⟨p, _, rfl, h, k⟩
    | t h hn k => exact sl_tup pins s σ H _ v vl vu lo hi sl Q I rx hs pl pu ⟨p, _, rfl, h, hn, k⟩
end

structure Wd where
  P : Program
  w : World
  K : PySem.W.Frag
  mg : Str → Option Value
  base : Heap
abbrev Wd.of (X : Cx) : Wd := ⟨X.prog, X.w, X.K, X.mg, X.base⟩
/-- the object at f, called with values, keeps the promise -/
abbrev FnG (g : Wd) (k : Nat) (f : Addr) (sp : Sp) : Prop := FnR g.P g.w g.K g.mg g.base (L2.CX g.P g.w) k f sp
/-- the address of what the module's name x holds; of the method m of the class x -/
def gad (K : PySem.W.Frag) (x : Str) : Addr := match PySem.W.nsIn K mainGlobals x with
  | some (some (.ref a)) => a
  | _ => 0
def mad (K : PySem.W.Frag) (C : Addr) (m : Str) : Addr := match PySem.W.findIn K (.ref C) m with
  | some (some (.ref a)) => a
  | _ => 0
/-- the module's name x is the object at its address -/
structure Gf (g : Wd) (x : Str) : Prop where
  mg : g.mg x = some (.ref (gad g.K x))
  kp : PySem.W.keepIn g.K (.ref (gad g.K x)) = true

section
variable {X : Cx} {W : WX} {j : Nat} {x m : Str} {p pos apos : Pos} {e o : Expr} {es : List Expr} {ta : TE} {t : TA}
theorem run_fnR {CX : CXT} {k : Nat} {f : Addr} {sp : Sp} {E : XK} {Q : VK} {us : List Value} {vs : List V} {pins : List (Addr × Obj)} {σ : St} {H : Hp} {s : Shared} (F : FnR X.prog X.w X.K X.mg X.base CX k f sp) (hr : Room k X.A) (hx : PassesAt CX X σ E) (I : Inv X pins σ H s) (r : Vals vs us) (h : sp vs H Q E) :
    wpAny (model X.prog X.w) X.A (call (.ref f) us) (EP X pins σ Q) X.xe s := by
  refine wpAny_call (codeAny_mono (F X.A X.stack s H us vs Q E hr I.env0 r h) fun r s' hq => ?_)
  cases r with
  | error e => exact hx pins H s e s' I hq
  | ok fl =>
    cases fl with
    | ret u => exact I.after hq
    | next => exact False.elim hq
    | brk => exact False.elim hq
    | cont => exact False.elim hq
/-- a call of the object at f, by the promise that the reader brings -/
inductive CallP (g : Wd) (j : Nat) (f : Addr) (vs : List V) (H : Hp) (Q : VK) (E : XK) : Prop where
  | by {k : Nat} {sp : Sp} (c : FnG g k f sp) (hk : k ≤ j) (h : sp vs H Q E)
def cCall (g : Wd) (j : Nat) (W : WX) (f : Addr) (t : TA) : TE := fun σ H Q => t σ H fun vs H1 => CallP g j f vs H1 Q (fun cls d H' => W cls d σ H')
theorem run_callP {f : Addr} {E : XK} {Q : VK} {us : List Value} {vs : List V} {pins : List (Addr × Obj)} {σ : St} {H : Hp} {s : Shared} (hr : Room j X.A) (hx : PassesAt (L2.CX X.prog X.w) X σ E) (I : Inv X pins σ H s) (r : Vals vs us) (h : CallP (.of X) j f vs H Q E) :
    wpAny (model X.prog X.w) X.A (call (.ref f) us) (EP X pins σ Q) X.xe s := by
  obtain ⟨c, hk, h⟩ := h
  exact run_fnR c (hr.mono hk) hx I r h
theorem pe_cCall (tk : Takes X W) (hr : Room j X.A) (hf : Gf (.of X) x) (hg : Gl X x) (ha : PA X (e :: es) t) (hdb : (x == ("__debug__" : Str)) = false := by decide) (he : starEach (e :: es) X.env = (false, eval e X.env) :: starEach es X.env := by rfl)
    (hpl : (backTo pos (starEach es X.env)).any (·.1) = false := by rfl) : PE X (.Call (.Name x p) (e :: es) [] pos) (cCall (.of X) j W (gad X.K x) t) := by
  refine ⟨fun pins s σ H Q I h => ?_⟩
  refine wpAny_Call_Name_kw (ld_glob I hg hf.mg ?_ hdb)
  refine PySem.W.callWith_K (h₀ := X.base) I.ok.mod.kin hf.kp (thn (ha.run pos pins s σ H _ I h) fun us s1 ⟨vs, H1, I1, r, q⟩ => ⟨I1.kIn, ?_⟩) he hpl
  exact run_callP hr (passAt tk σ) I1 r q
theorem pe_cCall0 (tk : Takes X W) (hr : Room j X.A) (hf : Gf (.of X) x) (hg : Gl X x) (hdb : (x == ("__debug__" : Str)) = false := by decide) : PE X (.Call (.Name x p) [] [] pos) (cCall (.of X) j W (gad X.K x) tNil) := by
  refine ⟨fun pins s σ H Q I h => ?_⟩
  refine wpAny_Call_Name_kw (ld_glob I hg hf.mg ?_ hdb)
  exact PySem.W.callWith_K0 I.kIn hf.kp (run_callP (us := []) hr (passAt tk σ) I .nil h)
/-- o.m(..): the receiver -/
inductive MethP (g : Wd) (m : Str) (x : V) (H : Hp) (R : Addr → Addr → Prop) : Prop where
  | own {a C dx f : Addr} {fs : List (Str × V)} (e : x = .ref a) (h : H a = some (.ins C dx fs)) (c : Cls g.K C) (hm : Meth g.K C m f) (l : fs.lookup m = none) (k : R a f)
def cMeth (g : Wd) (j : Nat) (W : WX) (m : Str) (ta : TE) (t : TA) : TE := fun σ H Q => ta σ H fun x H1 => MethP g m x H1 fun a f => t σ H1 fun vs H2 => CallP g j f (.ref a :: vs) H2 Q (fun cls d H' => W cls d σ H')
theorem pe_cMeth {pl : Sem Bool} (tk : Takes X W) (hr : Room j X.A) (he : PE X o ta) (ha : PA X (e :: es) t)
    (hst : starEach (e :: es) X.env = (false, eval e X.env) :: starEach es X.env := by rfl) (hpl : (backTo pos (starEach es X.env)).any (·.1) = false := by rfl)
    (ht : eval (.Call (.Attribute o m apos) (e :: es) [] pos) X.env = (do
      let ov ← eval o X.env
      standAt apos.atName
      let (f, first) ← holding [ov] (getMethod ov m pl)
      callWith pos f first (backTo pos (starEach (e :: es) X.env)) (backToKw pos (keywordEach [] X.env))) := by rfl) :
    PE X (.Call (.Attribute o m apos) (e :: es) [] pos) (cMeth (.of X) j W m ta t) := by
  refine ⟨fun pins s σ H Q I h => ?_⟩
  refine PySem.W.methodCall_KW (pl := pl) (thn (he.run pins s σ H _ I h) fun u s1 ⟨x, H1, I1, rx, q⟩ => ?_) ht
  obtain ⟨ex, ea, c, hm, l, q⟩ := q
  rename_i a C dx f fs
  subst ex
  obtain rfl : u = Value.ref a := rx
  refine getmeth_ok I1 ea c hm l ?_
  refine PySem.W.callWith_K (first := [.ref a]) (h₀ := X.base) I.ok.mod.kin hm.kp (thn (ha.run pos pins s1 σ H1 _ I1 q) fun us s2 ⟨vs, H2, I2, r, q2⟩ => ⟨I2.kIn, ?_⟩) hst hpl
  exact run_callP (us := .ref a :: us) (vs := .ref a :: vs) hr (passAt tk σ) I2 (.cons rfl r) q2
theorem pe_cMeth0 {pl : Sem Bool} (tk : Takes X W) (hr : Room j X.A) (he : PE X o ta)
    (ht : eval (.Call (.Attribute o m apos) [] [] pos) X.env = (do
      let ov ← eval o X.env
      standAt apos.atName
      let (f, first) ← holding [ov] (getMethod ov m pl)
      callWith pos f first (backTo pos (starEach [] X.env)) (backToKw pos (keywordEach [] X.env))) := by rfl) :
    PE X (.Call (.Attribute o m apos) [] [] pos) (cMeth (.of X) j W m ta tNil) := by
  refine ⟨fun pins s σ H Q I h => ?_⟩
  refine PySem.W.methodCall_KW (pl := pl) (thn (he.run pins s σ H _ I h) fun u s1 ⟨x, H1, I1, rx, q⟩ => ?_) ht
  obtain ⟨ex, ea, c, hm, l, q⟩ := q
  rename_i a C dx f fs
  subst ex
  obtain rfl : u = Value.ref a := rx
  refine getmeth_ok I1 ea c hm l ?_
  exact PySem.W.callWith_K0 (first := [.ref a]) I1.kIn hm.kp (run_callP (us := [.ref a]) (vs := [.ref a]) hr (passAt tk σ) I1 (.cons rfl .nil) q)
/-- o.f: a field -/
inductive FldP (K : PySem.W.Frag) (f : Str) (x : V) (H : Hp) (Q : VK) : Prop where
  | by {a C dx : Addr} {fs : List (Str × V)} {v : V} (e : x = .ref a) (h : H a = some (.ins C dx fs)) (c : Cls K C) (n : NoAttr K C f) (l : fs.lookup f = some v) (k : Q v H)
def cFld (K : PySem.W.Frag) (ta : TE) (f : Str) : TE := fun σ H Q => ta σ H fun x H1 => FldP K f x H1 Q
theorem pe_cFld {f : Str} (he : PE X e ta) (hb : attributeBase e f X.env (eval e X.env) = eval e X.env := by rfl) : PE X (.Attribute e f pos) (cFld X.K ta f) := by
  refine ⟨fun pins s σ H Q I h => ?_⟩
  refine attr_of hb (thn (he.run pins s σ H _ I h) fun u s1 ⟨x, H1, I1, rx, q⟩ => ?_)
  obtain ⟨ex, ea, c, n, l, q⟩ := q
  rename_i a C dx fs v
  subst ex
  obtain rfl : u = Value.ref a := rx
  exact getattr_ok I1 ea c n l fun u' s2 I2 ru => ⟨v, H1, I2, ru, q⟩
/-- o.f = v -/
inductive SetP (K : PySem.W.Frag) (f : Str) (x y : V) (H : Hp) (Q : Hp → Prop) : Prop where
  | by {a C dx : Addr} {fs : List (Str × V)} (e : x = .ref a) (h : H a = some (.ins C dx fs)) (c : Cls K C) (n : NoAttr K C f) (l : fs.length < 1000) (k : Q (upd H a (.ins C dx (putF f y fs))))
def cSetF (K : PySem.W.Frag) (ta tv : TE) (f : Str) : TS := fun D σ H => tv σ H fun y H1 => ta σ H1 fun x H2 => SetP K f x y H2 fun H3 => D.nx σ H3
theorem ps_cSetF {f : Str} {value : Expr} {tv : TE} {pos' : Pos} (ha : PE X o ta) (hv : PE X value tv) (hs : swapsWith value (some (.Attribute o f pos')) pos.line X.env = pure false := by rfl) : PS X (.Assign [.Attribute o f pos'] value pos) (cSetF X.K ta tv f) := by
  refine ⟨fun pins s σ H D I h => ?_⟩
  refine plainObj_wpAny_Assign_Attribute (thn (hv.run pins s σ H _ I h) fun u s1 ⟨y, H1, I1, ry, q⟩ => thn (ha.run pins s1 σ H1 _ I1 q) fun ov s2 ⟨x, H2, I2, rx, q2⟩ => ?_) hs
  obtain ⟨ex, ea, c, n, l, q2⟩ := q2
  rename_i a C dx fs
  subst ex
  obtain rfl : ov = Value.ref a := rx
  exact setattr_ok I2 ea c n l ry fun s3 I3 => ⟨σ, _, I3, q2⟩
/-- o.f, a property: its getter lets nothing out -/
inductive PropP (g : Wd) (j : Nat) (f : Str) (x : V) (H : Hp) (Q : VK) : Prop where
  | by {a C dx p gt : Addr} {fs : List (Str × V)} {k : Nat} {sp : Sp} (e : x = .ref a) (h : H a = some (.ins C dx fs)) (c : Cls g.K C) (hp : PropOf g.K C f p gt) (F : FnG g k gt sp) (hk : k ≤ j) (q : sp [.ref a] H Q E0)
def cProp (g : Wd) (j : Nat) (ta : TE) (f : Str) : TE := fun σ H Q => ta σ H fun x H1 => PropP g j f x H1 Q
theorem pe_cProp {f : Str} (hr : Room (j + 1) X.A) (he : PE X e ta) (hb : attributeBase e f X.env (eval e X.env) = eval e X.env := by rfl) : PE X (.Attribute e f pos) (cProp (.of X) j ta f) := by
  refine ⟨fun pins s σ H Q I h => ?_⟩
  refine attr_of hb (thn (he.run pins s σ H _ I h) fun u s1 ⟨x, H1, I1, rx, q⟩ => ?_)
  obtain ⟨ex, ea, c, hp, F, hk, q⟩ := q
  rename_i a C dx p gt fs k sp
  subst ex
  obtain rfl : u = Value.ref a := rx
  obtain ⟨mA, O, _, _, _, _⟩ := ins_get I1.hok ea
  obtain ⟨od, J, _⟩ := O.look
  obtain ⟨rest, hrec⟩ := hp.rec_
  have I2 := I1.tok (s1.toks + 1)
  have hc : (PySem.W.clsIn X.K C).isSome = true := by
    obtain ⟨cd, hc, _⟩ := PySem.W.any_some c.hd
    rw [hc]
    rfl
  refine PySem.W.get_bind I1.kIn J (PySem.W.plainGet_of (c.get f)).1 (PySem.W.findObj_data hc hp.at_ hp.get hp.tak) (PySem.W.plainGet_of (c.get f)).2 (wpAny_call (PySem.W.prop_get (s := { s1 with toks := s1.toks + 1 }) I1.kIn hrec ?_))
  refine codeAny_mono (F X.A.in1 X.stack { s1 with toks := s1.toks + 1 } H1 [.ref a] [.ref a] Q E0 (hr.mono (Nat.succ_le_succ hk)).in1 I2.env0.in1 (.cons rfl .nil) q) fun r s' hq => ?_
  cases r with
  | error er => exact False.elim (passL (X := X) pins σ H1 { s1 with toks := s1.toks + 1 } er s' I2 hq |> fun z => by
      obtain ⟨_, _, _, _, _, _, _, _, _, _, _, _, z⟩ := hq
      exact z)
  | ok fl =>
    cases fl with
    | ret u =>
      obtain ⟨v, H', I3, rv, q3⟩ := I2.after hq
      show wpAny _ _ (handedOut u) _ _ _
      rw [PySem.W.handedOut_of (handed_of rv)]
      exact wpAny_pure ⟨v, H', I3, rv, q3⟩
    | next => exact False.elim hq
    | brk => exact False.elim hq
    | cont => exact False.elim hq
end
end Cy
namespace Cy
open PySem PySem.Spec PyProof.Rows L2
section
variable {prog : Program} {w : World} {A : Around} {E : Value → Shared → Prop} {s : Shared} {l : Addr} {its : List Value} {ns : List Int} {Q : Value → Shared → Prop}
theorem ltS {a b : Nat} (h : b = a ∨ b < a) : b < a + 1 := by omega
theorem sum_tup (hh : A.handled = none) (hl : s.heap.IsTuple l its.toArray) (hi : IntsAre its ns)
    (h : ∀ h' tk t', (∀ b o, s.heap.get? b = some o → h'.get? b = some o) → Q (.int ns.sum t') { s with heap := h', toks := tk }) : wpAny (model prog w) A (call (.builtin "sum") [.ref l]) Q E s := by
  obtain ⟨xs, e⟩ := hi.allInts.items
  have hn : numsOf (intItems xs).toList = ns := by rw [← e]; exact hi.numsOf
  rw [nums_intItems] at hn
  rw [e] at hl
  have hlt : l < s.heap.objs.size := by obtain ⟨_, e, _⟩ := hl; exact Heap.lt_size e
  refine call_sum_walkG (wpAny_pyIter_tuple hl ?_)
  refine ⟨_, _, _, _, _, _, numAt xs, rfl, Walks.tuple (A := A.in1) hh _ l (Nat.ne_of_lt hlt) (intItems xs), ⟨⟨_, Heap.get?_push_size _ rfl, rfl, rfl⟩, hl.push _⟩, ?_, (fun _ _ => intItems_at), fun h' tk t' hk => ?_⟩
  · intro b hb
    show b < (s.heap.push _).objs.size
    rw [Heap.size_push]
    rcases List.mem_cons.mp hb with rfl | hb
    · exact ltS (.inl rfl)
    · rcases List.mem_cons.mp hb with rfl | hb
      · exact ltS (.inr hlt)
      · cases hb
  · have q := h h' tk t' (fun b o e => by
      refine hk b o (fun hm => ?_) (Heap.get?_push_of_some _ e)
      rcases List.mem_cons.mp hm with e1 | hm
      · exact absurd (e1 ▸ Heap.lt_size e) (Nat.lt_irrefl _)
      · cases hm)
    rw [preSum_eq, List.take_of_length_le (by simp [intItems]), hn]
    exact q
end
section
variable {X : Cx} {j : Nat}
/-- sum of ints -/
inductive SumP (K : PySem.W.Frag) (p : Addr) (H : Hp) (Q : VK) : Prop where
  | l {ns : List Int} (h : SqL K H p (ns.map V.int)) (k : Q (.int ns.sum) H)
  | t {ns : List Int} (h : SqT K H p (ns.map V.int)) (k : Q (.int ns.sum) H)
def cSum (K : PySem.W.Frag) : List V → Hp → VK → Prop := fun xs H Q => match xs with
  | [.ref p] => SumP K p H Q
  | _ => False
theorem call_cSum (hc : X.calm = true) : CallR X (.builtin "sum") (cSum X.K) := by
  intro pins s σ H xs us Q I r h
  match xs, r, h with
  | [.ref p], r, h =>
    have h : SumP X.K p H Q := h
    cases h with
    | l h k => exact cr_sum hc pins s σ H _ us Q I r ⟨p, _, rfl, h, k⟩
    | t h k =>
      obtain ⟨its, rv, hl, _⟩ := I.tuple h
      rw [Vals.ref1 r]
      refine sum_tup (I.ok.hd hc) (show s.heap.IsTuple p its.toArray from hl) rv.ints fun h' tk t' hk => ⟨.int _, H, I.kept hk, ⟨_, rfl⟩, k⟩

theorem cr1 {f : Value} {r : List V → Hp → VK → Prop} (h : CallR X f r) : CallR X f r := h
/-- len -/
inductive LenP (g : Wd) (j : Nat) (p : Addr) (H : Hp) (Q : VK) : Prop where
  | l {xs : List V} (h : SqL g.K H p xs) (k : Q (.int xs.length) H)
  | t {xs : List V} (h : SqT g.K H p xs) (k : Q (.int xs.length) H)
  | own {C dx f : Addr} {fs : List (Str × V)} {k : Nat} {sp : Sp} (h : H p = some (.ins C dx fs)) (hs : PySem.W.findIn g.K (.ref C) "__len__" = some (some (.ref f))) (hf : PySem.W.isFn g.K (.ref f) = true) (F : FnG g k f sp) (hk : k ≤ j)
      (q : sp [.ref p] H (fun v H' => ∃ n : Int, v = .int n ∧ 0 ≤ n ∧ n < 2 ^ 63 ∧ Q (.int n) H') E0)
def cLen (g : Wd) (j : Nat) : List V → Hp → VK → Prop := fun xs H Q => match xs with
  | [.str y] => y.length ≤ sizeLine ∧ Q (.int y.length) H
  | [.ref p] => LenP g j p H Q
  | _ => False
theorem call_cLen (hr : Room (j + 1) X.A) : CallR X (.builtin "len") (cLen (.of X) j) := by
  intro pins s σ H xs us Q I r h
  match xs, r, h with
  | [.str y], r, h => exact call_len pins s σ H _ us Q I r ⟨_, _, rfl, ⟨h.1, rfl⟩, h.2⟩
  | [.ref p], r, h =>
    have h : LenP (.of X) j p H Q := h
    cases h with
    | l h k => exact call_len pins s σ H _ us Q I r ⟨_, _, rfl, .inl ⟨_, h, rfl⟩, k⟩
    | t h k => exact call_len pins s σ H _ us Q I r ⟨_, _, rfl, .inr ⟨_, h, rfl⟩, k⟩
    | @own C dx f fs k sp h hs hf F hk q =>
      rw [Vals.ref1 r]
      obtain ⟨mA, O, _, _, _, _⟩ := ins_get I.hok h
      obtain ⟨od, J, _⟩ := O.look
      obtain ⟨m, Fm⟩ := I.fr
      refine PySem.W.len_K Fm I.ok.mod.kin J hs hf (wpAny_call (codeAny_mono (F X.A.in1 X.stack s H [.ref p] [.ref p] _ E0 (hr.mono (Nat.succ_le_succ hk)).in1 I.env0.in1 (.cons rfl .nil) q) fun r s' hq => ?_))
      cases r with
      | error er =>
        obtain ⟨_, _, _, _, _, _, _, _, _, _, _, _, z⟩ := hq
        exact z.elim
      | ok fl =>
        cases fl with
        | ret u =>
          obtain ⟨v, H', I3, rv, n, ev, n1, n2, q3⟩ := I.after hq
          subst ev
          obtain ⟨t, rfl⟩ := rv
          exact ⟨⟨n1, n2⟩, ⟨.int n, H', I3.tok _, ⟨_, rfl⟩, q3⟩⟩
        | next => exact False.elim hq
        | brk => exact False.elim hq
        | cont => exact False.elim hq
/-- int -/
def cInt : List V → Hp → VK → Prop := fun xs H Q => match xs with
  | [.int i] => Q (.int i) H
  | [.bl k] => Q (.int (if k then 1 else 0)) H
  | [.str a] => ∃ n, PySem.intText? a = some n ∧ a.length ≤ 640 ∧ Q (.int n) H
  | _ => False
theorem call_cInt : CallR X (.type "int") cInt := by
  intro pins s σ H xs us Q I r h
  match xs, r, h with
  | [.int i], r, h => exact call_int1 pins s σ H _ us Q I r (.inl ⟨_, rfl, h⟩)
  | [.bl i], r, h => exact call_int1 pins s σ H _ us Q I r (.inr ⟨_, rfl, h⟩)
  | [.str a], r, h =>
    obtain ⟨n, h1, h2, h3⟩ : ∃ n, PySem.intText? a = some n ∧ a.length ≤ 640 ∧ Q (.int n) H := h
    exact call_int_str pins s σ H _ us Q I r ⟨a, n, rfl, h1, h2, h3⟩
/-- str -/
def cStr : List V → Hp → VK → Prop := fun xs H Q => match xs with
  | [.int i] => i.natAbs.log2 < 1920 ∧ Q (.str (toString i)) H
  | _ => False
theorem call_cStr : CallR X (.type "str") cStr := by
  intro pins s σ H xs us Q I r h
  match xs, r, h with
  | [.int i], r, h => exact call_str_int pins s σ H _ us Q I r ⟨_, rfl, h.1, h.2⟩
def cAbs : List V → Hp → VK → Prop := fun xs H Q => match xs with
  | [.int i] => Q (.int (if i < 0 then -i else i)) H
  | _ => False
theorem call_cAbs : CallR X (.builtin "abs") cAbs := by
  intro pins s σ H xs us Q I r h
  match xs, r, h with
  | [.int i], r, h => exact call_abs pins s σ H _ us Q I r ⟨_, rfl, h⟩
/-- the least, the greatest of a list -/
inductive MnP (K : PySem.W.Frag) (p : Addr) (H : Hp) (Q : VK) : Prop where
  | l {ns : List Int} (h : SqL K H p (ns.map V.int)) (hn : 0 < ns.length) (k : ∀ m, m ∈ ns → (∀ y, y ∈ ns → m ≤ y) → Q (.int m) H)
inductive MxP (K : PySem.W.Frag) (p : Addr) (H : Hp) (Q : VK) : Prop where
  | l {ns : List Int} (h : SqL K H p (ns.map V.int)) (hn : 0 < ns.length) (k : ∀ m, m ∈ ns → (∀ y, y ∈ ns → y ≤ m) → Q (.int m) H)
def cMin (K : PySem.W.Frag) : List V → Hp → VK → Prop := fun xs H Q => match xs with
  | [.int i, .int j] => Q (.int (min i j)) H
  | [.ref p] => MnP K p H Q
  | _ => False
def cMax (K : PySem.W.Frag) : List V → Hp → VK → Prop := fun xs H Q => match xs with
  | [.int i, .int j] => Q (.int (max i j)) H
  | [.ref p] => MxP K p H Q
  | _ => False
theorem call_cMin (hc : X.calm = true) : CallR X (.builtin "min") (cMin X.K) := by
  intro pins s σ H xs us Q I r h
  match xs, r, h with
  | [.int i, .int k], r, h =>
    refine call_min2 hc pins s σ H _ us Q I r ⟨_, _, rfl, ?_⟩
    have e : (if k < i then k else i) = min i k := by split <;> omega
    rw [e]; exact h
  | [.ref p], r, h =>
    obtain ⟨h, hn, k⟩ : MnP X.K p H Q := h
    exact cr_min hc pins s σ H _ us Q I r ⟨p, _, rfl, h, hn, k⟩
theorem call_cMax (hc : X.calm = true) : CallR X (.builtin "max") (cMax X.K) := by
  intro pins s σ H xs us Q I r h
  match xs, r, h with
  | [.int i, .int k], r, h =>
    refine call_max2 hc pins s σ H _ us Q I r ⟨_, _, rfl, ?_⟩
    have e : (if k > i then k else i) = max i k := by split <;> omega
    rw [e]; exact h
  | [.ref p], r, h =>
    obtain ⟨h, hn, k⟩ : MxP X.K p H Q := h
    exact cr_max hc pins s σ H _ us Q I r ⟨p, _, rfl, h, hn, k⟩
/-- list(..), tuple(..) -/
inductive LstP (K : PySem.W.Frag) (p : Addr) (H : Hp) (Q : VK) : Prop where
  | l {xs : List V} (h : SqL K H p xs) (k : ∀ r, H r = none → Q (.ref r) (upd H r (.lst xs)))
  | t {xs : List V} (h : SqT K H p xs) (k : ∀ r, H r = none → Q (.ref r) (upd H r (.lst xs)))
inductive TupP (K : PySem.W.Frag) (p : Addr) (H : Hp) (Q : VK) : Prop where
  | l {xs : List V} (h : SqL K H p xs) (k : ∀ r, H r = none → Q (.ref r) (upd H r (.tup xs)))
  | t {xs : List V} (h : SqT K H p xs) (k : Q (.ref p) H)
def cList (K : PySem.W.Frag) : List V → Hp → VK → Prop := fun xs H Q => match xs with
  | [.ref p] => LstP K p H Q
  | _ => False
def cTuple (K : PySem.W.Frag) : List V → Hp → VK → Prop := fun xs H Q => match xs with
  | [.ref p] => TupP K p H Q
  | _ => False
theorem call_cList : CallR X (.type "list") (cList X.K) := by
  intro pins s σ H xs us Q I r h
  match xs, r, h with
  | [.ref p], r, h =>
    have h : LstP X.K p H Q := h
    cases h with
    | l h k => exact call_list_of pins s σ H _ us Q I r ⟨p, _, rfl, .inl h, k⟩
    | t h k => exact call_list_of pins s σ H _ us Q I r ⟨p, _, rfl, .inr h, k⟩
theorem call_cTuple : CallR X (.type "tuple") (cTuple X.K) := by
  intro pins s σ H xs us Q I r h
  match xs, r, h with
  | [.ref p], r, h =>
    have h : TupP X.K p H Q := h
    cases h with
    | l h k => exact call_tuple_of pins s σ H _ us Q I r ⟨p, _, rfl, .inl ⟨h, k⟩⟩
    | t h k => exact call_tuple_of pins s σ H _ us Q I r ⟨p, _, rfl, .inr ⟨h, k⟩⟩
/-- all(list of bools) -/
inductive AllP (K : PySem.W.Frag) (p : Addr) (H : Hp) (Q : VK) : Prop where
  | l {bs : List Bool} (h : SqL K H p (bs.map V.bl)) (k : Q (.bl (bs.all id)) H)
def cAll (K : PySem.W.Frag) : List V → Hp → VK → Prop := fun xs H Q => match xs with
  | [.ref p] => AllP K p H Q
  | _ => False
theorem call_cAll (hc : X.calm = true) : CallR X (.builtin "all") (cAll X.K) := by
  intro pins s σ H xs us Q I r h
  match xs, r, h with
  | [.ref p], r, h =>
    obtain ⟨h, k⟩ : AllP X.K p H Q := h
    exact cr_all hc pins s σ H _ us Q I r ⟨p, _, rfl, h, k⟩
def cDivmod : List V → Hp → VK → Prop := fun xs H Q => match xs with
  | [.int i, .int j] => CDiv i j ∧ ∀ p, H p = none → Q (.ref p) (upd H p (.tup [.int (i / j), .int (i % j)]))
  | _ => False
theorem call_cDivmod : CallR X (.builtin "divmod") cDivmod := by
  intro pins s σ H xs us Q I r h
  match xs, r, h with
  | [.int i, .int j], r, h => exact call_divmod pins s σ H _ us Q I r ⟨_, _, rfl, h.1, h.2⟩
/-- isinstance: scalars by their types, objects as told -/
def scTy : V → Option String
  | .int _ => some "int"
  | .bl _ => some "bool"
  | .str _ => some "str"
  | .non => some "NoneType"
  | _ => none
theorem scTy_of {K : PySem.W.Frag} {H : Hp} {x : V} {n : String} (h : scTy x = some n) : TyOf K H x (.type n) := by
  cases x <;> first
    | (cases h; first | exact .int _ | exact .bl _ | exact .str _ | exact .non)
    | cases h
inductive IsiP (K : PySem.W.Frag) (x c : V) (H : Hp) (Q : VK) : Prop where
  | sc {n m : String} {b : Bool} (hx : scTy x = some n) (hc : c = .ty m) (hb : kitB n m = some b) (k : Q (.bl b) H)
  | own {C D : Addr} {b : Bool} (ty : TyX K H x (.ref D)) (hc : c = .ref C) (hb : PySem.W.kitOne K (.ref D) (.ref C) = some b) (k : Q (.bl b) H)
  | scOwn {n : String} {C : Addr} {b : Bool} (hx : scTy x = some n) (hc : c = .ref C) (hb : PySem.W.kitOne K (.type n) (.ref C) = some b) (k : Q (.bl b) H)
def cIsi (K : PySem.W.Frag) : List V → Hp → VK → Prop := fun xs H Q => match xs with
  | [x, c] => IsiP K x c H Q
  | _ => False
theorem call_cIsi : CallR X (.builtin "isinstance") (cIsi X.K) := by
  intro pins s σ H xs us Q I r h
  match xs, r, h with
  | [x, c], r, h =>
    have h : IsiP X.K x c H Q := h
    cases h with
    | sc hx hc hb k =>
      subst hc
      exact call_isi pins s σ H _ us Q I r ⟨_, _, _, _, _, rfl, .ty _, .base (scTy_of hx), kit_ty hb, k⟩
    | own ty hc hb k =>
      subst hc
      exact call_isi pins s σ H _ us Q I r ⟨_, _, _, _, _, rfl, .own _, ty, hb, k⟩
    | scOwn hx hc hb k =>
      subst hc
      exact call_isi pins s σ H _ us Q I r ⟨_, _, _, _, _, rfl, .own _, .base (scTy_of hx), hb, k⟩
end
end Cy
namespace Cy
open PySem PySem.Spec PyProof.Rows L2
section
variable {X : Cx} {o e : Expr} {es : List Expr} {to : TE} {t : TA} {name : Str} {apos cpos : Pos} {id : String} {r : Str → List V → Hp → VK → Prop}
def cStrM0 (r : Str → List V → Hp → VK → Prop) (to : TE) : TE := fun σ H Q => to σ H fun x H1 => match x with
  | .str a => r a [] H1 Q
  | _ => False
def cStrM (r : Str → List V → Hp → VK → Prop) (to : TE) (t : TA) : TE := fun σ H Q => to σ H fun x H1 => match x with
  | .str a => t σ H1 fun xs H2 => r a xs H2 Q
  | _ => False
/-- a method of texts by values -/
def MtS' (X : Cx) (id : String) (r : Str → List V → Hp → VK → Prop) : Prop :=
  ∀ (pins : List (Addr × Obj)) (s : Shared) (σ : St) (H : Hp) (a : Str) (xs : List V) (tk : Tok) (us : List Value) (Q : VK), Inv X pins σ H s → Vals xs us → r a xs H Q →
    wpAny (model X.prog X.w) X.A (call (.builtin id) (.str a tk :: us)) (EP X pins σ Q) X.xe s
theorem MtS'.of {r' : V → List V → Hp → VK → Prop} (h : MtR X id r') (hh : ∀ a xs H Q, r a xs H Q → r' (.str a) xs H Q) : MtS' X id r := fun pins s σ H a xs tk us Q I rx q => h pins s σ H (.str a) xs (.str a tk) us Q I (show RelV (.str a) (.str a tk) from ⟨tk, rfl⟩) rx (hh _ _ _ _ q)
theorem pe_sm0 (slot : Slot "str" name id) (hty : typeOf (.builtin id) = pure (.type "method_descriptor")) (hm : MtS' X id r) (ho : PE X o to)
    (hbase : attributeBase o name X.env (eval o X.env) = eval o X.env := by rfl) (hline : (apos.endLine == cpos.line) = true := by rfl) : PE X (.Call (.Attribute o name apos) [] [] cpos) (cStrM0 r to) := by
  refine ⟨fun pins s σ H Q I h => ?_⟩
  refine wpAny_Call_method0_late hbase hline (thn (ho.run pins s σ H _ I h) fun v s1 ⟨x, H1, I1, r1, q1⟩ => ?_)
  cases x <;> first
    | exact (show False from q1).elim
    | skip
  rename_i a
  obtain ⟨h1, h2⟩ := tyV_is (T := "str") I1 r1 rfl
  obtain ⟨tk, rfl⟩ := r1
  exact ⟨"str", id, PySem.F.plainAttrs_str, slot, hty, h1, h2, Calls.callWith_builtin rfl (PySem.evalArgs_none (hm pins s1 σ H1 a [] tk [] Q I1 .nil q1))⟩
theorem pe_sm (slot : Slot "str" name id) (hty : typeOf (.builtin id) = pure (.type "method_descriptor")) (hm : MtS' X id r) (ho : PE X o to) (ha : PA X (e :: es) t)
    (hbase : attributeBase o name X.env (eval o X.env) = eval o X.env := by rfl)
    (hfew : ((backTo cpos (starEach (e :: es) X.env)).all (fun x => !x.1) && (backToKw cpos (keywordEach [] X.env)).all (fun x => x.1.isSome)
      && decide ((e :: es).length + ([] : List Keyword).length + (if ([] : List Keyword).isEmpty then 0 else 1) < 30)) = true := by rfl)
    (hline : (apos.endLine == cpos.line) = true := by rfl) (hs : starEach (e :: es) X.env = (false, eval e X.env) :: starEach es X.env := by rfl) (hplain : (backTo cpos (starEach es X.env)).any (·.1) = false := by rfl) :
    PE X (.Call (.Attribute o name apos) (e :: es) [] cpos) (cStrM r to t) := by
  refine ⟨fun pins s σ H Q I h => ?_⟩
  refine wpAny_Call_method_late hbase hfew hline rfl (thn (ho.run pins s σ H _ I h) fun v s1 ⟨x, H1, I1, r1, q1⟩ => ?_)
  cases x <;> first
    | exact (show False from q1).elim
    | skip
  rename_i a
  obtain ⟨h1, h2⟩ := tyV_is (T := "str") I1 r1 rfl
  obtain ⟨tk, rfl⟩ := r1
  refine ⟨"str", id, PySem.F.plainAttrs_str, slot, hty, h1, h2, ?_⟩
  have hA := ha.run cpos pins s1 σ H1 _ I1 q1
  rw [hs] at hA ⊢
  refine Calls.callWith_builtin (by show (false || (backTo cpos (starEach es X.env)).any (·.1)) = false; rw [hplain] <;> rfl) (Calls.evalArgs_plain ?_)
  exact thn hA fun us s2 ⟨vs, H2, I2, r2, q2⟩ => hm pins s2 σ H2 a vs tk us Q I2 r2 q2
/-- the shapes -/
def sS (C : Str → Str → Prop) (g : Str → Str → V) : Str → List V → Hp → VK → Prop := fun a xs H Q => match xs with
  | [.str b] => C a b ∧ Q (g a b) H
  | _ => False
def sS0 (g : Str → Str → V) : Str → List V → Hp → VK → Prop := fun a xs H Q => match xs with
  | [.str b] => Q (g a b) H
  | _ => False
def sN (C : Str → Prop) (g : Str → V) : Str → List V → Hp → VK → Prop := fun a xs H Q => match xs with
  | [] => C a ∧ Q (g a) H
  | _ => False
abbrev mStartswith := sS0 fun a b => .bl (Txt.startswith a b)
abbrev mCount := sS0 fun a b => .int (Txt.count a b)
abbrev mStrip := sS (fun a _ => a.length ≤ sizeLine) fun a b => .str (Txt.stripChars a b)
abbrev mLstrip := sS (fun a _ => a.length ≤ sizeLine) fun a b => .str (Txt.lstripChars a b)
theorem m_startswith : MtS' X "str.startswith" mStartswith := .of mt_startswith fun a xs H Q h => by
  match xs, h with
  | [.str b], h => exact ⟨a, b, rfl, rfl, h⟩
theorem m_count : MtS' X "str.count" mCount := .of mt_count fun a xs H Q h => by
  match xs, h with
  | [.str b], h => exact ⟨a, b, rfl, rfl, h⟩
theorem m_strip : MtS' X "str.strip" mStrip := .of mt_stripChars fun a xs H Q h => by
  match xs, h with
  | [.str b], h => exact ⟨a, b, rfl, rfl, h.1, h.2⟩
theorem m_lstrip : MtS' X "str.lstrip" mLstrip := .of mt_lstripChars fun a xs H Q h => by
  match xs, h with
  | [.str b], h => exact ⟨a, b, rfl, rfl, h.1, h.2⟩
def mSplit : Str → List V → Hp → VK → Prop := fun a xs H Q => match xs with
  | [.str b] => (b.length == 0) = false ∧ a.length + 2 ≤ sizeLine ∧ ∀ p, H p = none → Q (.ref p) (upd H p (.lst ((Txt.split a b).map V.str)))
  | _ => False
theorem m_split : MtS' X "str.split" mSplit := .of mt_split fun a xs H Q h => by
  match xs, h with
  | [.str b], h => exact ⟨a, b, rfl, rfl, h.1, h.2.1, h.2.2⟩
inductive JoinP (K : PySem.W.Frag) (a : Str) (p : Addr) (H : Hp) (Q : VK) : Prop where
  | l {ys : List Str} (h : SqL K H p (ys.map V.str)) (hl : (Txt.join a ys).length ≤ 16777216) (k : Q (.str (Txt.join a ys)) H)
def mZfill : Str → List V → Hp → VK → Prop := fun a xs H Q => match xs with
  | [.int i] => PadOk i = true ∧ Q (.str (Txt.zfill a i)) H
  | _ => False
theorem m_zfill : MtS' X "str.zfill" mZfill := .of mt_zfill fun a xs H Q h => by
  match xs, h with
  | [.int i], h => exact ⟨a, i, rfl, rfl, h.1, h.2⟩
def mUpper : Str → List V → Hp → VK → Prop := sN (fun a => a.length ≤ 5592405) fun a => .str (Txt.upper a)
theorem m_upper : MtS' X "str.upper" mUpper := .of mt_upper fun a xs H Q h => by
  match xs, h with
  | [], h => exact ⟨a, rfl, rfl, h.1, h.2⟩
end
section
variable {X : Cx} {o e : Expr} {es : List Expr} {to : TE} {t : TA}
inductive AppP (p : Addr) (y : V) (H : Hp) (Q : VK) : Prop where
  | by {xs : List V} (h : H p = some (.lst xs)) (hl : xs.length < sizeLine) (k : Q .non (upd H p (.lst (xs ++ [y]))))
inductive IsLst (K : PySem.W.Frag) (x : V) (H : Hp) (R : Addr → Prop) : Prop where
  | by {p : Addr} {xs : List V} (e : x = .ref p) (h : SqL K H p xs) (k : R p)
def cApp (K : PySem.W.Frag) (to : TE) (t : TA) : TE := fun σ H Q => to σ H fun x H1 => IsLst K x H1 fun p => t σ H1 fun ys H2 => match ys with
  | [y] => AppP p y H2 Q
  | _ => False
theorem pe_cApp {apos cpos : Pos} (ho : PE X o to) (ha : PA X [e] t)
    (hbase : attributeBase o "append" X.env (eval o X.env) = eval o X.env := by rfl)
    (hfew : ((backTo cpos (starEach [e] X.env)).all (fun x => !x.1) && (backToKw cpos (keywordEach [] X.env)).all (fun x => x.1.isSome)
      && decide ([e].length + ([] : List Keyword).length + (if ([] : List Keyword).isEmpty then 0 else 1) < 30)) = true := by rfl)
    (hline : (apos.endLine == cpos.line) = true := by rfl) (hs : starEach [e] X.env = (false, eval e X.env) :: starEach [] X.env := by rfl) (hplain : (backTo cpos (starEach [] X.env)).any (·.1) = false := by rfl) :
    PE X (.Call (.Attribute o "append" apos) [e] [] cpos) (cApp X.K to t) := by
  refine ⟨fun pins s σ H Q I h => ?_⟩
  refine wpAny_Call_method_late hbase hfew hline rfl (thn (ho.run pins s σ H _ I h) fun v s1 ⟨x, H1, I1, r1, q1⟩ => ?_)
  obtain ⟨ex, hx, q1⟩ := q1
  rename_i p xs
  subst ex
  obtain ⟨h1, h2⟩ := tyV_is (T := "list") I1 r1 (.inl ⟨rfl, _, hx⟩)
  refine ⟨"list", "list.append", PySem.F.plainAttrs_list, PySem.F.slot_list_append, PySem.F.type_list_append, h1, h2, ?_⟩
  have hA := ha.run cpos pins s1 σ H1 _ I1 q1
  rw [hs] at hA ⊢
  refine Calls.callWith_builtin (by show (false || (backTo cpos (starEach [] X.env)).any (·.1)) = false; rw [hplain] <;> rfl) (Calls.evalArgs_plain ?_)
  refine thn hA fun us s2 ⟨vs, H2, I2, r2, q2⟩ => ?_
  match vs, r2, q2 with
  | [y], r2, q2 =>
    obtain ⟨h, hl, k⟩ : AppP p y H2 Q := q2
    exact mt_append pins s2 σ H2 _ _ v us Q I2 r1 r2 ⟨p, _, y, rfl, rfl, h, hl, k⟩
end
section
inductive StIx (p : Addr) (k : Int) (v : V) (H : Hp) (Q : Hp → Prop) : Prop where
  | by {xs : List V} {j : Nat} (h : H p = some (.lst xs)) (hj : ixN xs.length k = some j) (q : Q (upd H p (.lst (xs.set j v))))
def cSetIx : V → V → V → Hp → (Hp → Prop) → Prop := fun o i v H Q => match o with
  | .ref p => (match i with
    | .int k => StIx p k v H Q
    | _ => False)
  | _ => False
variable {X : Cx}
theorem set_c : PSet X cSetIx := by
  intro pins s σ H x y v ov iv u Q I rx ry rv h
  cases x <;> first
    | exact (show False from h).elim
    | skip
  cases y <;> first
    | exact (show False from h).elim
    | skip
  obtain ⟨h, hj, q⟩ : StIx _ _ v H Q := h
  exact set_list pins s σ H _ _ v ov iv u Q I rx ry rv ⟨_, _, _, _, rfl, rfl, h, hj, q⟩
end
section
variable {X : Cx} {j : Nat}
/-- p + q by the class's own __add__ -/
inductive OwAdd (g : Wd) (j : Nat) (p q : Addr) (H : Hp) (Q : VK) : Prop where
  | by {C dx dx' f : Addr} {fs fs' : List (Str × V)} {k : Nat} {sp : Sp} (h : H p = some (.ins C dx fs)) (h' : H q = some (.ins C dx' fs')) (hc : PySem.W.selfFirst g.K C = true)
      (hs : PySem.W.findIn g.K (.ref C) (PySem.dunder Operator.Add.info.2) = some (some (.ref f))) (hf : PySem.W.isFn g.K (.ref f) = true) (F : FnG g k f sp) (hk : k ≤ j) (q : sp [.ref p, .ref q] H Q E0)
theorem owAdd_ok (hr : Room j X.A) : OwOk X (OwAdd (.of X) j) := by
  intro pins s σ H x y v u Q I rx ry h
  obtain ⟨p, q, rfl, rfl, h⟩ := h
  obtain ⟨h, h', hc, hs, hf, F, hk, q⟩ := h
  rename_i C dx dx' f fs fs' k sp
  cases rx
  cases ry
  obtain ⟨mA, O, _, _, _, _⟩ := ins_get I.hok h
  obtain ⟨od, J, _⟩ := O.look
  obtain ⟨mA', O', _, _, _, _⟩ := ins_get I.hok h'
  obtain ⟨od', J', _⟩ := O'.look
  obtain ⟨m, Fm⟩ := I.fr
  refine PySem.W.binop_K Fm I.ok.mod.kin J J'.type hc hs hf (wpAny_call (codeAny_mono (F X.A X.stack s H [.ref p, .ref _] [.ref p, .ref _] _ E0 (hr.mono hk) I.env0 (.cons rfl (.cons rfl .nil)) q) fun r s' hq => ?_))
  cases r with
  | error er =>
    obtain ⟨_, _, _, _, _, _, _, _, _, _, _, _, z⟩ := hq
    exact z.elim
  | ok fl =>
    cases fl with
    | ret u =>
      obtain ⟨v, H', I3, rv, q3⟩ := I.after hq
      have z : EP X pins σ Q u s' := ⟨v, H', I3, rv, q3⟩
      cases v with
      | non => cases rv; exact z
      | bl _ => cases rv; exact z
      | int _ => obtain ⟨t, rfl⟩ := rv; exact z
      | str _ => obtain ⟨t, rfl⟩ := rv; exact z
      | byt _ => obtain ⟨t, rfl⟩ := rv; exact z
      | flt _ => obtain ⟨t, rfl⟩ := rv; exact z
      | ref _ => cases rv; exact z
      | ty _ => cases rv; exact z
    | next => exact False.elim hq
    | brk => exact False.elim hq
    | cont => exact False.elim hq
end
section
variable {X : Cx} {W : WX} {j : Nat} {x : Str} {p pos : Pos} {e : Expr} {es : List Expr} {t : TA}
/-- C(..): __init__'s promise at the new instance -/
inductive MakeP (g : Wd) (j : Nat) (C : Addr) (vs : List V) (H : Hp) (Q : VK) (E : XK) : Prop where
  | by {f : Addr} {k : Nat} {sp : Sp} (M : Mk g.K C f) (F : FnG g k f sp) (hk : k + 1 ≤ j) (h : ∀ x dx, H x = none → H dx = none → dx ≠ x → sp (.ref x :: vs) (upd (upd H dx (.own x)) x (.ins C dx [])) (fun v H2 => v = .non ∧ Q (.ref x) H2) E)
def cMake (g : Wd) (j : Nat) (W : WX) (C : Addr) (t : TA) : TE := fun σ H Q => t σ H fun vs H1 => MakeP g j C vs H1 Q (fun cls d H' => W cls d σ H')
theorem run_makeP {C : Addr} {E : XK} {pins : List (Addr × Obj)} {σ : St} {H : Hp} {s : Shared} {Q : VK} {us : List Value} {vs : List V} (hr : Room j X.A) (hx : PassesAt (L2.CX X.prog X.w) X σ E) (I : Inv X pins σ H s) (r : Vals vs us) (h : MakeP (.of X) j C vs H Q E) :
    wpAny (model X.prog X.w) X.A (call (.ref C) us) (EP X pins σ Q) X.xe s := by
  obtain ⟨M, F, hk, h⟩ := h
  have hq := h (s.heap.objs.size + 1) s.heap.objs.size (I.hok.fresh (Nat.le_succ _)) (I.hok.fresh (Nat.le_refl _)) (Nat.ne_of_lt (Nat.lt_succ_self _))
  have I2 := Inv.made (C := C) I
  refine wpAny_call (make_map I.kIn M.makes M.init (beq_iff_eq.mp M.fn) (codeAny_mono (F _ X.stack _ _ (Value.ref (s.heap.objs.size + 1) :: us) (V.ref (s.heap.objs.size + 1) :: vs) _ E ((hr.mono hk).make C us [])
    (I2.env0.make C us []) (.cons rfl r) hq) fun r s' hq' => ?_))
  cases r with
  | error e => exact hx pins _ _ e s' I2 hq'
  | ok fl =>
    cases fl with
    | ret u =>
      obtain ⟨v, H', I3, rv, ev, q3⟩ := I2.after hq'
      subst ev
      exact ⟨rv, ⟨V.ref (s.heap.objs.size + 1), H', I3, rfl, q3⟩⟩
    | next => exact False.elim hq'
    | brk => exact False.elim hq'
    | cont => exact False.elim hq'
theorem pe_cMake (tk : Takes X W) (hr : Room j X.A) (hf : Gf (.of X) x) (hg : Gl X x) (ha : PA X (e :: es) t) (hdb : (x == ("__debug__" : Str)) = false := by decide) (he : starEach (e :: es) X.env = (false, eval e X.env) :: starEach es X.env := by rfl)
    (hpl : (backTo pos (starEach es X.env)).any (·.1) = false := by rfl) : PE X (.Call (.Name x p) (e :: es) [] pos) (cMake (.of X) j W (gad X.K x) t) := by
  refine ⟨fun pins s σ H Q I h => ?_⟩
  refine wpAny_Call_Name_kw (ld_glob I hg hf.mg ?_ hdb)
  refine PySem.W.callWith_K (h₀ := X.base) I.ok.mod.kin hf.kp (thn (ha.run pos pins s σ H _ I h) fun us s1 ⟨vs, H1, I1, r, q⟩ => ⟨I1.kIn, ?_⟩) he hpl
  exact run_makeP hr (passAt tk σ) I1 r q
theorem pe_cMake0 (tk : Takes X W) (hr : Room j X.A) (hf : Gf (.of X) x) (hg : Gl X x) (hdb : (x == ("__debug__" : Str)) = false := by decide) : PE X (.Call (.Name x p) [] [] pos) (cMake (.of X) j W (gad X.K x) tNil) := by
  refine ⟨fun pins s σ H Q I h => ?_⟩
  refine wpAny_Call_Name_kw (ld_glob I hg hf.mg ?_ hdb)
  exact PySem.W.callWith_K0 I.kIn hf.kp (run_makeP (us := []) hr (passAt tk σ) I .nil h)
/-- C(*e): what is spread -/
inductive StarP (g : Wd) (y : V) (H : Hp) (R : List V → Prop) : Prop where
  | t {a : Addr} {xs : List V} (e : y = .ref a) (h : SqT g.K H a xs) (k : R xs)
  | l {a : Addr} {xs : List V} (e : y = .ref a) (h : SqL g.K H a xs) (k : R xs)
def cMakeS (g : Wd) (j : Nat) (W : WX) (C : Addr) (te : TE) : TE := fun σ H Q => te σ H fun y H1 => StarP g y H1 fun xs => MakeP g j C xs H1 Q (fun cls d H' => W cls d σ H')
theorem pe_cMakeS {te : TE} {sp_ : Pos} (tk : Takes X W) (hr : Room j X.A) (hf : Gf (.of X) x) (hg : Gl X x) (he : PE X e te) (hdb : (x == ("__debug__" : Str)) = false := by decide)
    (hst : starEach [.Starred e sp_] X.env = [(true, eval e X.env)] := by rfl) : PE X (.Call (.Name x p) [.Starred e sp_] [] pos) (cMakeS (.of X) j W (gad X.K x) te) := by
  refine ⟨fun pins s σ H Q I h => ?_⟩
  refine wpAny_Call_Name_kw (ld_glob I hg hf.mg ?_ hdb)
  refine PySem.W.callWith_S (h₀ := X.base) I.ok.mod.kin hf.kp (thn (he.run pins s σ H _ I h) fun v s1 ⟨y, H1, I1, ry, q⟩ => ?_) hst
  cases q with
  | t ey hxs q =>
    subst ey
    obtain rfl : v = Value.ref _ := ry
    exact StX.star_any I1 (.inl hxs) fun us s2 I2 rv => ⟨I2.kIn, run_makeP hr (passAt tk σ) I2 rv q⟩
  | l ey hxs q =>
    subst ey
    obtain rfl : v = Value.ref _ := ry
    exact StX.star_any I1 (.inr hxs) fun us s2 I2 rv => ⟨I2.kIn, run_makeP hr (passAt tk σ) I2 rv q⟩
end
end Cy
namespace Cy
open PySem PySem.Spec PyProof.Rows L2
open PySem.W (fnX envX ksFn ksEnv ks_superObj kxs_mw KxsAt)
section
variable {prog : Program} {w : World} {A : Around} {E : Value → Shared → Prop} {h : Heap} {g : Array GenState} {d : Drawn} {t : Nat} {os : OsState}
variable {nm q : Str} {C N : Addr} {bs bm : List Value} {hdct : Bool} {sn : List Str} {sub : List Value} {ab : Bool} {col : Option Bool} {dd : Option Addr} {k0 k1 k2 k3 k5 : Option Value}
theorem call_bwV {u e t0 : Addr} {rest : List Value} {Q : Value → Shared → Prop} (hbm : HandSPX.refsVE bm = true)
    (hC : h.get? C = some (excClassObj nm q C N bs bm hdct sn sub ab col dd k0 k1 k2 k3 k5 "ValueError.__new__")) (he : h.get? e = some (HandSPX.excO C t0)) (hu : h.get? u = some (kxs_mw "ValueError.__init__" e)) (hrest : rest.length ≤ sizeLine)
    (hq : ∀ h' t1, (∀ b o, b ≠ e → h.get? b = some o → h'.get? b = some o) → h'.get? e = some (HandSPX.excO C t1) → Q .none ⟨h', g, d, t, os⟩) :
    wpAny (model prog w) A (call (.ref u) rest) Q E ⟨h, g, d, t, os⟩ := by
  refine wpAny_call (codeAny_of_tree ?_)
  show wpAny _ A.in1 (callAny (.ref u) ⟨rest, []⟩) _ _ _
  simp only [callAny]
  refine wpAny_bind (wpAny_load hu ?_)
  simp only [kxs_mw, show (Value.type "method-wrapper" == Value.type "method" || Value.type "method-wrapper" == Value.type "builtin_function_or_method" || Value.type "method-wrapper" == Value.type "method-wrapper") = true by decide, if_true]
  refine W.KFB.if_so (by decide) ?_
  refine wpAny_bind (PySem.W.check_bound_init F.excBase_ValueError.toExcCallFacts hC he rfl ?_)
  refine wpAny_bind (wpAny_pure (wpAny_pure ?_))
  refine ⟨Code.quiet_builtin _ (by decide +kernel), codeAny_builtin F.excBase_ValueError.initEntry ?_⟩
  rw [Around.under_plainId F.excBase_ValueError.init.plain _]
  wp_walk
  refine hq _ h.objs.size (fun b o hb ho => ?_) ?_
  · rw [Heap.get?_update_other _ _ (Ne.symm hb)]
    exact Heap.get?_push_of_some _ ho
  · rw [Heap.get?_update_self _ (Heap.get?_push_of_some _ he) rfl]
    rfl
end
/-- the context of such an __init__ -/
def cxS (CX : CXT) (P : Program) (w : World) (K : PySem.W.Frag) (mg : Str → Option Value) (base : Heap) (N : List Str) (qual : Str) (scope : Scope) (f : Addr) (cd : Value) (cc : Addr) (A : Around) (outer : List Env) (s : Shared) (H : Hp) (E : XK) : Cx :=
  { cxOf CX P w K mg base N qual scope f cd A outer s H E with
    A := A.deeper (ksEnv qual scope s.heap.objs.size f cd cc)
    env := ksEnv qual scope s.heap.objs.size f cd cc
    stack := ksEnv qual scope s.heap.objs.size f cd cc :: outer
    fn := fun _ => false
    xe := fun e s' => wpAny (model P w) (A.deeper (ksEnv qual scope s.heap.objs.size f cd cc)) (leaving (ksEnv qual scope s.heap.objs.size f cd cc) e) (fun _ s'' => CX outer H s E e s'') (fun e' s'' => CX outer H s E e' s'') s' }
/-- its scope -/
def supScope (fld : Str) : Scope := { kind := .function, names := [(PySem.Str.ofString "self", .local), (fld, .local), (PySem.Str.ofString "__class__", .free), (PySem.Str.ofString "super", .globalImplicit)], isGenerator := false, isCoroutine := false, more := [] }
def supParams (fld : Str) (q1 q2 : Pos) : Arguments := { posonlyargs := [], args := [{ arg := "self", annotation := none, pos := q1 }, { arg := fld, annotation := none, pos := q2 }], vararg := none, kwonlyargs := [], kw_defaults := [], kwarg := none, defaults := [] }
/-- what the written part says of such an __init__ (at f, of the class at C) -/
structure SupD (P : Program) (K : PySem.W.Frag) (C f : Addr) (name qual : Str) (params : Arguments) (body : List Stmt) (scope : Scope) (cc : Addr) (cdv : Value) : Prop where
  fn : ∃ oc od kV doc pm an ct osl, K.lookup f = some ⟨oc, od, .func (ksFn name qual params body scope .none kV doc pm an cdv ct cc), osl⟩
  code : PySem.W.codeIn K cdv qual = true
  rec_ : ∃ cda ccl cdd vs ccs file tf, cdv = .ref cda ∧ K.lookup cda = some ⟨ccl, cdd, .fields vs, ccs⟩ ∧ vs[2]? = some (.str file tf) ∧ ((P.main.file : Str) == file) = true
  cell : ∃ cl cld csl, K.lookup cc = some ⟨cl, cld, .cell (some (.ref C)), csl⟩
  sup : PySem.W.nsIn K mainGlobals "super" = some none
  opq : PySem.W.nsIn K cStatics "thirdparty.any" = some none
  mro : PySem.W.mroIn K C (.ref C) = some true
  along : PySem.W.ks_superIn K C C "__init__" = some (some (.builtin "ValueError.__init__"))
  subV : PySem.W.subIn K (.ref C) (.type "ValueError") = some true
  top : (P.main.scope.names.lookup ("super" : Str)).isSome = false
structure FldN (fld : Str) : Prop where
  n1 : fld ≠ "self"
  n2 : fld ≠ "__class__"
  n3 : fld ≠ "super"
/-- the exception's promise: self a new exception, v its field; its dict is new -/
def spSup (C : Addr) (fld : Str) (ok : V → Prop) : Sp := fun vs H Q _ => ∃ (a : Addr) (v : V), vs = [.ref a, v] ∧ H a = some (exo a C none) ∧ ok v ∧ ∀ dx, H dx = none → dx ≠ a → Q .non (upd (upd H dx (exd dx [(fld, v)])) a (exo a C (some dx)))
theorem lk_one {β : Type} {y k : Str} {c c0 : β} (h : List.lookup y [(k, c0)] = some c) : y = k ∧ c0 = c := by
  by_cases e : y = k
  · subst e
    simp [List.lookup] at h
    exact ⟨rfl, h⟩
  · have b : (y == k) = false := by simpa using e
    simp [List.lookup, b] at h
theorem sup_fn {P : Program} {w : World} {K : PySem.W.Frag} {mg : Str → Option Value} {base : Heap} {C f cc : Addr} {name qual fld : Str} {cdv : Value} {je : Expr} {tj : TE} {q1 q2 p0 p1 p2 p3 p4 p5 p6 p7 p8 : Pos} {k : Nat} {ok : V → Prop}
    (S : SupD P K C f name qual (supParams fld q1 q2) [.Expr (.Call (.Attribute (.Call (.Name "super" p0) [] [] p1) "__init__" p2) [je] [] p3) p4, .Assign [.Attribute (.Name "self" p5) fld p6] (.Name fld p7) p8] (supScope fld) cc cdv) (T : OexC K C) (hno : PySem.W.findIn K (.ref C) fld = some none) (hf : FldN fld)
    (hb0 : ∀ (body : List Stmt) (kV doc pm : Value) (an : Option Addr) (cdv ct : Value) (cc : Addr) (x y : Value), bindArgs (ksFn name qual (supParams fld q1 q2) body (supScope fld) .none kV doc pm an cdv ct cc) ⟨[x, y], []⟩ = pure [(("self" : Str), x), (fld, y)])
    (hse : ∀ env : Env, starEach [je] env = (false, eval je env) :: starEach [] env)
    (hev : ∀ (L : Addr), ∃ pl : Sem Bool, eval (.Call (.Attribute (.Call (.Name "super" p0) [] [] p1) "__init__" p2) [je] [] p3) (ksEnv qual (supScope fld) L f cdv cc) = (do
        let ov ← attributeBase (.Call (.Name "super" p0) [] [] p1) "__init__" (ksEnv qual (supScope fld) L f cdv cc) (eval (.Call (.Name "super" p0) [] [] p1) (ksEnv qual (supScope fld) L f cdv cc))
        standAt p2.atName
        let (f', first) ← holding [ov] (getMethod ov "__init__" pl)
        callWith p3 f' first (backTo p3 (starEach [je] (ksEnv qual (supScope fld) L f cdv cc))) []))
    (hsw : ∀ L : Addr, swapsWith (.Call (.Attribute (.Call (.Name "super" p0) [] [] p1) "__init__" p2) [je] [] p3) none p4.line (ksEnv qual (supScope fld) L f cdv cc) = pure false)
    (hsw2 : ∀ L : Addr, swapsWith (.Name fld p7) (some (.Attribute (.Name "self" p5) fld p6)) p8.line (ksEnv qual (supScope fld) L f cdv cc) = pure false)
    (hd : (fld == ("__debug__" : Str)) = false) (hcd : (fld == ("__classdict__" : Str)) = false)
    (hj : ∀ (A : Around) (outer : List Env) (s : Shared) (H : Hp) (E : XK), PE (cxS (L2.CX P w) P w K mg base ["self", fld] qual (supScope fld) f cdv cc A outer s H E) je tj)
    (htj : ∀ (a v : V) (H : Hp) (Q : VK), ok v → (∀ z : Str, Q (.str z) H) → tj [some a, some v] H Q) :
    FnG ⟨P, w, K, mg, base⟩ (k + 1) f (spSup C fld ok) := by
  intro A outer s H us vs Q E hr e0 r hsp
  obtain ⟨a, v, rfl, ha, okv, kq⟩ := hsp
  obtain ⟨u1, u, rfl, ru1, ru⟩ := vals2 r
  obtain rfl : u1 = Value.ref a := ru1
  obtain ⟨oc, od, kV, doc, pm, an, ct, osl, lk⟩ := S.fn
  have KX : K.In s.heap := e0.mod.kin.keeps fun b o e => (e0.bs b o e).1
  have lim : s.heap.NoLimit := e0.mod.nolimit.keeps fun b o e => (e0.bs b o e).1
  have n1 : (fld == ("self" : Str)) = false := by simpa using hf.n1
  have n2 : (fld == ("__class__" : Str)) = false := by simpa using hf.n2
  have n3 : (fld == ("super" : Str)) = false := by simpa using hf.n3
  have ls : (supScope fld).names.lookup ("self" : Str) = some .local := rfl
  have lf : (supScope fld).names.lookup fld = some .local := by
    show List.lookup fld [(PySem.Str.ofString "self", NameKind.local), (fld, .local), (PySem.Str.ofString "__class__", .free), (PySem.Str.ofString "super", .globalImplicit)] = _
    simp [List.lookup, n1]
  have m2 : (("__class__" : Str) == fld) = false := by simpa using fun z => hf.n2 z.symm
  have m3 : (("super" : Str) == fld) = false := by simpa using fun z => hf.n3 z.symm
  have lc : (supScope fld).names.lookup ("__class__" : Str) = some .free := by
    show List.lookup ("__class__" : Str) [(PySem.Str.ofString "self", NameKind.local), (fld, .local), (PySem.Str.ofString "__class__", .free), (PySem.Str.ofString "super", .globalImplicit)] = _
    have e : (("__class__" : Str) == PySem.Str.ofString "self") = false := by decide +kernel
    simp only [List.lookup, e, m2]
    rfl
  have lp : (supScope fld).names.lookup ("super" : Str) = some .globalImplicit := by
    show List.lookup ("super" : Str) [(PySem.Str.ofString "self", NameKind.local), (fld, .local), (PySem.Str.ofString "__class__", .free), (PySem.Str.ofString "super", .globalImplicit)] = _
    have e : (("super" : Str) == PySem.Str.ofString "self") = false := by decide +kernel
    have e2 : (("super" : Str) == PySem.Str.ofString "__class__") = false := by decide +kernel
    simp only [List.lookup, e, m3, e2]
    rfl
  have free1 : ∀ x k, (supScope fld).names.lookup x = some k → (k = .cell ∨ k = .free) → x = ("__class__" : Str) := by
    intro x k hx hk
    by_cases e1 : x = PySem.Str.ofString "self"
    · subst e1; rw [show (supScope fld).names.lookup (PySem.Str.ofString "self") = some .local from ls] at hx; cases hx; rcases hk with h | h <;> cases h
    by_cases e2 : x = fld
    · subst e2; rw [lf] at hx; cases hx; rcases hk with h | h <;> cases h
    by_cases e3 : x = PySem.Str.ofString "__class__"
    · exact e3
    by_cases e4 : x = PySem.Str.ofString "super"
    · subst e4; rw [show (supScope fld).names.lookup (PySem.Str.ofString "super") = some .globalImplicit from lp] at hx; cases hx; rcases hk with h | h <;> cases h
    · have z : (supScope fld).names.lookup x = none := by
        show List.lookup x [(PySem.Str.ofString "self", NameKind.local), (fld, .local), (PySem.Str.ofString "__class__", .free), (PySem.Str.ofString "super", .globalImplicit)] = none
        have b1 : (x == PySem.Str.ofString "self") = false := by simpa using e1
        have b2 : (x == fld) = false := by simpa using e2
        have b3 : (x == PySem.Str.ofString "__class__") = false := by simpa using e3
        have b4 : (x == PySem.Str.ofString "super") = false := by simpa using e4
        simp [List.lookup, b1, b2, b3, b4]
      rw [z] at hx; cases hx
  have bnd : ∀ z : Str, (([(("self" : Str), Value.ref a), (fld, u)] : List (Str × Value)).reverse.lookup z) = if z = fld then some u else if z = "self" then some (.ref a) else none := by
    intro z
    show (([(fld, u), (("self" : Str), Value.ref a)] : List (Str × Value)).lookup z) = _
    by_cases h1 : z = fld
    · subst h1; simp [List.lookup]
    · have e1 : (z == fld) = false := by simpa using h1
      by_cases h2 : z = ("self" : Str)
      · subst h2; simp [List.lookup, e1, h1]
      · have e2 : (z == ("self" : Str)) = false := by simpa using h2
        simp [List.lookup, e1, e2, h1, h2]
  refine ks_codeAny_call_defAt (fd := ksFn name qual (supParams fld q1 q2) _ (supScope fld) .none kV doc pm an cdv ct cc) (binds := [("self", .ref a), (fld, u)]) hr.depth (KX _ _ lk) rfl lim (PySem.W.codeRec_of KX S.code) rfl ?hb ?hc ?hl ?h rfl rfl rfl
  case hb => exact BindsTo.of_eq (hb0 _ _ _ _ _ _ _ _ _ _)
  case hc =>
    intro x hx
    simp only [supScope, List.mem_cons, List.not_mem_nil, or_false] at hx
    rcases hx with rfl | rfl | rfl | rfl <;> exact fun z => nomatch z
  case hl =>
    intro x hx
    simp only [List.mem_cons, List.not_mem_nil, or_false] at hx
    rcases hx with rfl | rfl
    · exact ls
    · exact lf
  case h =>
    intro h0 hns hk
    let X : Cx := cxS (L2.CX P w) P w K mg base ["self", fld] qual (supScope fld) f cdv cc A outer s H E
    have hcc : ∃ o, K.lookup cc = some o ∧ o.data = .cell (some (.ref C)) := by
      obtain ⟨cl, cld, csl, e⟩ := S.cell
      exact ⟨_, e, rfl⟩
    obtain ⟨occ, ecc, dcc⟩ := hcc
    have bcc : base.get? cc = some occ := e0.mod.kin _ _ ecc
    have hL : s.heap.objs.size ≤ s.heap.objs.size := Nat.le_refl _
    have noA : ∀ b : Addr, b ∉ X.ex := fun b z => absurd (show b ∈ ([] : List Addr) from z) (by simp)
    have I : L2.Inv X [] [some (.ref a), some v] H { s with heap := h0, toks := s.toks + 2 } := by
      refine ⟨⟨e0.mod, rfl, rfl, rfl, Nat.le_refl _, fun y z c h1 h2 => ?_, fun y hy => ?_, fun y c q h => (nomatch q), fun _ => hr.hd, Around.frames_deeper e0.frames, .inr ⟨rfl, rfl⟩, fun b z => absurd z (noA b), e0.bs, e0.bsz, fun b _ _ => noA b, fun b z => absurd z (noA b), e0.funs, e0.frf⟩,
        rfl, e0.bare, Un.kept hk, ⟨_, hns, fun i y v' h1 h2 h3 => ?_⟩, fun y c h => ?_, e0.hok.fresh (Nat.le_refl _), fun y c h => ?_, fun p hp => absurd (show p ∈ ([] : List (Addr × Obj)) from hp) (by simp), e0.hok.kept hk, rfl⟩
      · exact (lk_one (show List.lookup y [(("__class__" : Str), cc)] = some c from h1)).1.trans (lk_one (show List.lookup z [(("__class__" : Str), cc)] = some c from h2)).1.symm
      · have hy : (supScope fld).names.lookup y = some .cell ∨ (supScope fld).names.lookup y = some .free := hy
        have e : y = ("__class__" : Str) := by
          rcases hy with hy | hy
          · exact free1 y _ hy (.inl rfl)
          · exact free1 y _ hy (.inr rfl)
        subst e
        exact ⟨cc, rfl⟩
      · have hv : (supScope fld).names.lookup y = some .local := by
          rcases h3 with q | q | q
          · exact q
          · have e := free1 y _ q (.inl rfl)
            subst e
            exact absurd (lc.symm.trans q) (by decide)
          · have e := free1 y _ q (.inr rfl)
            subst e
            match i, h1 with
            | 0, h1 => exact absurd (Option.some.inj h1) (by decide +kernel)
            | 1, h1 => exact absurd (Option.some.inj h1) hf.n2
        match i, h1, h2 with
        | 0, h1, h2 =>
          obtain rfl : (PySem.Str.ofString "self") = y := Option.some.inj h1
          obtain rfl : V.ref a = v' := Option.some.inj (Option.some.inj h2)
          refine ⟨.ref a, rfl, .inl ⟨hv, ?_⟩⟩
          exact (bnd "self").trans ((if_neg (fun z => hf.n1 z.symm)).trans (if_pos rfl))
        | 1, h1, h2 =>
          obtain rfl : fld = y := Option.some.inj h1
          obtain rfl : v = v' := Option.some.inj (Option.some.inj h2)
          refine ⟨u, ru, .inl ⟨hv, ?_⟩⟩
          exact (bnd fld).trans (if_pos rfl)
      · obtain ⟨_, rfl⟩ := lk_one (show List.lookup y [(("__class__" : Str), cc)] = some c from h)
        exact ⟨_, occ, hk _ _ (e0.bs _ _ bcc).1, dcc⟩
      · obtain ⟨_, rfl⟩ := lk_one (show List.lookup y [(("__class__" : Str), cc)] = some c from h)
        exact (e0.bs _ _ bcc).2
    obtain ⟨cda, ccl, cdd, vs, ccs, file, tf, rfl, lcd, hvs, hfile⟩ := S.rec_
    have KX0 : K.In h0 := KX.keeps hk
    obtain ⟨cd, hcl⟩ : ∃ cd, PySem.W.clsIn K C = some cd := by
      cases e : PySem.W.clsIn K C with
      | some cd => exact ⟨cd, rfl⟩
      | none =>
        have z := S.along
        unfold PySem.W.ks_superIn at z
        rw [e] at z
        cases z
    obtain ⟨oD, hD0, hDd⟩ : ∃ oD, K.lookup C = some oD ∧ oD.data = .cls cd := by
      have q := hcl
      unfold PySem.W.clsIn at q
      split at q
      · rename_i c d cd' sl ho
        cases q
        exact ⟨_, ho, rfl⟩
      · cases q
    obtain ⟨mb, hbl, hbb⟩ := e0.mod.blt
    obtain ⟨pl, hev⟩ := hev s.heap.objs.size
    refine PySem.ks_wpAt_execs_cons (PySem.ks_wpAt_Expr_any (PySem.ks_wpAt_MethodCall (pl := pl) ?_ hev) rfl (hsw _))
    refine PySem.ks_wpAt_super_base (env := ksEnv qual (supScope fld) s.heap.objs.size f (.ref cda) cc) lp lc (by decide +kernel) rfl (KX0 _ _ lk) rfl rfl rfl (KX0 _ _ lcd) rfl hvs hfile S.top ?_
    refine PySem.W.ks_loadName_global rfl lp (Calls.loadGlobal_builtin (env := ksEnv qual (supScope fld) s.heap.objs.size f (.ref cda) cc) (e0.mod.glob.keeps I.bk) (PySem.W.mg_none_of e0.mod.kin e0.mod.glob S.sup) (hbl.keeps I.bk) ((hbb _ (by decide +kernel)).trans (show bootBuiltins "super" = some (.type "super") by kernel_rfl)) ⟨rfl, ?_⟩)
    refine wpAny_loadName_free rfl lc rfl ⟨_, KX0 _ _ ecc, dcc⟩ ?_
    refine wpAny_loadName_local rfl ls hns ((bnd "self").trans ((if_neg (fun z => hf.n1 z.symm)).trans (if_pos rfl))) ?_
    refine PySem.ks_wpAny_isType_cls (KX0 _ _ hD0) hDd ⟨rfl, ?_⟩
    obtain ⟨t1, hao⟩ := exo_at I.hok ha
    have IA : PySem.W.InstAt h0 a { cls := .ref C, dict := none, data := .fields #[.ref t1, .none, .none, .none, .bool false, .none] } C none := ⟨hao, rfl, rfl, trivial⟩
    refine PySem.ks_wpAny_call_super (KX0 _ _ hD0) hDd hao rfl (fun c e => nomatch e) (PySem.W.looks_mroIn KX0 S.mro) (fun h1 hso k1 => ?_)
    have I1 : L2.Inv X [] [some (.ref a), some v] H { s with heap := h1, toks := s.toks + 2 } := I.kept (t' := s.toks + 2) k1
    have KX1 : K.In h1 := KX0.keeps k1
    have hm : PySem.W.alongIn K "__init__" ((cd.mro.dropWhile (· != .ref C)).drop 1) = some (some (.builtin "ValueError.__init__")) := by
      have z := S.along
      unfold PySem.W.ks_superIn at z
      rw [hcl] at z
      exact z
    have IA1 : PySem.W.InstAt h1 a { cls := .ref C, dict := none, data := .fields #[.ref t1, .none, .none, .none, .bool false, .none] } C none := ⟨k1 _ _ hao, rfl, rfl, trivial⟩
    refine PySem.W.kxs_getMethod PySem.W.kxs_ValueError hso (PySem.W.looks_opaque KX1 S.opq) (l₀ := cd.mro) (fun A Q E s k q => wpAny_bind ((PySem.W.looks_clsIn KX1 hcl) A _ E s k (wpAny_pure q))) rfl KX1 hm (IA1.type.andThen (PySem.W.looks_subIn KX1 S.subV)) (PySem.W.ks_ne KX1 IA1 hcl) (by decide +kernel) ?_
    let mw : Addr × Obj := (h1.objs.size, kxs_mw "ValueError.__init__" a)
    have I2 : L2.Inv X [mw] [some (.ref a), some v] H { s with heap := h1.push (kxs_mw "ValueError.__init__" a), toks := s.toks + 2 + 1 } :=
      ClX.pin_new (s := { s with heap := h1, toks := s.toks + 2 }) I1 (fun b o e => Heap.get?_push_of_some _ e) (Nat.le_refl _) (Heap.get?_push_size _ rfl) (fun v z => nomatch z)
    show wpAny _ _ (callWith p3 (.ref h1.objs.size) [] (backTo p3 (starEach [je] (ksEnv qual (supScope fld) s.heap.objs.size f (.ref cda) cc))) []) _ _ _
    rw [hse]
    refine PySem.W.kxs_callWith (i := "ValueError.__init__") (x := a) rfl (Calls.evalArgs_plain ?_)
    have PA1 : PA X [je] (tCons tj tNil) := pa_cons (hj A outer s H E) pa_nil (hse _)
    have hA := PA1.run p3 [mw] _ [some (.ref a), some v] H (fun vs H' => H' = H ∧ ∃ z : Str, vs = [.str z]) I2 (htj _ _ _ _ okv fun z => ⟨rfl, z, rfl⟩)
    rw [show starEach [je] X.env = (false, eval je X.env) :: starEach [] X.env from hse _] at hA
    refine wpAny_mono hA (fun us3 s3 h3 => ?_) fun _ _ z => z
    obtain ⟨vs3, H3, I3, r3, eH, z, rfl⟩ := h3
    have eH' := eH.symm
    subst eH'
    refine ⟨ClX.pin_at I3, ?_⟩
    have hmw : s3.heap.get? h1.objs.size = some (kxs_mw "ValueError.__init__" a) := ClX.pin_at I3
    have I3' : L2.Inv X [] [some (.ref a), some v] H s3 := ClX.unpin I3
    obtain ⟨nm, q, Nn, bs, bm, sn, sub, ab, col, dd, k0, k1', k2, k3, k5, hC, hbm⟩ := T.cls
    obtain ⟨t3, ha3⟩ := exo_at I3'.hok ha
    obtain ⟨hp3, g3, d3, tk3, os3⟩ := s3
    have hl3 : us3.length ≤ sizeLine := by
      rw [← Paired.length r3, sizeLine_eq]
      exact (by decide : 1 ≤ 16777216)
    refine call_bwV hbm (I3'.kIn _ _ hC) ha3 hmw hl3 (fun h4 t4 k4 hx4 => ?_)
    have J := I3'.write (t' := tk3) (x := a) (e := a) (o := exo a C none) (by rw [ha]; exact True.intro) (.inl rfl) k4 ⟨_, hx4⟩ (exo_ok hx4)
    have eu : upd H a (exo a C none) = H := by
      funext b
      by_cases hb : b = a
      · rw [hb, upd_same, ha]
      · rw [upd_ne hb]
    rw [eu] at J
    refine wpAt_of_wpAny ?_
    have B : PSs X [.Assign [.Attribute (.Name "self" p5) fld p6] (.Name fld p7) p8] (tOst K fld (tVar 0) (tVar 1)) :=
      pss_one (ps_ost (pe_var (i := 0) rfl (.inl ls)) (pe_var (i := 1) rfl (.inl lf) hd hcd) (hsw2 _))
    have R := B.run [] _ [some (.ref a), some v] H { nx := fun _ H' => Q .non H', rt := Q } J ⟨v, rfl, .ref a, rfl, a, C, rfl, T, hno, .inl ⟨ha, fun dx n ne => kq dx n ne⟩⟩
    refine wpAny_mono R (fun fl s' hs => ?_) fun e s' hs => hs
    cases fl with
    | ret u' =>
      obtain ⟨v', σ', H', J', rv, q'⟩ := hs
      exact ⟨v', H', J'.os, J'.bare, J'.base, J'.hok, rv, q'⟩
    | next =>
      obtain ⟨σ', H', J', q'⟩ := hs
      exact ⟨.non, H', J'.os, J'.bare, J'.base, J'.hok, rfl, q'⟩
    | brk =>
      obtain ⟨_, _, _, q'⟩ := hs
      exact False.elim q'
    | cont =>
      obtain ⟨_, _, _, q'⟩ := hs
      exact False.elim q'
end Cy
namespace Cy
open PySem PySem.Spec PyProof.Rows L2
open L2H (RoomH PinOk cxH inv_startH)
section
variable {X : Cx} {W : WX} {j : Nat} {x : Str} {p pos : Pos} {e : Expr} {es : List Expr} {t : TA}
inductive RaisP (g : Wd) (j : Nat) (C : Addr) (vs : List V) (H : Hp) (Q : XK) : Prop where
  | by {f : Addr} {k : Nat} {fld : Str} {ok : V → Prop} {v : V} (T : OexC g.K C) (iC : PySem.W.findIn g.K (.ref C) "__init__" = some (some (.ref f))) (tI : PySem.W.typeIn g.K (.ref f) = some (.type "function"))
      (F : FnG g k f (spSup C fld ok)) (hk : k + 1 ≤ j) (hv : vs = [v]) (okv : ok v) (q : ∀ d, H d = none → Q (.ref C) (some d) (upd H d (.xd [(fld, v)])))
def cRais (g : Wd) (j : Nat) (C : Addr) (t : TA) : St → Hp → XK → Prop := fun σ H Q => t σ H fun vs H1 => RaisP g j C vs H1 Q
theorem pmk_c (hr : Room j X.A) (hf : Gf (.of X) x) (hg : Gl X x) (ha : PA X (e :: es) t) (hdb : (x == ("__debug__" : Str)) = false := by decide) (he : starEach (e :: es) X.env = (false, eval e X.env) :: starEach es X.env := by rfl)
    (hpl : (backTo pos (starEach es X.env)).any (·.1) = false := by rfl) : PMk X (.Call (.Name x p) (e :: es) [] pos) (cRais (.of X) j (gad X.K x) t) := by
  intro pins s σ H Q I h
  refine wpAny_Call_Name_kw (ld_glob I hg hf.mg ?_ hdb)
  refine PySem.W.callWith_K (h₀ := X.base) I.ok.mod.kin hf.kp (thn (ha.run pos pins s σ H _ I h) fun us s1 ⟨vs, H1, I1, r1, q1⟩ => ⟨I1.kIn, ?_⟩) he hpl
  obtain ⟨T, iC, tI, F, hk, hv, okv, q⟩ := q1
  rename_i f k fld ok v
  subst hv
  have Fn := F
  revert T iC tI Fn q
  show ∀ _ _ _ _ _, wpAny _ _ (call (.ref (gad X.K x)) us) _ _ _
  generalize gad X.K x = C
  intro T iC tI q Fn
  clear F
  obtain ⟨nm, qn, N, bs, bm, sn, sub, ab, col, dd, k0, k1, k2, k3, k5, hC, hbm⟩ := T.cls
  obtain ⟨hp, g, dr, tk, os⟩ := s1
  have hsz : hp.objs.size ≤ hp.objs.size + 1 := Nat.le_succ _
  have hn : H1 (hp.objs.size + 1) = none := I1.hok.fresh hsz
  have kk : ∀ b o, hp.get? b = some o → ((hp.push (PySem.W.kdv_tup us)).push (PySem.HandSPX.excO C hp.objs.size)).get? b = some o := fun b o e => Heap.get?_push_of_some _ (Heap.get?_push_of_some _ e)
  have hget : ((hp.push (PySem.W.kdv_tup us)).push (PySem.HandSPX.excO C hp.objs.size)).get? (hp.objs.size + 1) = some (PySem.HandSPX.excO C hp.objs.size) := by heap_get
  have I2 : L2.Inv X pins σ (upd H1 (hp.objs.size + 1) (exo (hp.objs.size + 1) C none)) ⟨(hp.push (PySem.W.kdv_tup us)).push (PySem.HandSPX.excO C hp.objs.size), g, dr, tk, os⟩ :=
    I1.laid (t' := tk) (a := hp.objs.size + 1) (o := exo (hp.objs.size + 1) C none) (h' := (hp.push (PySem.W.kdv_tup us)).push (PySem.HandSPX.excO C hp.objs.size)) kk hsz (exo_ok hget)
  have hus : us.length ≤ sizeLine := by
    rw [← Paired.length r1, sizeLine_eq]
    exact (by decide : 1 ≤ 16777216)
  have r2 : Vals [V.ref (hp.objs.size + 1), v] (Value.ref (hp.objs.size + 1) :: us) := .cons rfl r1
  have hr' : Room (k + 1) X.A := hr.mono hk
  have hq : spSup C fld ok [V.ref (hp.objs.size + 1), v] (upd H1 (hp.objs.size + 1) (exo (hp.objs.size + 1) C none))
      (fun v' H2 => v' = .non ∧ ∃ (d : Addr) (fs : List (Str × V)), H2 (hp.objs.size + 1) = some (exo (hp.objs.size + 1) C (some d)) ∧ H2 d = some (exd d fs) ∧ H1 d = none ∧ Q (.ref C) (some d) (upd (del H2 (hp.objs.size + 1)) d (.xd fs))) (fun _ _ _ => False) := by
    refine ⟨_, _, rfl, upd_same, okv, fun dx hdx ne => ⟨rfl, dx, [(fld, v)], upd_same, ?_, ?_, ?_⟩⟩
    · rw [upd_ne ne, upd_same]
    · rw [upd_ne ne] at hdx; exact hdx
    · have hdx' : H1 dx = none := by rw [upd_ne ne] at hdx; exact hdx
      have e : upd (del (upd (upd (upd H1 (hp.objs.size + 1) (exo (hp.objs.size + 1) C none)) dx (exd dx [(fld, v)])) (hp.objs.size + 1) (exo (hp.objs.size + 1) C (some dx))) (hp.objs.size + 1)) dx (.xd [(fld, v)]) = upd H1 dx (.xd [(fld, v)]) := by
        funext b
        by_cases hb : b = dx
        · subst hb; rw [upd_same, upd_same]
        · rw [upd_ne hb, upd_ne hb]
          by_cases hb2 : b = hp.objs.size + 1
          · subst hb2; rw [del_same, hn]
          · rw [del_ne hb2, upd_ne hb2, upd_ne hb, upd_ne hb2]
      rw [e]
      exact q dx hdx'
  refine wpAny_call (PySem.HandSPX.call_own F.excBase_ValueError (fun Y => PySem.HandSPX.refsVE_contains Y bm hbm) (I1.kIn _ _ hC) (PySem.W.looks_findIn I1.kIn iC) (fun self => PySem.W.bind_fn I1.kIn self tI) hus
    (codeAny_mono (Fn _ X.stack _ _ (Value.ref (hp.objs.size + 1) :: us) _ _ (fun _ _ _ => False) (hr'.make C us []) (I2.env0.make C us []) r2 hq) fun r s' hq' => ?_))
  cases r with
  | error er => exact passL (X := X) pins σ _ _ er s' I2 hq'
  | ok fl =>
    cases fl with
    | ret u =>
      obtain ⟨v', H2, os2, bare2, un2, hok2, rv, ev, d, fs, ea, ed, hd1, q2⟩ := hq'
      subst ev
      obtain ⟨h2, g2, d2, t2, os'⟩ := s'
      exact ⟨rv, mk_end (raises_own T.exC T.tyC) I1 hsz kk un2 hok2 os2 bare2 ea ed hd1 q2⟩
    | next => exact False.elim hq'
    | brk => exact False.elim hq'
    | cont => exact False.elim hq'
def cRaise (t : St → Hp → XK → Prop) (W : WX) : TS := fun _ σ H => t σ H fun cls d H' => W cls d σ H'
theorem ps_cRaise (hc : X.calm = true) (tk : Takes X W) (hr : Room j X.A) (hf : Gf (.of X) x) (hg : Gl X x) (ha : PA X (e :: es) t) {rpos : Pos} (hdb : (x == ("__debug__" : Str)) = false := by decide) (he : starEach (e :: es) X.env = (false, eval e X.env) :: starEach es X.env := by rfl)
    (hpl : (backTo pos (starEach es X.env)).any (·.1) = false := by rfl) : PS X (.Raise (some (.Call (.Name x p) (e :: es) [] pos)) none rpos) (cRaise (cRais (.of X) j (gad X.K x) t) W) :=
  ps_raise hc tk (pmk_c hr hf hg ha hdb he hpl)
end
/-- the promise: the exception, its class, its dict -/
abbrev SpX := Addr → Value → Option Addr → List V → Hp → VK → Prop
def FnP (g : Wd) (k : Nat) (f : Addr) (sp : SpX) : Prop :=
  ∀ (A : Around) (outer : List Env) (s : Shared) (H : Hp) (us : List Value) (vs : List V) (Q : VK) (p : Addr × Obj) (cls : Value) (d : Option Addr), RoomH k A → PinOk outer H s p → Zc cls d p.2 → (∃ fv, p.2.data = .fields fv) → Env0 g.P g.w g.K g.mg g.base A outer s H → Vals vs us →
    sp p.1 cls d vs H Q → codeAny (model g.P g.w) A (.call (.ref f) ⟨us, []⟩) (CR (L2.CX g.P g.w) outer g.P g.w H s Q E0) s
theorem fn_ofP {g : Wd} {k : Nat} {f : Addr} {name qual : Str} {params : Arguments} {body : List Stmt} {scope : Scope} {dV kV doc pm cdv ct oc : Value} {an od : Option Addr}
    {osl : Array (Option Value)} {N ps : List Str} {sp : SpX} (lk : g.K.lookup f = some ⟨oc, od, .func (PySem.W.fnOf name qual params body scope dV kV doc pm an cdv ct), osl⟩) (hcd : PySem.W.codeIn g.K cdv qual = true) (S : FnScope N ps scope)
    (hb : Binds g.K (PySem.W.fnOf name qual params body scope dV kV doc pm an cdv ct) ps []) (len : ∀ a c d vs H Q, sp a c d vs H Q → vs.length = ps.length)
    (hbody : ∀ (A : Around) (outer : List Env) (s : Shared) (H : Hp) (vs : List V) (Q : VK) (p : Addr × Obj) (cls : Value) (d : Option Addr), RoomH k (A.deeper (envOfC qual scope s.heap.objs.size f cdv)) → Zc cls d p.2 → (∃ fv, p.2.data = .fields fv) → sp p.1 cls d vs H Q →
      ∃ t, PSs (cxH (L2.CX g.P g.w) g.P g.w g.K g.mg g.base N qual scope f cdv A outer s H E0 p) body t ∧ t { nx := fun _ H' => Q .non H', rt := Q } (L2.start N vs) H) :
    FnP g (k + 1) f sp := by
  intro A outer s H us vs Q p cls d hr hpin hz hfv e0 r hsp
  have hl := len _ _ _ _ _ _ hsp
  have KX : g.K.In s.heap := e0.mod.kin.keeps fun b o e => (e0.bs b o e).1
  have lim : s.heap.NoLimit := e0.mod.nolimit.keeps fun b o e => (e0.bs b o e).1
  have hkind : ∀ y ∈ ps.zip us, scope.names.lookup y.1 = some .local ∨ (scope.names.lookup y.1 = some .cell ∧ ((cellsFrom (s.heap.objs.size + 1) scope.names []).lookup y.1).isSome = true) := fun ⟨n, v⟩ hy => by
    rcases S.par n (List.of_mem_zip hy).1 with q | q
    · exact .inl q
    · exact .inr ⟨q, PySem.W.cellsFrom_some _ _ _ (.inl q)⟩
  have hlu : us.length = ps.length := by rw [← r.length]; exact hl
  have b := hb s us KX (by rw [List.append_nil]; exact hlu)
  rw [List.append_nil] at b
  refine codeAny_call_function hr.depth (KX _ _ lk) rfl S.co S.gen rfl (PySem.W.codeRec_of KX hcd) (b _ _ _ _ ?_)
  refine wpAny_newFunctionEnv_cells S.kind hkind fun env he s1 x => ?_
  subst he
  refine ⟨lim.keeps x.toInCall.keep, codeAny_func ?_⟩
  obtain ⟨t, ht, hq⟩ := hbody A outer s H vs Q p cls d (hr.deeper _) hz hfv hsp
  have I : Inv (cxH (L2.CX g.P g.w) g.P g.w g.K g.mg g.base N qual scope f cdv A outer s H E0 p) [] (L2.start N vs) H s1 := inv_startH S hpin e0 hl r x
  refine wpAny_mono (ht.run [] s1 (L2.start N vs) H _ I hq) (fun fl s' hs => ?_) fun e s' hs => hs
  have fin : ∀ {σ' : St} {H' : Hp} {v : V} {u : Value}, Inv (cxH (L2.CX g.P g.w) g.P g.w g.K g.mg g.base N qual scope f cdv A outer s H E0 p) [] σ' H' s' → RelV v u → Q v H' → CE outer g.P g.w H s Q u s' :=
    fun {σ' H' v u} J rv q => ⟨v, H', J.os, J.bare, J.base, J.hok, rv, q⟩
  cases fl with
  | ret u =>
    obtain ⟨v, σ', H', J, rv, q⟩ := hs
    exact fin J rv q
  | next =>
    obtain ⟨σ', H', J, q⟩ := hs
    exact fin (v := V.non) (u := Value.none) J rfl q
  | brk =>
    obtain ⟨_, _, _, q⟩ := hs
    exact False.elim q
  | cont =>
    obtain ⟨_, _, _, q⟩ := hs
    exact False.elim q
section
variable {X : Cx} {j : Nat} {x : Str} {pp pos : Pos} {e : Expr} {es : List Expr} {t : TA} {p : Addr × Obj} {cls : Value} {d : Option Addr}
inductive CallX (g : Wd) (j : Nat) (a : Addr) (cls : Value) (d : Option Addr) (f : Addr) (vs : List V) (H : Hp) (Q : VK) : Prop where
  | by {k : Nat} {sp : SpX} (c : FnP g k f sp) (hk : k ≤ j) (h : sp a cls d vs H Q)
def cCallX (g : Wd) (j : Nat) (a : Addr) (cls : Value) (d : Option Addr) (f : Addr) (t : TA) : TE := fun σ H Q => t σ H fun vs H1 => CallX g j a cls d f vs H1 Q
theorem pe_cCallX (hr : RoomH j X.A) (hp : p ∈ X.pn) (hz : Zc cls d p.2) (hfv : ∃ fv, p.2.data = .fields fv) (hf : Gf (.of X) x) (hg : Gl X x) (ha : PA X (e :: es) t) (hdb : (x == ("__debug__" : Str)) = false := by decide) (he : starEach (e :: es) X.env = (false, eval e X.env) :: starEach es X.env := by rfl)
    (hpl : (backTo pos (starEach es X.env)).any (·.1) = false := by rfl) : PE X (.Call (.Name x pp) (e :: es) [] pos) (cCallX (.of X) j p.1 cls d (gad X.K x) t) := by
  refine ⟨fun pins s σ H Q I h => ?_⟩
  refine wpAny_Call_Name_kw (ld_glob I hg hf.mg ?_ hdb)
  refine PySem.W.callWith_K (h₀ := X.base) I.ok.mod.kin hf.kp (thn (ha.run pos pins s σ H _ I h) fun us s1 ⟨vs, H1, I1, r, q⟩ => ⟨I1.kIn, ?_⟩) he hpl
  obtain ⟨c, hk, h⟩ := q
  have P1 := I1.pin p (List.mem_append_left _ hp)
  have hpin : PinOk X.stack H1 s1 p := ⟨P1.1, P1.2.1, fun hm => (List.mem_cons.mp (I1.stkSub p.1 hm)).elim P1.2.2.1 P1.2.2.2.1, P1.2.2.2.2⟩
  refine wpAny_call (codeAny_mono (c X.A X.stack s1 H1 us vs Q p cls d (hr.mono hk) hpin hz hfv I1.env0 r h) fun r s' hq => ?_)
  cases r with
  | error e => exact passL (X := X) pins σ H1 s1 e s' I1 hq
  | ok fl =>
    cases fl with
    | ret u => exact I1.after hq
    | next => exact False.elim hq
    | brk => exact False.elim hq
    | cont => exact False.elim hq
/-- the field n of the exception p -/
inductive XfP (K : PySem.W.Frag) (a : Addr) (cls : Value) (d : Option Addr) (n : Str) (x : V) (H : Hp) (Q : VK) : Prop where
  | by {C dd : Addr} {fs : List (Str × V)} {v : V} (ex : x = .ref a) (ec : cls = .ref C) (T : XfC K C) (hno : PySem.W.findIn K (.ref C) n = some none) (ed : d = some dd) (eh : H dd = some (.xd fs)) (l : fs.lookup n = some v) (k : Q v H)
def cXf (K : PySem.W.Frag) (a : Addr) (cls : Value) (d : Option Addr) (te : TE) (n : Str) : TE := fun σ H Q => te σ H fun x H1 => XfP K a cls d n x H1 Q
theorem pe_cXf {te : TE} {n : Str} (hp : p ∈ X.pn) (hz : Zc cls d p.2) (hfv : ∃ fv, p.2.data = .fields fv) (he : PE X e te) (hb : attributeBase e n X.env (eval e X.env) = eval e X.env := by rfl) : PE X (.Attribute e n pos) (cXf X.K p.1 cls d te n) := by
  refine ⟨fun pins s σ H Q I h => ?_⟩
  refine attr_of hb (thn (he.run pins s σ H _ I h) fun u s1 hh => ?_)
  obtain ⟨x, H1, I1, rx, ex, ec, T, hno, ed, ea, l, q⟩ := hh
  rename_i C dd fs v
  subst ex
  obtain rfl : u = Value.ref p.1 := rx
  subst ec
  subst ed
  obtain ⟨ha, _⟩ := I1.pin p (List.mem_append_left _ hp)
  obtain ⟨vs, hd⟩ := hfv
  have hx : ObjOk X.prog X.w H1 s1.heap dd (.xd fs) := I1.hok dd _ ea
  obtain ⟨mA, hns, hr⟩ := hx
  obtain ⟨od, ho, hl⟩ := lookIn_ns hns
  obtain ⟨u, hu, ru⟩ := RelO.some_of (v := v) (o := mA n) (by rw [← l]; exact hr n)
  have J : PySem.W.InstAt s1.heap p.1 p.2 C (some od) := ⟨ha, hz.1, by unfold PySem.W.notCls; rw [hd] <;> rfl, by rw [hz.2]; exact ho⟩
  exact HandSPX.exc_get I1.kIn J T.ga T.gg T.exC (PySem.W.findObj_own T.hdC hno rfl (by rw [hl, hu])) (handed_of ru) ⟨v, H1, I1.tok _, ru, q⟩
end
section
variable {prog : Program} {w : World} {A : Around} {E : Value → Shared → Prop} {s : Shared} {K : PySem.W.Frag} {x D : Addr} {ox od : Obj}
open PySem.W in
theorem kin_classD {Q : Option Value → Shared → Prop} (C : ExcC K D) (X : K.In s.heap) (I : InstAt s.heap x ox D (some od)) (h : Q (some (.ref D)) { s with toks := s.toks + 1 }) : wpAny (model prog w) A (getAttr? (.ref x) "__class__") Q E s := by
  obtain ⟨hga, hgt, hsub, hdct, ha, hn, htk, hm⟩ := C
  have hf : findObj K D (some od) "__class__" = some (.bind (.builtin "getset_descriptor.__get__") (.builtin "object.__class__")) := findObj_data (by obtain ⟨cd, hc, _⟩ := any_some hdct; rw [hc]; rfl) ha hn htk
  obtain ⟨hp, g, d, t, os⟩ := s
  have L0 := I.type (M := model prog w)
  have L1 := looks_findIn (M := model prog w) X hga
  have L2 := looks_findIn (M := model prog w) X hgt
  have L3 := looks_find (M := model prog w) X I hf
  have sub : Looks (model prog w) hp (isInstance (.ref x) (.type "BaseException")) true := L0.andThen (looks_subIn X hsub)
  have hx0 : (false && onTheHeap (Value.builtin "BaseException.__getattribute__")) = false := rfl
  have hx2 : (Value.builtin "BaseException.__getattribute__" == Value.builtin "object.__getattribute__") = false := by decide +kernel
  have hx1 : (onTheHeap (Value.ref D) && Value.builtin "BaseException.__getattribute__" == Value.builtin "object.__getattribute__") = false := by rw [hx2]; rfl
  unfold getAttr? getAttrBy? getAttrBy
  refine wpAny_bind (wpAny_mkText (wpAny_bind (wpAny_attempt (wpAny_holding (wpAny_bind (L0.at (wpAny_bind (L1.at ?_))))))))
  show wpAny _ _ (if (onTheHeap (Value.ref D) && Value.builtin "BaseException.__getattribute__" == Value.builtin "object.__getattribute__") = true then _ else _) _ _ _
  rw [hx1, if_neg Bool.false_ne_true]
  unfold getAttrByItsOwn hookBefore
  refine wpAny_bind ?_
  rw [if_pos (show onTheHeap (Value.ref D) = true from rfl)]
  refine L2.at ?_
  refine wpAny_bind (wpAny_attempt (wpAny_holding ?_))
  unfold callGetattribute
  rw [hx0, if_neg Bool.false_ne_true]
  unfold boundAndCalled
  rw [PySem.F.excAttr_ValueError.ga.bind (.ref x)]
  refine wpAny_bind (wpAny_pure ?_)
  show wpAny _ _ (call (.builtin "BaseException.__getattribute__") [.ref x, .str "__class__" t]) _ _ _
  refine wpAny_call (codeAny_call_builtin PySem.F.excAttr_ValueError.ga.plain PySem.F.entry_bexc_ga ?_)
  refine @check_slot (model prog w) _ _ ⟨hp, g, d, t + 1, os⟩ "BaseException.__getattribute__" "BaseException" "__getattribute__" (.ref x) [.str "__class__" t] [] _ (by decide +kernel) (by decide +kernel) sub (PySem.F.args_bexc_ga (.ref x) (.str "__class__" t)) ?_
  unfold Builtin.«object.__getattribute__»
  refine wpAny_bind (wpAny_of_eq (a := ((Value.ref x : Value), [Value.str "__class__" t])) (by first | rfl | (simp only [slotArgs]; rfl)) ?_)
  refine wpAny_bind (wpAny_pure (wpAny_bind (L0.at (wpAny_bind (L3.at ?_)))))
  show wpAny _ _ (holding [Value.builtin "object.__class__"] (call (.builtin "getset_descriptor.__get__") [.builtin "object.__class__", .ref x, .ref D]) >>= ret) _ _ _
  refine wpAny_bind (wpAny_holding (wpAny_call (class_get (s := ⟨hp, g, d, t + 1, os⟩) (ox := ox) (od := some od) X I hm ?_)))
  refine wpAny_pure ?_
  show wpAny _ _ (handedOut (.ref D)) _ _ _
  rw [handedOut_of (v := .ref D) rfl]
  first
    | exact wpAny_pure (wpAny_pure h)
    | exact wpAny_pure h
    | exact wpAny_pure (wpAny_bind (wpAny_pure (wpAny_pure h)))
open PySem.W in
theorem kitx_excD (C : ExcC K D) : KitX K (.ref x) (.ref D) (fun h => ∃ ox od, InstAt h x ox D (some od)) where
  ty := fun _ _ _ ⟨_, _, I⟩ => I.type
  it := fun _ _ X _ => by
    obtain ⟨cdD, hcD, _⟩ := any_some C.hd
    unfold clsIn at hcD
    split at hcD
    · rename_i c' d' cd' sl' ho
      intro A' Q' E' s' k q
      unfold isType loadHead
      exact wpAny_bind (wpAny_loadPart (k _ _ (X _ _ ho)) (wpAny_pure q))
    · cases hcD
  ne := fun h tp dd its n sl X htp => by
    obtain ⟨cdD, hcD, _⟩ := any_some C.hd
    refine Bool.eq_false_iff.mpr fun q => ?_
    have e : D = tp := Value.ref.inj (beq_iff_eq.mp q)
    subst e
    unfold clsIn at hcD
    split at hcD
    · rename_i c' d' cd' sl' ho
      have z := (X _ _ ho).symm.trans htp
      cases z
    · cases hcD
  ca := fun X ⟨_, _, I⟩ k => kin_classD C X I k
end
section
variable {X : Cx} {p : Addr × Obj} {cls : Value} {d : Option Addr}
inductive IsxP (K : PySem.W.Frag) (a : Addr) (cls : Value) (d : Option Addr) (x c : V) (H : Hp) (Q : VK) : Prop where
  | ty {D dd : Addr} {fs : List (Str × V)} {n : String} {b : Bool} (ex : x = .ref a) (ec : cls = .ref D) (C : ExcC K D) (ed : d = some dd) (eh : H dd = some (.xd fs)) (hc : c = .ty n) (hb : PySem.W.kitOne K (.ref D) (.type n) = some b) (k : Q (.bl b) H)
  | own {D E dd : Addr} {fs : List (Str × V)} {b : Bool} (ex : x = .ref a) (ec : cls = .ref D) (C : ExcC K D) (ed : d = some dd) (eh : H dd = some (.xd fs)) (hc : c = .ref E) (hb : PySem.W.kitOne K (.ref D) (.ref E) = some b) (k : Q (.bl b) H)
def cIsx (K : PySem.W.Frag) (a : Addr) (cls : Value) (d : Option Addr) : List V → Hp → VK → Prop := fun xs H Q => match xs with
  | [x, c] => IsxP K a cls d x c H Q
  | _ => False
theorem call_cIsx (hp : p ∈ X.pn) (hz : Zc cls d p.2) (hfv : ∃ fv, p.2.data = .fields fv) : CallR X (.builtin "isinstance") (cIsx X.K p.1 cls d) := by
  intro pins s σ H xs us Q I r h
  match xs, r, h with
  | [x, c], r, h =>
    have key : ∀ {D dd : Addr} {fs : List (Str × V)} {cv : Value} {b : Bool}, us = [.ref p.1, cv] → cls = .ref D → ExcC X.K D → d = some dd → H dd = some (.xd fs) → PySem.W.kitOne X.K (.ref D) cv = some b → Q (.bl b) H →
        wpAny (model X.prog X.w) X.A (call (.builtin "isinstance") us) (EP X pins σ Q) X.xe s := by
      intro D dd fs cv b eu ec C ed eh hb k
      subst eu ec ed
      obtain ⟨ha, _⟩ := I.pin p (List.mem_append_left _ hp)
      obtain ⟨vs, hd⟩ := hfv
      have hx : ObjOk X.prog X.w H s.heap dd (.xd fs) := I.hok dd _ eh
      obtain ⟨mA, hns, hr⟩ := hx
      obtain ⟨od, ho, hl⟩ := lookIn_ns hns
      have J : PySem.W.InstAt s.heap p.1 p.2 D (some od) := ⟨ha, hz.1, by unfold PySem.W.notCls; rw [hd] <;> rfl, by rw [hz.2]; exact ho⟩
      exact PySem.W.kia_one (kitx_excD C) I.kIn ⟨_, _, J⟩ hb (fun z => nomatch z) fun tk => ⟨.bl b, H, I.kept (t' := tk) fun _ _ z => z, rfl, k⟩
    have h : IsxP X.K p.1 cls d x c H Q := h
    cases r with
    | cons rx rr =>
      cases rr with
      | cons rt rr =>
        cases rr
        cases h with
        | ty ex ec C ed eh hc hb k =>
          subst ex hc
          cases rx
          cases rt
          exact key rfl ec C ed eh hb k
        | own ex ec C ed eh hc hb k =>
          subst ex hc
          cases rx
          cases rt
          exact key rfl ec C ed eh hb k
end
end Cy
namespace Cy
open PySem PySem.Spec PyProof.Rows L2
/-- a text's signs, each in a new pair with its number from k0 on -/
def Ies (k0 : Int) (x : Str) : It :=
  ⟨fun i _ => i < x.cps.size, fun i H v H' => ∃ T c, v = .ref T ∧ H T = none ∧ H' = upd H T (.tup [.int (k0 + (i : Nat)), .str ⟨#[c]⟩]) ∧ x.cps[i]? = some c, fun i _ => i = x.cps.size⟩
theorem turn_es {P : Program} {w : World} {K : PySem.W.Frag} {elts : List Expr} {kk : Nat} {tpos : Pos} (k0 : Int) (x : Str) (t : Tok) (e it : Addr) :
    Turn P w K (.Tuple elts kk tpos) (Ies k0 x) [e, it] e (fun i h => (∃ old, IsEnum h e it (k0 + ((i : Nat) : Int)) old) ∧ h.IsStrIter it (strIterType x) x t i ∧ e ≠ it) where
  mem := by simp
  obj := fun i h st b hb => by
    obtain ⟨⟨old, he⟩, ⟨o, ho, hc, hd⟩, _⟩ := st
    have e' : b = e ∨ b = it := by simpa using hb
    rcases e' with z | z
    · rw [z]; exact ⟨_, he, fun v q => nomatch q⟩
    · rw [z]; exact ⟨o, ho, fun v q => by rw [hd] at q; cases q⟩
  keep := fun i h h' st k => let ⟨⟨old, he⟩, ⟨o, ho, r⟩, hne⟩ := st; ⟨⟨old, k e (by simp) _ he⟩, ⟨o, k it (by simp) o ho, r⟩, hne⟩
  item := by
    intro X hP hw hK hc i pins s σ H E I hf st hg
    subst hP hw hK
    obtain ⟨⟨old, he⟩, hit, hne⟩ := st
    have hel : e < s.heap.objs.size := Heap.lt_size he
    have hil : it < s.heap.objs.size := by obtain ⟨_, q, _⟩ := hit; exact Heap.lt_size q
    have DD := Draws.text (prog := X.prog) (w := X.w) (A := X.A.in1) (I.ok.hd hc) it x t
    refine wpAny_pyNext_enum_itemC DD he hit hg hne (by simpa using hne) fun v h' tk hP ho hit' hT hsz hk => ?_
    obtain ⟨c, u, hcx, rfl⟩ := hP
    refine ⟨_, rfl, wpAny_letOwnedTupleGo_enum (s := { s with heap := h', toks := tk + 1 }) ho fun h'' he' sb => ?_⟩
    have hT2 : h''.get? s.heap.objs.size = some { cls := .type "tuple", data := .seq #[.int (k0 + (i : Nat)) tk, .str ⟨#[c]⟩ u] } := (sb.2 _ (Nat.ne_of_gt hel)).trans hT
    have new : ObjOk X.prog X.w (upd H s.heap.objs.size (.tup [.int (k0 + (i : Nat)), .str ⟨#[c]⟩])) h'' s.heap.objs.size (.tup [.int (k0 + (i : Nat)), .str ⟨#[c]⟩]) :=
      ⟨by show 2 ≤ sizeLine; decide, [.int (k0 + (i : Nat)) tk, .str ⟨#[c]⟩ u], .cons ⟨_, rfl⟩ (.cons ⟨_, rfl⟩ .nil), ⟨_, hT2, rfl, _, rfl⟩⟩
    have I1 : Inv X pins σ (upd H s.heap.objs.size (.tup [.int (k0 + (i : Nat)), .str ⟨#[c]⟩])) { s with heap := h'', toks := tk + 1 } :=
      I.turnedNew (ch := [e, it]) (fun b ob hb q => (sb.2 b (fun z => hb (by simp [z]))).trans (hk b ob (fun z => hb (by simp [z])) (fun z => hb (by simp [z])) q)) hf (Nat.le_refl _) new
    refine ⟨.ref s.heap.objs.size, _, I1, rfl, ⟨_, c, rfl, I.hok.fresh (Nat.le_refl _), rfl, hcx⟩, ⟨⟨.str ⟨#[c]⟩ u, ?_⟩, ?_, hne⟩, fun b hb => ?_⟩
    · have e1 : k0 + ((i + 1 : Nat) : Int) = k0 + (i : Int) + 1 := by omega
      rw [e1]; exact he'
    · obtain ⟨o, ho', r⟩ := hit'
      exact ⟨o, (sb.2 it (Ne.symm hne)).trans ho', r⟩
    · have hb' : b < s.heap.objs.size := by
        have e' : b = e ∨ b = it := by simpa using hb
        rcases e' with z | z
        · rw [z]; exact hel
        · rw [z]; exact hil
      rw [upd_ne (Nat.ne_of_lt hb')]
      exact (hf b hb).1
  done := by
    intro X hP hw hK hc i pins s σ H E I hf st hg
    subst hP hw hK
    obtain ⟨⟨old, he⟩, hit, hne⟩ := st
    obtain ⟨f0, f1, f2, f3, f4, f5⟩ := hf it (by simp)
    have hg' : i = x.cps.size := hg
    subst hg'
    have DD := Draws.text (prog := X.prog) (w := X.w) (A := X.A.in1) (I.ok.hd hc) it x t
    exact wpAny_pyNext_enum_endD DD he hit fun h' eb => ⟨rfl, I.turned (t' := s.toks) (fun b o hb q => eb b o hb q) f0 f1 f3 f4 f5⟩
  self := fun A i s Q E st h => let ⟨⟨_, he⟩, _⟩ := st; wpAny_pyIter_enum he h
def iEs (ta : TA) : TI := fun σ H R => ta σ H fun vs H1 => match vs with
  | [.str x] => R (Ies 0 x) H1
  | _ => False
theorem pi_es {X : Cx} {e : Expr} {ta : TA} {p pos tpos : Pos} {elts : List Expr} {kk : Nat} (hg : Gl X "enumerate") (hm : X.mg "enumerate" = none) (ha : PA X [e] ta) (hs : starEach [e] X.env = [(false, eval e X.env)] := by rfl) :
    PI X (.Tuple elts kk tpos) (.Call (.Name "enumerate" p) [e] [] pos) (iEs ta) := by
  refine ⟨fun pins s σ H R I h => ?_⟩
  refine Call_ (ld_blt I hg hm boot_enumerate (PyProof.Rows.callWith_type1 (thn (ha.run pos pins s σ H _ I h) fun us s1 ⟨vs, H1, I1, r1, q1⟩ => ?_) hs rfl))
  match vs, r1, q1 with
  | [.str x], r1, q =>
    cases r1 with
    | cons r rr =>
      cases rr
      obtain ⟨t, rfl⟩ := r
      refine call_enumerate_str fun h' he hit hsz hk => wpAny_pyIter_enum he ?_
      have I2 : Inv X pins σ H1 { s1 with heap := h' } := I1.kept (t' := s1.toks) hk
      refine ⟨s1.heap.objs.size + 1, [s1.heap.objs.size + 1, s1.heap.objs.size], _, _, H1, rfl, I2, turn_es 0 x t (s1.heap.objs.size + 1) s1.heap.objs.size, ⟨⟨.none, by simpa using he⟩, hit, Nat.succ_ne_self _⟩, fun b hb => ?_, q⟩
      have e' : b = s1.heap.objs.size + 1 ∨ b = s1.heap.objs.size := by simpa using hb
      have hle : s1.heap.objs.size ≤ b := by
        rcases e' with z | z
        · rw [z]; exact Nat.le_add_right _ _
        · rw [z]; exact Nat.le_refl _
      exact I1.fpOk hle (I1.hok.fresh hle)
def Iek (K : PySem.W.Frag) (k0 : Int) (a : Addr) : It :=
  ⟨fun i H => ∃ (xs : List V) (x : V), SqL K H a xs ∧ xs[i]? = some x, fun i H v H' => ∃ T x, v = .ref T ∧ H T = none ∧ H' = upd H T (.tup [.int (k0 + (i : Nat)), x]) ∧ ∀ xs, SqL K H a xs → xs[i]? = some x, fun i H => ∃ xs : List V, SqL K H a xs ∧ xs.length = i⟩
theorem turn_ek {P : Program} {w : World} {K : PySem.W.Frag} {elts : List Expr} {kk : Nat} {tpos : Pos} (k0 : Int) (a e it : Addr) :
    Turn P w K (.Tuple elts kk tpos) (Iek K k0 a) [e, it] e (fun i h => (∃ old, IsEnum h e it (k0 + ((i : Nat) : Int)) old) ∧ h.IsListIter it a i ∧ e ≠ it ∧ a ≠ it ∧ a ≠ e) where
  mem := by simp
  obj := fun i h st b hb => by
    obtain ⟨⟨old, he⟩, ⟨o, ho, hc, hd⟩, _⟩ := st
    have e' : b = e ∨ b = it := by simpa using hb
    rcases e' with z | z
    · rw [z]; exact ⟨_, he, fun v q => nomatch q⟩
    · rw [z]; exact ⟨o, ho, fun v q => by rw [hd] at q; cases q⟩
  keep := fun i h h' st k => let ⟨⟨old, he⟩, hi, hne⟩ := st; ⟨⟨old, k e (by simp) _ he⟩, hi.at fun o q => k it (by simp) o q, hne⟩
  item := by
    intro X hP hw hK hc i pins s σ H E I hf st hg
    subst hP hw hK
    obtain ⟨⟨old, he⟩, hit, hne, hai, hae⟩ := st
    obtain ⟨xs, x, hq, hx⟩ := hg
    obtain ⟨its, rv, p, hz⟩ := I.list hq
    obtain ⟨u, hu, ru⟩ := rv.get hx
    have hel : e < s.heap.objs.size := Heap.lt_size he
    have hil : it < s.heap.objs.size := by obtain ⟨_, q, _⟩ := hit; exact Heap.lt_size q
    have hlt : i < its.toArray.size := by
      have z := (List.getElem?_eq_some_iff.mp hu).1
      simpa using z
    have DD := Draws.list (prog := X.prog) (w := X.w) (A := X.A.in1) (I.ok.hd hc) it a hai its.toArray
    refine wpAny_pyNext_enum_itemC DD he ⟨hit, p.isList⟩ hlt hne (by simpa using ⟨hne, Ne.symm hae⟩) fun v h' tk hP ho hit' hT hsz hk => ?_
    have ev : u = v := by
      have z : its.toArray[i]? = some v := hP
      rw [List.getElem?_toArray, hu] at z
      exact Option.some.inj z
    subst ev
    refine ⟨_, rfl, wpAny_letOwnedTupleGo_enum (s := { s with heap := h', toks := tk + 1 }) ho fun h'' he' sb => ?_⟩
    have hT2 : h''.get? s.heap.objs.size = some { cls := .type "tuple", data := .seq #[.int (k0 + (i : Nat)) tk, u] } := (sb.2 _ (Nat.ne_of_gt hel)).trans hT
    have new : ObjOk X.prog X.w (upd H s.heap.objs.size (.tup [.int (k0 + (i : Nat)), x])) h'' s.heap.objs.size (.tup [.int (k0 + (i : Nat)), x]) :=
      ⟨by show 2 ≤ sizeLine; decide, [.int (k0 + (i : Nat)) tk, u], .cons ⟨_, rfl⟩ (.cons ru .nil), ⟨_, hT2, rfl, _, rfl⟩⟩
    have I1 : Inv X pins σ (upd H s.heap.objs.size (.tup [.int (k0 + (i : Nat)), x])) { s with heap := h'', toks := tk + 1 } :=
      I.turnedNew (ch := [e, it]) (fun b ob hb q => (sb.2 b (fun z => hb (by simp [z]))).trans (hk b ob (fun z => hb (by simp [z])) (fun z => hb (by simp [z])) q)) hf (Nat.le_refl _) new
    refine ⟨.ref s.heap.objs.size, _, I1, rfl, ⟨_, x, rfl, I.hok.fresh (Nat.le_refl _), rfl, fun ys hy => by rw [I.list_inj hy hq]; exact hx⟩, ⟨⟨u, ?_⟩, hit'.1.at fun o q => (sb.2 it (Ne.symm hne)).trans q, hne, hai, hae⟩, fun b hb => ?_⟩
    · have e1 : k0 + ((i + 1 : Nat) : Int) = k0 + (i : Int) + 1 := by omega
      rw [e1]; exact he'
    · have hb' : b < s.heap.objs.size := by
        have e' : b = e ∨ b = it := by simpa using hb
        rcases e' with z | z
        · rw [z]; exact hel
        · rw [z]; exact hil
      rw [upd_ne (Nat.ne_of_lt hb')]
      exact (hf b hb).1
  done := by
    intro X hP hw hK hc i pins s σ H E I hf st hg
    subst hP hw hK
    obtain ⟨⟨old, he⟩, hit, hne, hai, hae⟩ := st
    obtain ⟨xs, hq, hx⟩ := hg
    obtain ⟨its, rv, p, hz⟩ := I.list hq
    obtain ⟨f0, f1, f2, f3, f4, f5⟩ := hf it (by simp)
    have hl := rv.length
    have hi : i = its.toArray.size := by simp; omega
    subst hi
    have DD := Draws.list (prog := X.prog) (w := X.w) (A := X.A.in1) (I.ok.hd hc) it a hai its.toArray
    exact wpAny_pyNext_enum_endD DD he ⟨hit, p.isList⟩ fun h' eb => ⟨rfl, I.turned (t' := s.toks) (fun b o hb q => eb b o hb q) f0 f1 f3 f4 f5⟩
  self := fun A i s Q E st h => let ⟨⟨_, he⟩, _⟩ := st; wpAny_pyIter_enum he h
end Cy
namespace Cy
open PySem PySem.Spec PyProof.Rows L2
theorem callWith_typeKw {M : Model} {A : Around} {E : Value → Shared → Prop} {s : Shared} {pos : Pos} {id : String} {args : List (Bool × Sem Value)} {keywords : List (Option Str × Sem Value)} {Q : Value → Shared → Prop}
    (hplain : args.any (·.1) = false) (hkw : keywords.any (·.1.isNone) = false)
    (h : wpAny M A (evalArgs (.type id) true args keywords) (fun a s₁ => wpAny M A (call (.type id) a.pos a.kw) Q E s₁) E s) :
    wpAny M A (callWith pos (.type id) [] args keywords) Q E s := by
  unfold callWith
  refine wpAny_bind (wpAny_holding (wpAny_mono h (fun a s₁ h₁ => wpAny_bind (wpAny_standAt ?_)) fun _ _ x => x))
  simp only [hplain, hkw, Bool.or_false]
  refine wpAny_bind (wpAny_pure ?_)
  exact wpAny_bind (wpAny_mono h₁ (fun r s₂ hr => wpAny_bind (wpAny_holding (wpAny_point (wpAny_pure hr)))) fun _ _ x => x)
/-- the keywords' values -/
def tPK := @L2.tNil
def iEk (K : PySem.W.Frag) (ta : TA) (k0 : Int) : TI := fun σ H R => ta σ H fun vs H1 => match vs with
  | [.ref a] => (∃ xs, SqL K H1 a xs) ∧ R (Iek K k0 a) H1
  | _ => False
theorem pi_ek {X : Cx} {e : Expr} {ta : TA} {p pos tpos kpos p2 : Pos} {elts : List Expr} {kk j : Nat} {k0 : Int} (hg : Gl X "enumerate") (hm : X.mg "enumerate" = none) (ha : PA X [e] ta) (h0 : -(2 ^ 63) ≤ k0) (h1 : k0 < 2 ^ 63) (hs : starEach [e] X.env = [(false, eval e X.env)] := by rfl)
    (hk : backToKw pos (keywordEach [{ arg := some (PySem.Str.ofString "start"), value := .Constant (.int k0) j p2, pos := kpos }] X.env) = [(some (PySem.Str.ofString "start"), do let v ← eval (.Constant (.int k0) j p2) X.env; standAt pos; pure v)] := by rfl) :
    PI X (.Tuple elts kk tpos) (.Call (.Name "enumerate" p) [e] [{ arg := some (PySem.Str.ofString "start"), value := .Constant (.int k0) j p2, pos := kpos }] pos) (iEk X.K ta k0) := by
  refine ⟨fun pins s σ H R I h => ?_⟩
  refine wpAny_Call_Name_kw (ld_blt I hg hm boot_enumerate ?_)
  rw [hk]
  refine callWith_typeKw (by rw [hs] <;> rfl) rfl ?_
  have hA := ha.run pos pins s σ H _ I h
  rw [hs] at hA ⊢
  refine evalArgs_kwB rfl (thn hA fun us s1 ⟨vs, H1, I1, r1, q1⟩ => ?_)
  show wpAny _ _ (evalAll [_]) _ _ _
  match vs, r1, q1 with
  | [.ref a], r1, q =>
    obtain ⟨⟨xs, hq⟩, q⟩ := q
    cases r1 with
    | cons r rr =>
      cases rr
      cases r
      refine evalAll_cons (wpAny_bind (wpAny_Constant_int (wpAny_bind (wpAny_standAt (wpAny_pure ?_)))))
      refine evalAll_nil ?_
      have I2 : Inv X pins σ H1 { s1 with toks := s1.toks + 1 } := I1.tok _
      obtain ⟨its, rv, p', hz⟩ := I2.list hq
      refine enum_begins_start (begins_list a its.toArray) p'.isList h0 h1 fun h' he hit hsz hk => wpAny_pyIter_enum he ?_
      have hal : a < s1.heap.objs.size := by obtain ⟨_, e, _⟩ := p'.isList; exact Heap.lt_size e
      have I3 : Inv X pins σ H1 { s1 with heap := h', toks := s1.toks + 1 } := I1.kept (t' := s1.toks + 1) hk
      refine ⟨s1.heap.objs.size + 1, [s1.heap.objs.size + 1, s1.heap.objs.size], _, _, H1, rfl, I3, turn_ek k0 a (s1.heap.objs.size + 1) s1.heap.objs.size,
        ⟨⟨.none, by simpa using he⟩, ⟨_, hit, rfl, rfl⟩, Nat.succ_ne_self _, Nat.ne_of_lt hal, Nat.ne_of_lt (Nat.lt_succ_of_lt hal)⟩, fun b hb => ?_, q⟩
      have e' : b = s1.heap.objs.size + 1 ∨ b = s1.heap.objs.size := by simpa using hb
      have hle : s1.heap.objs.size ≤ b := by
        rcases e' with z | z
        · rw [z]; exact Nat.le_add_right _ _
        · rw [z]; exact Nat.le_refl _
      exact I1.fpOk hle (I1.hok.fresh hle)
end Cy
namespace Cy
open PySem PySem.Spec PyProof.Rows L2
/-- the promise of a call with keywords named ks -/
abbrev SpK := List V → List V → Hp → VK → XK → Prop
def FnK (g : Wd) (k : Nat) (f : Addr) (ks : List Str) (sp : SpK) : Prop :=
  ∀ (A : Around) (outer : List Env) (s : Shared) (H : Hp) (us ws : List Value) (vs zs : List V) (Q : VK) (E : XK), Room k A → Env0 g.P g.w g.K g.mg g.base A outer s H → Vals vs us → Vals zs ws → sp vs zs H Q E →
    codeAny (model g.P g.w) A (.call (.ref f) ⟨us, ks.zip ws⟩) (CR (L2.CX g.P g.w) outer g.P g.w H s Q E) s
theorem FnK.of {g : Wd} {k n : Nat} {f : Addr} {fd : FuncData} {ps ks : List Str} {sp : Sp} {gg : List Value → List Value → List Value} {gV : List V → List V → List V} (F : FnOk g.P g.w g.K g.mg g.base (L2.CX g.P g.w) k f fd ps sp) (hb : KBn g.K fd ps n ks gg gV) :
    FnK g k f ks (fun vs zs H Q E => vs.length = n ∧ zs.length = ks.length ∧ sp (gV vs zs) H Q E) := by
  intro A outer s H us ws vs zs Q E hr e0 r rz h
  obtain ⟨l1, l2, h⟩ := h
  have KX : g.K.In s.heap := e0.mod.kin.keeps fun b o e => (e0.bs b o e).1
  exact F.run A outer s H ⟨us, ks.zip ws⟩ (gg us ws) (gV vs zs) Q E hr e0 (hb.to s us ws KX (r.length.symm.trans l1) (rz.length.symm.trans l2)) (hb.rel r rz) h
section
variable {X : Cx} {W : WX} {j : Nat} {x : Str} {p pos : Pos} {e : Expr} {es : List Expr} {kws : List Keyword} {t tk : TA}
inductive CallKP (g : Wd) (j : Nat) (f : Addr) (ks : List Str) (vs zs : List V) (H : Hp) (Q : VK) (E : XK) : Prop where
  | by {k : Nat} {sp : SpK} (c : FnK g k f ks sp) (hk : k ≤ j) (h : sp vs zs H Q E)
def cCallK (g : Wd) (j : Nat) (W : WX) (f : Addr) (ks : List Str) (t tk : TA) : TE := fun σ H Q => t σ H fun vs H1 => tk σ H1 fun zs H2 => CallKP g j f ks vs zs H2 Q (fun cls d H' => W cls d σ H')
theorem pe_cCallK {ks : List Str} (tk' : Takes X W) (hr : Room j X.A) (hf : Gf (.of X) x) (hg : Gl X x) (ha : PA X (e :: es) t) (hkw : PK X kws tk) (hall : (backToKw pos (keywordEach kws X.env)).all (·.1.isSome) = true := by rfl)
    (hks : (backToKw pos (keywordEach kws X.env)).filterMap (·.1) = ks := by rfl)
    (hdb : (x == ("__debug__" : Str)) = false := by decide) (he : starEach (e :: es) X.env = (false, eval e X.env) :: starEach es X.env := by rfl)
    (hpl : ((backTo pos (starEach (e :: es) X.env)).any (·.1) || (backToKw pos (keywordEach kws X.env)).any (·.1.isNone)) = false := by rfl) :
    PE X (.Call (.Name x p) (e :: es) kws pos) (cCallK (.of X) j W (gad X.K x) ks t tk) := by
  refine ⟨fun pins s σ H Q I h => ?_⟩
  refine wpAny_Call_Name_kw (ld_glob I hg hf.mg ?_ hdb)
  refine PySem.W.callWith_KW (h₀ := X.base) I.ok.mod.kin hf.kp hall (thn (ha.run pos pins s σ H _ I h) fun us s1 ⟨vs, H1, I1, r, q⟩ => ?_) hpl he
  refine thn (hkw.run pos pins s1 σ H1 _ I1 q) fun ws s2 ⟨zs, H2, I2, rz, q2⟩ => ⟨I2.kIn, ?_⟩
  rw [hks]
  obtain ⟨c, hk, h⟩ := q2
  refine wpAny_call (codeAny_mono (c X.A X.stack s2 H2 us ws vs zs Q _ (hr.mono hk) I2.env0 r rz h) fun r s' hq => ?_)
  cases r with
  | error e => exact passAt tk' σ pins H2 s2 e s' I2 hq
  | ok fl =>
    cases fl with
    | ret u => exact I2.after hq
    | next => exact False.elim hq
    | brk => exact False.elim hq
    | cont => exact False.elim hq
end
section
variable {X : Cx} {x : Str} {pos : Pos}
inductive GvP (g : Wd) (x : Str) (H : Hp) (Q : VK) : Prop where
  | by {v : V} (h : ∃ u, g.mg x = some u ∧ RelV v u) (k : Q v H)
def cGv (g : Wd) (x : Str) : TE := fun _ H Q => GvP g x H Q
theorem pe_cGv (hg : Gl X x) (hd : (x == ("__debug__" : Str)) = false := by decide) : PE X (.Name x pos) (cGv (.of X) x) := by
  refine ⟨fun pins s σ H Q I h => ?_⟩
  obtain ⟨⟨u, hm, r⟩, k⟩ := h
  exact ld_glob I hg hm ⟨_, H, I, r, k⟩ hd
/-- C.f, a class's constant -/
inductive CvP (K : PySem.W.Frag) (f : Str) (x : V) (H : Hp) (Q : VK) : Prop where
  | by {C : Addr} {mc u : Value} {v : V} (ex : x = .ref C) (r : ClX.CRead K C mc) (k : ClX.CVal K C mc f v u) (q : Q v H)
def cCv (K : PySem.W.Frag) (ta : TE) (f : Str) : TE := fun σ H Q => ta σ H fun x H1 => CvP K f x H1 Q
theorem pe_cCv {e : Expr} {ta : TE} {f : Str} (he : PE X e ta) (hb : attributeBase e f X.env (eval e X.env) = eval e X.env := by rfl) : PE X (.Attribute e f pos) (cCv X.K ta f) := by
  refine ⟨fun pins s σ H Q I h => ?_⟩
  refine attr_of hb (thn (he.run pins s σ H _ I h) fun u s1 ⟨x, H1, I1, rx, q⟩ => ?_)
  obtain ⟨ex, r, k, q⟩ := q
  rename_i C mc w v
  subst ex
  obtain rfl : u = Value.ref C := rx
  exact ClX.getcval_ok I1 r k fun s2 I2 => ⟨v, H1, I2, k.rel, q⟩
end
end Cy
namespace Cy
open PySem PySem.Spec PyProof.Rows L2
abbrev Chk := PySem.W.Frag → Bool
/-- the __init__ with super() of the own error x -/
abbrev FnS : Type := Option (Str × Str × Arguments × FuncBody × Scope × Addr × List Str × Value × Addr)
def fnS (K : PySem.W.Frag) (x : Str) : FnS := match K.lookup (mad K (gad K x) "__init__") with
  | some ⟨_, _, .func fd, _⟩ => some (fd.name, fd.qualname, fd.params, fd.body, fd.scope, fd.globals, fd.closure.map (·.1), fd.defaults, fd.builtins)
  | _ => none
structure SupX where
  x : Str
  qual : Str
  params : Arguments
  body : List Stmt
  scope : Scope
def SupX.val (d : SupX) : FnS := some ("__init__", d.qual, d.params, .stmts d.body, d.scope, mainGlobals, ["__class__"], .none, builtinsNs)
/-- the getter of the property f of the class x -/
structure GetX where
  x : Str
  f : Str
  qual : Str
  params : Arguments
  body : List Stmt
  scope : Scope
def pad (K : PySem.W.Frag) (x f : Str) : Addr := mad K (gad K x) f
def pgt (K : PySem.W.Frag) (x f : Str) : Addr := match PySem.W.recIn K (pad K x f) "property" with
  | some (.ref a :: _) => a
  | _ => 0
def fnGx (K : PySem.W.Frag) (d : GetX) : He.FnW := match K.lookup (pgt K d.x d.f) with
  | some ⟨_, _, .func fd, _⟩ => some (fd.name, fd.qualname, fd.params, fd.body, fd.scope, fd.globals, fd.closure, fd.builtins)
  | _ => none
def GetX.val (d : GetX) : He.FnW := some (d.f, d.qual, d.params, .stmts d.body, d.scope, mainGlobals, [], builtinsNs)
abbrev AlC : Type := He.AlD × List Bool × List FnS × List He.FnW
def obsC (fa : List He.Fa) (fn : List He.DefD) (fc : List Chk) (fs : List SupX) (gs : List GetX) (K : PySem.W.Frag) : AlC := (He.obsD fa fn K, fc.map (fun c => c K), fs.map (fun d => fnS K d.x), gs.map (fnGx K))
def valC (fn : List He.DefD) (fc : List Chk) (fs : List SupX) (gs : List GetX) : AlC := (He.valD fn, fc.map (fun _ => true), fs.map SupX.val, gs.map GetX.val)
def SaysC (fa : List He.Fa) (fn : List He.DefD) (fc : List Chk) (fs : List SupX) (gs : List GetX) (K : PySem.W.Frag) : Prop := obsC fa fn fc fs gs K = valC fn fc fs gs
def obsCG (n : Nat) (fa : List He.Fa) (fn : List He.DefD) (fc : List Chk) (fs : List SupX) (gs : List GetX) (g : Addr → Option Obj) : AlC := obsC fa fn fc fs gs (He.frG g (He.asD g n ++ [cStatics]))
def hookC (n : Nat) (fa : List He.Fa) (fn : List He.DefD) (fc : List Chk) (fs : List SupX) (gs : List GetX) : PySem.W.Hook where
  α := AlC
  obs := fun s => obsCG n fa fn fc fs gs s.heap.get?
  val := fun _ => valC fn fc fs gs
  says := fun _ h => ∃ K : PySem.W.Frag, K.In h ∧ SaysC fa fn fc fs gs K
  of := fun _ _ e => ⟨_, He.frG_in, e⟩
  keeps := fun _ _ _ ⟨K, hK, c⟩ k => ⟨K, PySem.W.Frag.In.keeps hK k, c⟩
theorem obsCG_eq {n : Nat} {fa : List He.Fa} {fn : List He.DefD} {fc : List Chk} {fs : List SupX} {gs : List GetX} {g : Addr → Option Obj} {s : Shared} (h : ∀ a, g a = s.heap.get? a) : obsCG n fa fn fc fs gs g = (hookC n fa fn fc fs gs).obs s := by
  have e : g = s.heap.get? := funext h
  rw [e] <;> rfl
def TopOf (fa : List He.Fa) (fn : List He.DefD) (fc : List Chk) (fs : List SupX) (gs : List GetX) (P : Program) (g : Wd) : Prop := g.P = P ∧ ∃ h : Heap, g.K.In h ∧ h.Ns mainGlobals g.mg ∧ SaysC fa fn fc fs gs g.K
/-- what is asked of such an __init__ beside its text -/
def supB (x qual file : Str) : Chk := fun K => (match K.lookup (mad K (gad K x) "__init__") with
    | some ⟨_, _, .func fd, _⟩ => PySem.W.codeIn K fd.code qual && ((match fd.closure with
      | [(_, cc)] => (match K.lookup cc with
        | some ⟨_, _, .cell (some (.ref C)), _⟩ => decide (C = gad K x)
        | _ => false)
      | _ => false) && (match fd.code with
      | .ref cda => (match K.lookup cda with
        | some ⟨_, _, .fields vs, _⟩ => (match (vs[2]? : Option Value) with
          | some (Value.str f _) => decide (f = file)
          | _ => false)
        | _ => false)
      | _ => false))
    | _ => false) && (He.eqO (PySem.W.nsIn K mainGlobals "super") (some none) && (He.eqO (PySem.W.nsIn K cStatics "thirdparty.any") (some none) && (decide (PySem.W.mroIn K (gad K x) (.ref (gad K x)) = some true) &&
      (He.eqO (PySem.W.ks_superIn K (gad K x) (gad K x) "__init__") (some (some (.builtin "ValueError.__init__"))) && decide (PySem.W.subIn K (.ref (gad K x)) (.type "ValueError") = some true)))))
theorem supB_ok {P : Program} {K : PySem.W.Frag} {d : SupX} {file : Str} (e : fnS K d.x = d.val) (h : supB d.x d.qual file K = true) (hP : ((P.main.file : Str) == file) = true) (ht : (P.main.scope.names.lookup ("super" : Str)).isSome = false) :
    ∃ cc cdv, SupD P K (gad K d.x) (mad K (gad K d.x) "__init__") "__init__" d.qual d.params d.body d.scope cc cdv := by
  obtain ⟨h0, h⟩ := He.ba h
  obtain ⟨h1, h⟩ := He.ba h
  obtain ⟨h2, h⟩ := He.ba h
  obtain ⟨h3, h⟩ := He.ba h
  obtain ⟨h4, h5⟩ := He.ba h
  unfold fnS at e
  cases q : K.lookup (mad K (gad K d.x) "__init__") with
  | none => rw [q] at h0; cases h0
  | some o =>
    obtain ⟨oc, od, dt, osl⟩ := o
    rw [q] at h0 e
    cases dt with
    | func fd =>
      obtain ⟨n1, n2, n3, n4, n5, n6, n7, n8, n9, n10, n11, n12, n13, n14, n15⟩ := fd
      have e2 : (some (n1, n2, n3, n4, n5, n6, n7.map (·.1), n8, n15) : FnS) = some (("__init__" : Str), d.qual, d.params, .stmts d.body, d.scope, mainGlobals, [("__class__" : Str)], .none, builtinsNs) := e
      simp only [Option.some.injEq, Prod.mk.injEq] at e2
      obtain ⟨e1, e2, e3, e4, e5, e6, e7, e8, e9⟩ := e2
      obtain ⟨c1, h0⟩ := He.ba h0
      obtain ⟨c2, c3⟩ := He.ba h0
      dsimp only at c1 c2 c3
      match n7, e7, c2 with
      | [(y, cc)], e7, c2 =>
        have ey : y = "__class__" := by simpa using e7
        subst e1 e2 e3 e4 e5 e6 e8 e9 ey
        refine ⟨cc, n13, ⟨oc, od, n9, n10, n11, n12, n14, osl, q⟩, c1, ?_, ?_, He.eqO_ok h1, He.eqO_ok h2, of_decide_eq_true h3, He.eqO_ok h4, of_decide_eq_true h5, ht⟩
        · cases n13 with
          | ref cda =>
            dsimp only at c3
            split at c3
            · rename_i ccl cdd vs ccs el
              split at c3
              · rename_i f tf ev
                have ef : f = file := of_decide_eq_true c3
                exact ⟨cda, ccl, cdd, vs, ccs, f, tf, rfl, el, ev, by rw [ef]; exact hP⟩
              · cases c3
            · cases c3
          | _ => cases c3
        · dsimp only at c2
          split at c2
          · rename_i cl cld C csl el
            have eC : C = gad K d.x := of_decide_eq_true c2
            rw [eC] at el
            exact ⟨_, _, _, el⟩
          · cases c2
    | _ => cases h0
def getB (x f qual : Str) : Chk := fun K => PySem.W.keepIn K (.ref (pgt K x f)) && (match K.lookup (pgt K x f) with
  | some ⟨_, _, .func fd, _⟩ => PySem.W.codeIn K fd.code qual && He.dflB K fd.defaults []
  | _ => false)
theorem getB_ok {K : PySem.W.Frag} {d : GetX} (e : fnGx K d = d.val) (c : getB d.x d.f d.qual K = true) : ∃ fd, FunD K d.f d.qual d.params d.body d.scope [] [] (pgt K d.x d.f) fd := by
  obtain ⟨kp, c2⟩ := He.ba c
  unfold fnGx at e
  cases q : K.lookup (pgt K d.x d.f) with
  | none =>
    rw [q] at c2
    cases c2
  | some o =>
    obtain ⟨oc, od, dt, osl⟩ := o
    rw [q] at c2 e
    cases dt with
    | func fd =>
      obtain ⟨n1, n2, n3, n4, n5, n6, n7, n8, n9, n10, n11, n12, n13, n14, n15⟩ := fd
      have e2 : (some (n1, n2, n3, n4, n5, n6, n7, n15) : He.FnW) = some (d.f, d.qual, d.params, .stmts d.body, d.scope, mainGlobals, [], builtinsNs) := e
      simp only [Option.some.injEq, Prod.mk.injEq] at e2
      obtain ⟨h1, h2, h3, h4, h5, h6, h7, h8⟩ := e2
      subst h1 h2 h3 h4 h5 h6 h7 h8
      obtain ⟨k1, k2⟩ := He.ba c2
      exact ⟨_, ⟨oc, od, n8, n9, n10, n11, n12, n13, n14, osl, rfl, q, k1, He.dflB_ok k2, .inl rfl⟩, kp⟩
    | _ => cases c2
section
variable {fa : List He.Fa} {fn : List He.DefD} {fc : List Chk} {fs : List SupX} {gs : List GetX} {P : Program} {g : Wd}
theorem SaysC.d {K : PySem.W.Frag} (c : SaysC fa fn fc fs gs K) : He.SaysD fa fn K := congrArg (fun z : AlC => z.1) c
theorem TopOf.chk (T : TopOf fa fn fc fs gs P g) (i : Nat) {c : Chk} (h : fc[i]? = some c := by rfl) : c g.K = true := by
  obtain ⟨_, _, _, _, c0⟩ := T
  have e : (fc.map fun c => c g.K) = fc.map fun _ => true := congrArg (fun z : AlC => z.2.1) c0
  have e2 : (fc.map fun c => c g.K)[i]? = (fc.map fun _ => true)[i]? := by rw [e]
  rw [List.getElem?_map, List.getElem?_map, h] at e2
  exact Option.some.inj e2
theorem TopOf.sup (T : TopOf fa fn fc fs gs P g) (i j : Nat) {d : SupX} {file : Str} (h : fs[i]? = some d := by rfl) (h2 : fc[j]? = some (supB d.x d.qual file) := by rfl) (hP : ((P.main.file : Str) == file) = true := by decide +kernel)
    (ht : (P.main.scope.names.lookup ("super" : Str)).isSome = false := by decide +kernel) : ∃ cc cdv, SupD g.P g.K (gad g.K d.x) (mad g.K (gad g.K d.x) "__init__") "__init__" d.qual d.params d.body d.scope cc cdv := by
  have c := T.chk j h2
  obtain ⟨rfl, _, _, _, c0⟩ := T
  have e : (fs.map fun d => fnS g.K d.x) = fs.map SupX.val := congrArg (fun z : AlC => z.2.2.1) c0
  have e2 : (fs.map fun d => fnS g.K d.x)[i]? = (fs.map SupX.val)[i]? := by rw [e]
  rw [List.getElem?_map, List.getElem?_map, h] at e2
  exact supB_ok (Option.some.inj e2) c hP ht
theorem TopOf.get (T : TopOf fa fn fc fs gs P g) (i j : Nat) {d : GetX} (h : gs[i]? = some d := by rfl) (h2 : fc[j]? = some (getB d.x d.f d.qual) := by rfl) : ∃ fd, FunD g.K d.f d.qual d.params d.body d.scope [] [] (pgt g.K d.x d.f) fd := by
  have c := T.chk j h2
  obtain ⟨rfl, _, _, _, c0⟩ := T
  have e : gs.map (fnGx g.K) = gs.map GetX.val := congrArg (fun z : AlC => z.2.2.2) c0
  have e2 : (gs.map (fnGx g.K))[i]? = (gs.map GetX.val)[i]? := by rw [e]
  rw [List.getElem?_map, List.getElem?_map, h] at e2
  exact getB_ok (Option.some.inj e2) c
theorem TopOf.fact (T : TopOf fa fn fc fs gs P g) (i : Nat) {f : He.Fa} (h : fa[i]? = some f := by rfl) : f.ok g.K = true := by
  obtain ⟨_, _, _, _, c⟩ := T
  exact c.d.fact i h
theorem TopOf.gf (T : TopOf fa fn fc fs gs P g) (i j : Nat) {x : Str} (h : fa[i]? = some (.glo x) := by rfl) (h2 : fa[j]? = some (.keep x) := by rfl) : Gf g x :=
  ⟨by obtain ⟨_, _, X, G, c⟩ := T; exact He.glo_ok X G (c.d.fact i h), He.keep_ok (T.fact j h2)⟩
theorem TopOf.gv (T : TopOf fa fn fc fs gs P g) (i : Nat) {x : Str} (h : fa[i]? = some (.glo x) := by rfl) : ∃ u, g.mg x = some u ∧ RelV (.ref (gad g.K x)) u := by
  obtain ⟨_, _, X, G, c⟩ := T
  exact ⟨_, He.glo_ok X G (c.d.fact i h), rfl⟩
theorem TopOf.gi (T : TopOf fa fn fc fs gs P g) (i : Nat) {x : Str} {n : Int} (h : fa[i]? = some (.int x n) := by rfl) : ∃ u, g.mg x = some u ∧ RelV (.int n) u := by
  obtain ⟨_, _, X, G, c⟩ := T
  obtain ⟨t, e⟩ := He.int_ok X G (c.d.fact i h)
  exact ⟨_, e, t, rfl⟩
theorem TopOf.gst (T : TopOf fa fn fc fs gs P g) (i : Nat) {x z : Str} (h : fa[i]? = some (.str x z) := by rfl) : ∃ u, g.mg x = some u ∧ RelV (.str z) u := by
  obtain ⟨_, _, X, G, c⟩ := T
  obtain ⟨t, e⟩ := He.str_ok X G (c.d.fact i h)
  exact ⟨_, e, t, rfl⟩
theorem TopOf.blt (T : TopOf fa fn fc fs gs P g) (i : Nat) {x : Str} (h : fa[i]? = some (.free x) := by rfl) : g.mg x = none := by
  obtain ⟨_, _, X, G, c⟩ := T
  exact He.free_ok X G (c.d.fact i h)
theorem TopOf.cls (T : TopOf fa fn fc fs gs P g) (i : Nat) {x : Str} (h : fa[i]? = some (.cls x) := by rfl) : Cls g.K (gad g.K x) := He.cls_ok (T.fact i h)
theorem TopOf.noat (T : TopOf fa fn fc fs gs P g) (i : Nat) {x f : Str} (h : fa[i]? = some (.noat x f) := by rfl) : NoAttr g.K (gad g.K x) f := He.noat_ok (T.fact i h)
theorem TopOf.meth (T : TopOf fa fn fc fs gs P g) (i : Nat) {x m : Str} (h : fa[i]? = some (.meth x m) := by rfl) : Meth g.K (gad g.K x) m (mad g.K (gad g.K x) m) := He.meth_ok (T.fact i h)
theorem TopOf.mkr (T : TopOf fa fn fc fs gs P g) (i : Nat) {x : Str} (h : fa[i]? = some (.mkr x) := by rfl) : Mk g.K (gad g.K x) (mad g.K (gad g.K x) "__init__") := He.mkr_ok (T.fact i h)
theorem TopOf.exm (T : TopOf fa fn fc fs gs P g) (i : Nat) {x y : Str} {b : Bool} (h : fa[i]? = some (.exm x y b) := by rfl) : PySem.W.exmOne g.K (.ref (gad g.K x)) (.ref (gad g.K y)) = some b := He.exm_ok (T.fact i h)
theorem TopOf.dat (T : TopOf fa fn fc fs gs P g) (i : Nat) {d : He.DefD} (h : fn[i]? = some d := by rfl) : ∃ fd, FunD g.K d.name d.qual d.params d.body d.scope (d.dvs g.K) (d.kws g.K) (He.fAd g.K d.at_) fd := by
  obtain ⟨_, _, X, G, c⟩ := T
  exact c.d.def_ i h
end
def propB (x f : Str) : Chk := fun K => He.eqO (PySem.W.findIn K (.ref (gad K x)) f) (some (some (.ref (pad K x f)))) && (He.eqO (PySem.W.specialIn K (.ref (pad K x f)) "__get__") (some (some (.builtin "property.__get__"))) &&
  (decide (PySem.W.takesIn K (.ref (pad K x f)) = some true) && (match PySem.W.recIn K (pad K x f) "property" with
    | some (.ref a :: _) => true
    | _ => false)))
theorem propB_ok {K : PySem.W.Frag} {x f : Str} (h : propB x f K = true) : PropOf K (gad K x) f (pad K x f) (pgt K x f) := by
  obtain ⟨h1, h⟩ := He.ba h
  obtain ⟨h2, h⟩ := He.ba h
  obtain ⟨h3, h4⟩ := He.ba h
  refine ⟨He.eqO_ok h1, He.eqO_ok h2, of_decide_eq_true h3, ?_⟩
  unfold pgt
  split at h4
  · rename_i a r e
    rw [e]
    exact ⟨r, rfl⟩
  · cases h4
/-- a function at a found place: what it is -/
def fnAtB (ad : PySem.W.Frag → Addr) (name qual : Str) (params : Arguments) (body : List Stmt) (scope : Scope) : PySem.W.Frag → He.FnW := fun K => match K.lookup (ad K) with
  | some ⟨_, _, .func fd, _⟩ => some (fd.name, fd.qualname, fd.params, fd.body, fd.scope, fd.globals, fd.closure, fd.builtins)
  | _ => none
/-- isinstance answers b -/
def kitC (x y : Str) (b : Bool) : Chk := fun K => decide (PySem.W.kitOne K (.ref (gad K x)) (.ref (gad K y)) = some b)
theorem kitC_ok {K : PySem.W.Frag} {x y : Str} {b : Bool} (h : kitC x y b K = true) : PySem.W.kitOne K (.ref (gad K x)) (.ref (gad K y)) = some b := of_decide_eq_true h
def kitT (x : Str) (n : String) (b : Bool) : Chk := fun K => decide (PySem.W.kitOne K (.ref (gad K x)) (.type n) = some b)
theorem kitT_ok {K : PySem.W.Frag} {x : Str} {n : String} {b : Bool} (h : kitT x n b K = true) : PySem.W.kitOne K (.ref (gad K x)) (.type n) = some b := of_decide_eq_true h
/-- an own error -/
def oexB (x : Str) : Chk := fun K => (match K.lookup (gad K x) with
    | some ⟨.type "type", dd, .cls cd, ⟨[k0, k1, k2, k3, some (.builtin n), k5]⟩⟩ => (match cd.mro with
      | .ref C' :: bm => decide (C' = gad K x) && (decide (n = "ValueError.__new__") && (cd.hasDict && (!cd.hasDel && PySem.HandSPX.refsVE bm)))
      | _ => false)
    | _ => false) && (He.eqO (PySem.W.findIn K (.ref (gad K x)) "__setattr__") (some (some (.builtin "object.__setattr__"))) && (decide (PySem.W.subIn K (.ref (gad K x)) (.type "BaseException") = some true) &&
      (decide (PySem.W.typeIn K (.ref (gad K x)) = some (.type "type")) && PySem.W.keepIn K (.ref (gad K x)))))
theorem oexB_ok {K : PySem.W.Frag} {x : Str} (h : oexB x K = true) : OexC K (gad K x) := by
  obtain ⟨h0, h⟩ := He.ba h
  obtain ⟨h1, h⟩ := He.ba h
  obtain ⟨h2, h⟩ := He.ba h
  obtain ⟨h3, h4⟩ := He.ba h
  refine ⟨?_, He.eqO_ok h1, of_decide_eq_true h2, of_decide_eq_true h3, h4⟩
  split at h0
  · rename_i dd cd k0 k1 k2 k3 n k5 e
    split at h0
    · rename_i C' bm em
      obtain ⟨a1, h0⟩ := He.ba h0
      obtain ⟨a2, h0⟩ := He.ba h0
      obtain ⟨a3, h0⟩ := He.ba h0
      obtain ⟨a4, a5⟩ := He.ba h0
      have e1 : C' = gad K x := of_decide_eq_true a1
      have e2 : n = "ValueError.__new__" := of_decide_eq_true a2
      obtain ⟨nm, bs, mro, ns, qn, hd, sn, sub, ab, col, del⟩ := cd
      dsimp only at em a3 a4
      subst em a3
      have a4 : del = false := by simpa using a4
      subst a4 e2
      rw [e1] at e
      exact ⟨nm, qn, ns, bs, bm, sn, sub, ab, col, dd, k0, k1, k2, k3, k5, e, a5⟩
    · cases h0
  · cases h0
/-- the __init__ of an own error -/
def einB (x : Str) : Chk := fun K => He.eqO (PySem.W.findIn K (.ref (gad K x)) "__init__") (some (some (.ref (mad K (gad K x) "__init__")))) && decide (PySem.W.typeIn K (.ref (mad K (gad K x) "__init__")) = some (.type "function"))
theorem einB_ok {K : PySem.W.Frag} {x : Str} (h : einB x K = true) : PySem.W.findIn K (.ref (gad K x)) "__init__" = some (some (.ref (mad K (gad K x) "__init__"))) ∧ PySem.W.typeIn K (.ref (mad K (gad K x) "__init__")) = some (.type "function") :=
  ⟨He.eqO_ok (He.ba h).1, of_decide_eq_true (He.ba h).2⟩
def xfC (x : Str) : Chk := fun K => xfB K (gad K x)
theorem xfC_ok {K : PySem.W.Frag} {x : Str} (h : xfC x K = true) : XfC K (gad K x) := xfB_ok h
def excB (x : Str) : Chk := fun K => He.eqO (PySem.W.findIn K (.ref (gad K x)) "__getattribute__") (some (some (.builtin "BaseException.__getattribute__"))) && (He.eqO (PySem.W.findIn K (.ref (gad K x)) "__getattr__") (some none) &&
  (decide (PySem.W.subIn K (.ref (gad K x)) (.type "BaseException") = some true) && (PySem.W.hasDictIn K (gad K x) && (He.eqO (PySem.W.findIn K (.ref (gad K x)) "__class__") (some (some (.builtin "object.__class__"))) &&
    (He.eqO (PySem.W.specialIn K (.builtin "object.__class__") "__get__") (some (some (.builtin "getset_descriptor.__get__"))) && (decide (PySem.W.takesIn K (.builtin "object.__class__") = some true) && decide (PySem.W.mroIn K (gad K x) (.type "object") = some true)))))))
theorem excB_ok {K : PySem.W.Frag} {x : Str} (h : excB x K = true) : ExcC K (gad K x) := by
  obtain ⟨h1, h⟩ := He.ba h
  obtain ⟨h2, h⟩ := He.ba h
  obtain ⟨h3, h⟩ := He.ba h
  obtain ⟨h4, h⟩ := He.ba h
  obtain ⟨h5, h⟩ := He.ba h
  obtain ⟨h6, h⟩ := He.ba h
  obtain ⟨h7, h8⟩ := He.ba h
  exact ⟨He.eqO_ok h1, He.eqO_ok h2, of_decide_eq_true h3, h4, He.eqO_ok h5, He.eqO_ok h6, of_decide_eq_true h7, of_decide_eq_true h8⟩
/-- a class's constant -/
def cvalB (x f : Str) (i : Int) : Chk := fun K => PySem.W.readsIn K (gad K x) (.type "type") && (He.eqO (PySem.W.specialIn K (.ref (gad K x)) "__getattribute__") (some (some (.builtin "type.__getattribute__"))) && (match PySem.W.findCls K (.ref (gad K x)) (.type "type") f with
  | some (.val (.int j _)) => decide (j = i)
  | _ => false))
theorem cvalB_ok {K : PySem.W.Frag} {x f : Str} {i : Int} (h : cvalB x f i K = true) : ∃ u, ClX.CRead K (gad K x) (.type "type") ∧ ClX.CVal K (gad K x) (.type "type") f (.int i) u := by
  obtain ⟨h1, h⟩ := He.ba h
  obtain ⟨h2, h3⟩ := He.ba h
  split at h3
  · rename_i j t e
    have ej : j = i := of_decide_eq_true h3
    subst ej
    exact ⟨_, ⟨h1, He.eqO_ok h2⟩, ⟨e, _, rfl⟩⟩
  · cases h3
/-- an own __add__, __len__ -/
def dunB (x m : Str) : Chk := fun K => He.eqO (PySem.W.findIn K (.ref (gad K x)) m) (some (some (.ref (mad K (gad K x) m)))) && PySem.W.isFn K (.ref (mad K (gad K x) m))
theorem dunB_ok {K : PySem.W.Frag} {x m : Str} (h : dunB x m K = true) : PySem.W.findIn K (.ref (gad K x)) m = some (some (.ref (mad K (gad K x) m))) ∧ PySem.W.isFn K (.ref (mad K (gad K x) m)) = true := ⟨He.eqO_ok (He.ba h).1, (He.ba h).2⟩
def selfB (x : Str) : Chk := fun K => PySem.W.selfFirst K (gad K x)
theorem ite_i {b : Bool} {A B : Prop} (h1 : b = true → A) (h2 : b = false → B) : if b = true then A else B := by
  cases b with
  | true => exact h1 rfl
  | false => exact h2 rfl
theorem dt {p : Prop} [Decidable p] (h : decide p = true) : p := of_decide_eq_true h
theorem df {p : Prop} [Decidable p] (h : decide p = false) : ¬p := of_decide_eq_false h
end Cy
namespace Cy
open PySem PySem.Spec PyProof.Rows L2
/-- what a loop walks: a list, a tuple, a text -/
inductive SeqP (K : PySem.W.Frag) (x : V) (H : Hp) (R : It → Hp → Prop) : Prop where
  | l {a : Addr} {xs : List V} (e : x = .ref a) (h : SqL K H a xs) (k : R (Itl K a) H)
  | t {a : Addr} {xs : List V} (e : x = .ref a) (h : SqT K H a xs) (k : R (Itt K a) H)
  | s {y : Str} (e : x = .str y) (k : R (Its y) H)
def iSeq (K : PySem.W.Frag) (tl : TE) : TI := fun σ H R => tl σ H fun x H1 => SeqP K x H1 R
theorem pi_seq {X : Cx} {tg l : Expr} {tl : TE} (hl : PE X l tl) : PI X tg l (iSeq X.K tl) := by
  refine ⟨fun pins s σ H R I h => ?_⟩
  refine thn (hl.run pins s σ H _ I h) fun v s1 ⟨x, H1, I1, r1, q1⟩ => ?_
  cases q1 with
  | l e hq q =>
    rename_i a xs
    subst e
    cases r1
    obtain ⟨its, rv, p, hz⟩ := I1.list hq
    refine wpAny_pyIter_list p.isList ?_
    refine ⟨s1.heap.objs.size, [s1.heap.objs.size], _, _, H1, rfl, I1.kept (t' := s1.toks) fun b o e => Heap.get?_push_of_some _ e, turn_list a _, ⟨_, Heap.get?_push_size _ rfl, rfl, rfl⟩, fun b hb => ?_, q⟩
    have e : b = s1.heap.objs.size := by simpa using hb
    subst e
    exact I1.fpOk (Nat.le_refl _) (I1.hok.fresh (Nat.le_refl _))
  | t e hq q =>
    rename_i a xs
    subst e
    cases r1
    obtain ⟨its, rv, p, hz⟩ := I1.tuple hq
    refine wpAny_pyIter_tuple (show s1.heap.IsTuple a its.toArray from p) ?_
    refine ⟨s1.heap.objs.size, [s1.heap.objs.size], _, _, H1, rfl, I1.kept (t' := s1.toks) fun b o e => Heap.get?_push_of_some _ e, turn_tuple a _, ⟨_, Heap.get?_push_size _ rfl, rfl, rfl⟩, fun b hb => ?_, q⟩
    have e : b = s1.heap.objs.size := by simpa using hb
    subst e
    exact I1.fpOk (Nat.le_refl _) (I1.hok.fresh (Nat.le_refl _))
  | s e q =>
    rename_i x
    subst e
    obtain ⟨t, rfl⟩ := r1
    cases ha : x.cps.all (· < 128)
    · exact wpAny_pyIter_wide ha (pi_one (tk := s1.toks) I1 _ (turn_str _ x t "str_iterator" (.inr rfl)) ⟨_, Heap.get?_push_size _ rfl, rfl, rfl⟩ q)
    · exact wpAny_pyIter_ascii ha (pi_one (tk := s1.toks) I1 _ (turn_str _ x t "str_ascii_iterator" (.inl rfl)) ⟨_, Heap.get?_push_size _ rfl, rfl, rfl⟩ q)
/-- a formatted part by values -/
def cFmt (te : TE) : TE := fun σ H Q => te σ H fun x H1 => match x with
  | .str y => y.length ≤ sizeLine ∧ Q (.str y) H1
  | .int i => i.natAbs.log2 < 1920 ∧ Q (.str (toString i)) H1
  | _ => False
theorem pe_cFmt {X : Cx} {e : Expr} {te : TE} {pos : Pos} (he : PE X e te) : PE X (.FormattedValue e (-1) none pos) (cFmt te) := by
  refine ⟨fun pins s σ H Q I h => ?_⟩
  refine wpAny_FormattedValue_plain (thn (he.run pins s σ H _ I h) fun v s1 hv => ?_)
  obtain ⟨x, H1, I1, r1, q⟩ := hv
  cases x <;> first
    | exact (show False from q).elim
    | skip
  · obtain ⟨t, rfl⟩ := r1
    exact wpAny_formatField_int q.1 ⟨.str (toString _), H1, I1.tok _, ⟨_, rfl⟩, q.2⟩
  · obtain ⟨t, rfl⟩ := r1
    exact wpAny_formatField_str ⟨.str _, H1, I1, ⟨t, rfl⟩, q.2⟩ ⟨.str _, H1, I1.tok _, ⟨_, rfl⟩, q.2⟩ q.1
/-- the parts of an f-string by values -/
def cJs : List TE → Str → St → Hp → (Str → Hp → Prop) → Prop
  | [], acc, _, H, Q => Q acc H
  | t :: ts, acc, σ, H, Q => t σ H fun x H1 => match x with
    | .str y => (acc ++ y).length ≤ sizeLine ∧ cJs ts (acc ++ y) σ H1 Q
    | _ => False
def cJoin (ts : List TE) : TE := fun σ H Q => cJs ts Str.empty σ H fun out H1 => Q (.str out) H1
theorem cj_run {X : Cx} {pins : List (Addr × Obj)} {σ : St} {es : List Expr} {ts : List TE} (h : PJ X es ts) : ∀ (acc : Str) (s : Shared) (H : Hp) (Q : Str → Hp → Prop) (R : Str → Shared → Prop), acc.length ≤ sizeLine → Inv X pins σ H s → cJs ts acc σ H Q →
    (∀ out s1 H1, out.length ≤ sizeLine → Inv X pins σ H1 s1 → Q out H1 → R out s1) → Joins (model X.prog X.w) X.A X.xe (evalEach es X.env) acc R s := by
  induction h with
  | nil =>
    intro acc s H Q R hz I q k
    have e0 : evalEach [] X.env = [] := by first | rfl | simp [evalEach]
    rw [e0]
    exact k acc s H hz I q
  | @cons e t es ts he r ih =>
    intro acc s H Q R hz I q k
    have e0 : evalEach (e :: es) X.env = eval e X.env :: evalEach es X.env := by first | rfl | simp [evalEach]
    rw [e0]
    refine thn (he.run pins s σ H _ I q) fun v s1 hv => ?_
    obtain ⟨x, H1, I1, r1, q1⟩ := hv
    cases x <;> first
      | exact (show False from q1).elim
      | skip
    rename_i y
    obtain ⟨hy, q1⟩ : (acc ++ y).length ≤ sizeLine ∧ cJs ts (acc ++ y) σ H1 Q := q1
    obtain ⟨tk, rfl⟩ := r1
    exact ⟨y, tk, rfl, hy, ih (acc ++ y) s1 H1 Q R hy I1 q1 k⟩
theorem pe_cJoin {X : Cx} {v1 v2 : Expr} {rest : List Expr} {ts : List TE} {pos : Pos} (h : PJ X (v1 :: v2 :: rest) ts) : PE X (.JoinedStr (v1 :: v2 :: rest) pos) (cJoin ts) := by
  refine ⟨fun pins s σ H Q I q => ?_⟩
  exact wpAny_JoinedStr (cj_run h Str.empty s H (fun out H1 => Q (.str out) H1) _ (Nat.zero_le _) I q fun out s1 H1 hz I1 q1 => ⟨hz, .str out, H1, I1.tok _, ⟨_, rfl⟩, q1⟩)
/-- targets by values -/
def cgCons (t : TG) (u : TGs) : TGs := fun vs σ H Q => match vs with
  | v :: r => t v σ H fun σ' H' => u r σ' H' Q
  | [] => False
def cgNil : TGs := fun vs σ H Q => match vs with
  | [] => Q σ H
  | _ => False
inductive UnpP (K : PySem.W.Frag) (n : Nat) (v : V) (H : Hp) (R : List V → Prop) : Prop where
  | t {a : Addr} {xs : List V} (e : v = .ref a) (h : SqT K H a xs) (hl : xs.length = n) (k : R xs)
def cgTup (K : PySem.W.Frag) (n : Nat) (t : TGs) : TG := fun v σ H Q => UnpP K n v H fun xs => t xs σ H Q
section
variable {X : Cx} {e : Expr} {es : List Expr} {pos : Pos}
theorem pgs_cnil : PGs X [] cgNil := ⟨fun pins s σ H vs us Q I r h => by
  match vs, h with
  | [], h => exact pgs_nil.run pins s σ H [] us Q I r ⟨rfl, h⟩⟩
theorem pgs_ccons {t : TG} {u : TGs} (h1 : PG X e t) (h2 : PGs X es u) (hs : (assignEach (e :: es) X.env).map (·.2) = assign e X.env :: (assignEach es X.env).map (·.2) := by rfl) : PGs X (e :: es) (cgCons t u) := ⟨fun pins s σ H vs us Q I r h => by
  match vs, h with
  | v :: vr, h => exact (pgs_cons h1 h2 hs).run pins s σ H _ us Q I r ⟨v, vr, rfl, h⟩⟩
theorem pg_ctup {k : Nat} {t : TGs} {n : Nat} (hc : X.calm = true) (h : PGs X es t) (hn : (assignEach es X.env).length = n := by rfl) (hst : (assignEach es X.env).findIdx? (·.1) = none := by rfl) : PG X (.Tuple es k pos) (cgTup X.K n t) := ⟨fun pins s σ H v u Q I r hw => by
  obtain ⟨ev, hx, hl, k⟩ := hw
  exact (pg_tup hc h hn hst).run pins s σ H v u Q I r ⟨_, _, ev, hx, hl, k⟩⟩
end
end Cy
namespace Cy
open PySem PySem.Spec PyProof.Rows L2
/-- a class whose instances are made by object's __init__ -/
structure MkZ (K : PySem.W.Frag) (C : Addr) : Prop where
  makes : PySem.W.makesIn K C = true
  init : PySem.W.findIn K (.ref C) "__init__" = some (some (.builtin "object.__init__"))
def mkzB (x : Str) : Chk := fun K => PySem.W.makesIn K (gad K x) && He.eqO (PySem.W.findIn K (.ref (gad K x)) "__init__") (some (some (.builtin "object.__init__")))
theorem mkzB_ok {K : PySem.W.Frag} {x : Str} (h : mkzB x K = true) : MkZ K (gad K x) := ⟨(He.ba h).1, He.eqO_ok (He.ba h).2⟩
section
variable {X : Cx} {W : WX} {j : Nat} {x : Str} {p pos : Pos}
theorem run_makeZ {C : Addr} {pins : List (Addr × Obj)} {σ : St} {H : Hp} {s : Shared} {Q : VK} (I : Inv X pins σ H s) (M : MkZ X.K C)
    (h : ∀ x dx, H x = none → H dx = none → dx ≠ x → Q (.ref x) (upd (upd H dx (.own x)) x (.ins C dx []))) :
    wpAny (model X.prog X.w) X.A (call (.ref C) []) (EP X pins σ Q) X.xe s := by
  have hq := h (s.heap.objs.size + 1) s.heap.objs.size (I.hok.fresh (Nat.le_succ _)) (I.hok.fresh (Nat.le_refl _)) (Nat.ne_of_lt (Nat.lt_succ_self _))
  have I2 := Inv.made (C := C) I
  refine wpAny_call (make_map0 I.kIn M.makes M.init (fun self => PySem.W.Looks.of_pure (PySem.W.oi_bind _)) ?_)
  have X2 := I2.kIn
  have ho : ((s.heap.push PySem.W.emptyDict).push (PySem.W.instObj C s.heap.objs.size)).get? (s.heap.objs.size + 1) = some (PySem.W.instObj C s.heap.objs.size) := by
    have := Heap.get?_push_size (s.heap.push PySem.W.emptyDict) (o := PySem.W.instObj C s.heap.objs.size) rfl
    rwa [Heap.size_push] at this
  have t1 : PySem.W.Looks (model X.prog X.w) ((s.heap.push PySem.W.emptyDict).push (PySem.W.instObj C s.heap.objs.size)) (typeOf (.ref (s.heap.objs.size + 1))) (.ref C) := NwA.type_at ho rfl
  have t2 : PySem.W.Looks (model X.prog X.w) ((s.heap.push PySem.W.emptyDict).push (PySem.W.instObj C s.heap.objs.size)) (isInstance (.ref (s.heap.objs.size + 1)) (.type "object")) true := t1.andThen (PySem.W.looks_mroIn X2 (mro_obj M.makes))
  refine codeAny_call_builtin PySem.W.oi_plain PySem.W.entry_oi (@PySem.W.check_slot (model X.prog X.w) _ _ _ "object.__init__" "object" "__init__" (.ref _) [] [] _ PySem.W.oi_kind PySem.W.oi_split t2 (NwA.oi_args_any (.ref _) [] []) ?_)
  rw [PySem.W.oi_run]
  exact wpAny_pure ⟨rfl, ⟨V.ref (s.heap.objs.size + 1), _, I2, rfl, hq⟩⟩
inductive New0P (g : Wd) (j : Nat) (C : Addr) (H : Hp) (Q : VK) (E : XK) : Prop where
  | own (m : MakeP g j C [] H Q E)
  | obj (M : MkZ g.K C) (h : ∀ x dx, H x = none → H dx = none → dx ≠ x → Q (.ref x) (upd (upd H dx (.own x)) x (.ins C dx [])))
def cNew0 (g : Wd) (j : Nat) (W : WX) (C : Addr) : TE := fun σ H Q => New0P g j C H Q (fun cls d H' => W cls d σ H')
theorem pe_cNew0 (tk : Takes X W) (hr : Room j X.A) (hf : Gf (.of X) x) (hg : Gl X x) (hdb : (x == ("__debug__" : Str)) = false := by decide) : PE X (.Call (.Name x p) [] [] pos) (cNew0 (.of X) j W (gad X.K x)) := by
  refine ⟨fun pins s σ H Q I h => ?_⟩
  refine wpAny_Call_Name_kw (ld_glob I hg hf.mg ?_ hdb)
  refine PySem.W.callWith_K0 I.kIn hf.kp ?_
  cases h with
  | own m => exact run_makeP (us := []) hr (passAt tk σ) I .nil m
  | obj M h => exact run_makeZ I M h
end
def cTry (K : PySem.W.Frag) (c : Value) (i : Nat) (tb : WX → TS) (ts : Addr → Value → Option Addr → TS) (Wout : WX) : TS := fun D σ H => tb (wAs K c i ts Wout D) D σ H
section
variable {X : Cx} {x n : Str} {c : Value} {i : Nat} {body suite : List Stmt} {b₀ : Stmt} {np pos pos' : Pos} {tb : WX → TS} {ts : Addr → Value → Option Addr → TS} {Wout : WX}
theorem ps_cTry (hs : X.stack = X.env :: X.outer) (hf : X.env.frame = some X.env.locals) (hN : X.N.Nodup) (hi : X.N[i]? = some n) (hln : X.env.kindOf n = some .local) (hc : Names X x c) (tk : Takes X Wout)
    (hb : ∀ (W : WX) (pn : List (Addr × Obj)) (xe : Value → Shared → Prop), Takes (X.tr pn xe) W → PassesOwn (model X.prog X.w) X.A X.env xe → PSs (X.tr pn xe) body (tb W))
    (hsu : ∀ (a : Addr) (oe : Obj) (cls : Value) (d : Option Addr) (pn : List (Addr × Obj)), Zc cls d oe → (∃ vs, oe.data = .fields vs) → PSs (X.suite a ((a, oe) :: pn)) (b₀ :: suite) (ts a cls d)) :
    PS X (.Try body [.ExceptHandler (some (.Name x np)) (some n) (b₀ :: suite) pos'] [] [] pos) (cTry X.K c i tb ts Wout) := ps_try_as hs hf hN hi hln hc tk hb hsu
end
theorem roomH_mark {k : Nat} {A : Around} {v : Option Value} (r : Room k A) : L2H.RoomH k (A.mark v) := ⟨r.dp, r.un⟩
theorem roomH_units {k : Nat} {A : Around} (r : L2H.RoomH k A) : A.units + 64 < cLine := by have := r.un; omega
/-- isinstance may ask its instances -/
def tyB (x : Str) : Chk := fun K => He.eqO (PySem.W.findIn K (.ref (gad K x)) "__class__") (some (some (.builtin "object.__class__"))) && (He.eqO (PySem.W.specialIn K (.builtin "object.__class__") "__get__") (some (some (.builtin "getset_descriptor.__get__"))) &&
  (decide (PySem.W.takesIn K (.builtin "object.__class__") = some true) && decide (PySem.W.mroIn K (gad K x) (.type "object") = some true)))
theorem tyB_ok {K : PySem.W.Frag} {x : Str} (h : tyB x K = true) (cl : Cls K (gad K x)) {H : Hp} {a dx : Addr} {fs : List (Str × V)} (e : H a = some (.ins (gad K x) dx fs)) : TyX K H (.ref a) (.ref (gad K x)) := by
  obtain ⟨h1, h⟩ := He.ba h
  obtain ⟨h2, h⟩ := He.ba h
  obtain ⟨h3, h4⟩ := He.ba h
  exact .base (.ins e cl (He.eqO_ok h1) (He.eqO_ok h2) (of_decide_eq_true h3) (of_decide_eq_true h4))
theorem fnG_of {g : Wd} {fd : FuncData} {f : Addr} {ps : List Str} {sp : Sp} {k : Nat} (F : FnOk g.P g.w g.K g.mg g.base (L2.CX g.P g.w) k f fd ps sp) (hb : Binds g.K fd ps []) : FnG g k f sp :=
  (F.raw hb .nil).imp fun vs H Q E h => by rw [List.append_nil]; exact h
end Cy
namespace Cy
open PySem PySem.Spec PyProof.Rows L2
inductive JoinL (K : PySem.W.Frag) (a : Str) (p : Addr) (H : Hp) (Q : VK) : Prop where
  | by {ys : List Str} (h : SqL K H p (ys.map V.str)) (hl : (ys.map (·.length)).sum + ys.length * a.length ≤ 16777216) (k : Q (.str (Txt.join a ys)) H)
def mJoin (K : PySem.W.Frag) : Str → List V → Hp → VK → Prop := fun a xs H Q => match xs with
  | [.ref p] => JoinL K a p H Q
  | _ => False
theorem m_join {X : Cx} : MtS' X "str.join" (mJoin X.K) := .of mt_join fun a xs H Q h => by
  match xs, h with
  | [.ref p], h =>
    obtain ⟨h, hl, k⟩ : JoinL X.K a p H Q := h
    exact ⟨a, p, _, rfl, rfl, .inl h, hl, k⟩
theorem JoinL.mk {K : PySem.W.Frag} {a : Str} {p : Addr} {H : Hp} {Q : VK} (ys : List Str) (h : H p = some (.lst (ys.map V.str))) (hl : (ys.map (·.length)).sum + ys.length * a.length ≤ 16777216)
    (k : Q (.str (Txt.join a ys)) H) : JoinL K a p H Q := .by (SqL.of h) hl k
end Cy
namespace Cy
open PySem PySem.Spec PyProof.Rows L2
abbrev kG (n : Nat) (g : Addr → Option Obj) : PySem.W.Frag := He.frG g (He.asD g n ++ [cStatics])
theorem mp2 {S A B : Type} {E : Option S} {f : S → A} {g : S → B} {a : A} {b : B} (x : E.map f = some a) (y : E.map g = some b) : E.map (fun s => (f s, g s)) = some (a, b) := by
  cases E with
  | none => cases x
  | some s => exact congrArg some (Prod.ext (Option.some.inj x) (Option.some.inj y))
theorem mpApp {S : Type} {E : Option S} {k : S → PySem.W.Frag} {l1 l2 : List Chk} (x : E.map (fun s => l1.map fun c => c (k s)) = some (l1.map fun _ => true)) (y : E.map (fun s => l2.map fun c => c (k s)) = some (l2.map fun _ => true)) :
    E.map (fun s => (l1 ++ l2).map fun c => c (k s)) = some ((l1 ++ l2).map fun _ => true) := by
  cases E with
  | none => cases x
  | some s =>
    refine congrArg some ?_
    show (l1 ++ l2).map (fun c => c (k s)) = (l1 ++ l2).map fun _ => true
    rw [List.map_append, List.map_append]
    exact congr (congrArg _ (Option.some.inj x)) (Option.some.inj y)
theorem mpF {S : Type} {E : Option S} {k : S → PySem.W.Frag} {l1 l2 : List He.Fa} (x : E.map (fun s => l1.all fun f => f.ok (k s)) = some true) (y : E.map (fun s => l2.all fun f => f.ok (k s)) = some true) :
    E.map (fun s => (l1 ++ l2).all fun f => f.ok (k s)) = some true := by
  cases E with
  | none => cases x
  | some s =>
    refine congrArg some ?_
    have a : (l1.all fun f => f.ok (k s)) = true := Option.some.inj x
    have b : (l2.all fun f => f.ok (k s)) = true := Option.some.inj y
    show ((l1 ++ l2).all fun f => f.ok (k s)) = true
    rw [List.all_append, a, b]
    rfl
theorem mpN {S : Type} {E : Option S} {k : S → PySem.W.Frag} {l1 l2 : List He.DefD} (x : E.map (fun s => (l1.all (fun d => d.ok (k s)), l1.map fun d => He.fnW (k s) d.at_)) = some (true, l1.map He.DefD.val))
    (y : E.map (fun s => (l2.all (fun d => d.ok (k s)), l2.map fun d => He.fnW (k s) d.at_)) = some (true, l2.map He.DefD.val)) :
    E.map (fun s => ((l1 ++ l2).all (fun d => d.ok (k s)), (l1 ++ l2).map fun d => He.fnW (k s) d.at_)) = some (true, (l1 ++ l2).map He.DefD.val) := by
  cases E with
  | none => cases x
  | some s =>
    refine congrArg some ?_
    obtain ⟨a1, a2⟩ := Prod.mk.inj (Option.some.inj x)
    obtain ⟨b1, b2⟩ := Prod.mk.inj (Option.some.inj y)
    show ((l1 ++ l2).all (fun d => d.ok (k s)), (l1 ++ l2).map fun d => He.fnW (k s) d.at_) = (true, (l1 ++ l2).map He.DefD.val)
    rw [List.all_append, List.map_append, List.map_append, a1, a2, b1, b2]
    rfl
theorem obs_join {S : Type} {E : Option S} {k : S → Addr → Option Obj} {n : Nat} {fa : List He.Fa} {fn : List He.DefD} {fc : List Chk} {fs : List SupX} {gs : List GetX}
    (hF : E.map (fun s => fa.all fun f => f.ok (kG n (k s))) = some true)
    (hN : E.map (fun s => (fn.all (fun d => d.ok (kG n (k s))), fn.map fun d => He.fnW (kG n (k s)) d.at_)) = some (true, fn.map He.DefD.val))
    (hC : E.map (fun s => fc.map fun c => c (kG n (k s))) = some (fc.map fun _ => true))
    (hS : E.map (fun s => (fs.map fun d => fnS (kG n (k s)) d.x, gs.map (fnGx (kG n (k s))))) = some (fs.map SupX.val, gs.map GetX.val)) :
    E.map (fun s => obsCG n fa fn fc fs gs (k s)) = some (valC fn fc fs gs) := by
  cases E with
  | none => cases hF
  | some s =>
    have a : (fa.all fun f => f.ok (kG n (k s))) = true := Option.some.inj hF
    have b : (fn.all (fun d => d.ok (kG n (k s))), fn.map fun d => He.fnW (kG n (k s)) d.at_) = (true, fn.map He.DefD.val) := Option.some.inj hN
    have c : (fc.map fun c => c (kG n (k s))) = (fc.map fun _ => true) := Option.some.inj hC
    have d : (fs.map (fun d => fnS (kG n (k s)) d.x), gs.map (fnGx (kG n (k s)))) = (fs.map SupX.val, gs.map GetX.val) := Option.some.inj hS
    obtain ⟨b1, b2⟩ := Prod.mk.inj b
    obtain ⟨d1, d2⟩ := Prod.mk.inj d
    show some ((((fa.all fun f => f.ok (kG n (k s))) && fn.all fun d => d.ok (kG n (k s))), fn.map fun d => He.fnW (kG n (k s)) d.at_), (fc.map fun c => c (kG n (k s))), (fs.map fun d => fnS (kG n (k s)) d.x), gs.map (fnGx (kG n (k s)))) = some (((true : Bool), fn.map He.DefD.val), (fc.map fun _ => true), fs.map SupX.val, gs.map GetX.val)
    rw [a, b1, b2, c, d1, d2]
    rfl
end Cy
namespace Cy
open PySem PySem.Spec PyProof.Rows L2
abbrev kL (as : List Addr) (g : Addr → Option Obj) : PySem.W.Frag := He.frG g as
def obsCL (as : List Addr) (fa : List He.Fa) (fn : List He.DefD) (fc : List Chk) (fs : List SupX) (gs : List GetX) (g : Addr → Option Obj) : AlC := obsC fa fn fc fs gs (He.frG g as)
def hookL (as : List Addr) (fa : List He.Fa) (fn : List He.DefD) (fc : List Chk) (fs : List SupX) (gs : List GetX) : PySem.W.Hook where
  α := AlC
  obs := fun s => obsCL as fa fn fc fs gs s.heap.get?
  val := fun _ => valC fn fc fs gs
  says := fun _ h => ∃ K : PySem.W.Frag, K.In h ∧ SaysC fa fn fc fs gs K
  of := fun _ _ e => ⟨_, He.frG_in, e⟩
  keeps := fun _ _ _ ⟨K, hK, c⟩ k => ⟨K, PySem.W.Frag.In.keeps hK k, c⟩
theorem obsCL_eq {as : List Addr} {fa : List He.Fa} {fn : List He.DefD} {fc : List Chk} {fs : List SupX} {gs : List GetX} {g : Addr → Option Obj} {s : Shared} (h : ∀ a, g a = s.heap.get? a) : obsCL as fa fn fc fs gs g = (hookL as fa fn fc fs gs).obs s := by
  have e : g = s.heap.get? := funext h
  rw [e] <;> rfl
theorem obsL_join {S : Type} {E : Option S} {k : S → Addr → Option Obj} {as : List Addr} {fa : List He.Fa} {fn : List He.DefD} {fc : List Chk} {fs : List SupX} {gs : List GetX}
    (hF : E.map (fun s => fa.all fun f => f.ok (kL as (k s))) = some true)
    (hN : E.map (fun s => (fn.all (fun d => d.ok (kL as (k s))), fn.map fun d => He.fnW (kL as (k s)) d.at_)) = some (true, fn.map He.DefD.val))
    (hC : E.map (fun s => fc.map fun c => c (kL as (k s))) = some (fc.map fun _ => true))
    (hS : E.map (fun s => (fs.map fun d => fnS (kL as (k s)) d.x, gs.map (fnGx (kL as (k s))))) = some (fs.map SupX.val, gs.map GetX.val)) :
    E.map (fun s => obsCL as fa fn fc fs gs (k s)) = some (valC fn fc fs gs) := by
  cases E with
  | none => cases hF
  | some s =>
    have a : (fa.all fun f => f.ok (kL as (k s))) = true := Option.some.inj hF
    have b : (fn.all (fun d => d.ok (kL as (k s))), fn.map fun d => He.fnW (kL as (k s)) d.at_) = (true, fn.map He.DefD.val) := Option.some.inj hN
    have c : (fc.map fun c => c (kL as (k s))) = (fc.map fun _ => true) := Option.some.inj hC
    have d : (fs.map (fun d => fnS (kL as (k s)) d.x), gs.map (fnGx (kL as (k s)))) = (fs.map SupX.val, gs.map GetX.val) := Option.some.inj hS
    obtain ⟨b1, b2⟩ := Prod.mk.inj b
    obtain ⟨d1, d2⟩ := Prod.mk.inj d
    show some ((((fa.all fun f => f.ok (kL as (k s))) && fn.all fun d => d.ok (kL as (k s))), fn.map fun d => He.fnW (kL as (k s)) d.at_), (fc.map fun c => c (kL as (k s))), (fs.map fun d => fnS (kL as (k s)) d.x), gs.map (fnGx (kL as (k s)))) = some (((true : Bool), fn.map He.DefD.val), (fc.map fun _ => true), fs.map SupX.val, gs.map GetX.val)
    rw [a, b1, b2, c, d1, d2]
    rfl
end Cy
namespace Lw
open PySem PySem.Spec PyProof.Rows L2 Cy
def top (i : Nat) : Stmt := PySem.Challenge.pw_carrylog_k54_choose_family.main.body.getD i (.Pass ⟨0, 0, 0, 0⟩)
def d0 : He.DefD := ⟨("_wall", none), "_wall", "_wall", defArgs (top 0), defBody (top 0), defScope (top 0), [], []⟩ -- _wall
def s0 : SupX := ⟨"InvalidInput", "InvalidInput.__init__", defArgs (inClass (top 3) 0), defBody (inClass (top 3) 0), defScope (inClass (top 3) 0)⟩
def s1 : SupX := ⟨"NoPlace", "NoPlace.__init__", defArgs (inClass (top 4) 0), defBody (inClass (top 4) 0), defScope (inClass (top 4) 0)⟩
def s2 : SupX := ⟨"BadRule", "BadRule.__init__", defArgs (inClass (top 5) 0), defBody (inClass (top 5) 0), defScope (inClass (top 5) 0)⟩
def d1 : He.DefD := ⟨("at_least", none), "at_least", "at_least", defArgs (top 7), defBody (top 7), defScope (top 7), [], []⟩ -- at_least
def d2 : He.DefD := ⟨("at_most", none), "at_most", "at_most", defArgs (top 8), defBody (top 8), defScope (top 8), [], []⟩ -- at_most
def d3 : He.DefD := ⟨("whole_number", none), "whole_number", "whole_number", defArgs (top 9), defBody (top 9), defScope (top 9), [], []⟩ -- whole_number
def d4 : He.DefD := ⟨("good_word", none), "good_word", "good_word", defArgs (top 10), defBody (top 10), defScope (top 10), [], []⟩ -- good_word
def d5 : He.DefD := ⟨("living", none), "living", "living", defArgs (top 12), defBody (top 12), defScope (top 12), [], []⟩ -- living
def d6 : He.DefD := ⟨("depths", none), "depths", "depths", defArgs (top 13), defBody (top 13), defScope (top 13), [], []⟩ -- depths
def d7 : He.DefD := ⟨("carry", none), "carry", "carry", defArgs (top 14), defBody (top 14), defScope (top 14), [], []⟩ -- carry
def d8 : He.DefD := ⟨("append_record", none), "append_record", "append_record", defArgs (top 15), defBody (top 15), defScope (top 15), [.str "1"], []⟩ -- append_record
def d9 : He.DefD := ⟨("_trimmed", none), "_trimmed", "_trimmed", defArgs (top 16), defBody (top 16), defScope (top 16), [], []⟩ -- _trimmed
def d10 : He.DefD := ⟨("_ones", none), "_ones", "_ones", defArgs (top 17), defBody (top 17), defScope (top 17), [], []⟩ -- _ones
def d11 : He.DefD := ⟨("_depth_list", none), "_depth_list", "_depth_list", defArgs (top 18), defBody (top 18), defScope (top 18), [], []⟩ -- _depth_list
def d12 : He.DefD := ⟨("_carried", none), "_carried", "_carried", defArgs (top 19), defBody (top 19), defScope (top 19), [], []⟩ -- _carried
def d13 : He.DefD := ⟨("_appended", none), "_appended", "_appended", defArgs (top 20), defBody (top 20), defScope (top 20), [], []⟩ -- _appended
def d14 : He.DefD := ⟨("check_standing", none), "check_standing", "check_standing", defArgs (top 22), defBody (top 22), defScope (top 22), [.int 0], []⟩ -- check_standing
def d15 : He.DefD := ⟨("counted_places", none), "counted_places", "counted_places", defArgs (top 23), defBody (top 23), defScope (top 23), [], []⟩ -- counted_places
def d16 : He.DefD := ⟨("blocked_now", none), "blocked_now", "blocked_now", defArgs (top 24), defBody (top 24), defScope (top 24), [], []⟩ -- blocked_now
def d17 : He.DefD := ⟨("short_now", none), "short_now", "short_now", defArgs (top 25), defBody (top 25), defScope (top 25), [], []⟩ -- short_now
def d18 : He.DefD := ⟨("blocked_at", none), "blocked_at", "blocked_at", defArgs (top 26), defBody (top 26), defScope (top 26), [.int 0], [("late", .bl false)]⟩ -- blocked_at
def d19 : He.DefD := ⟨("short_at", none), "short_at", "short_at", defArgs (top 27), defBody (top 27), defScope (top 27), [.int 0], [("late", .bl false)]⟩ -- short_at
def d20 : He.DefD := ⟨("critical_put", none), "critical_put", "critical_put", defArgs (top 28), defBody (top 28), defScope (top 28), [], []⟩ -- critical_put
def d21 : He.DefD := ⟨("life", none), "life", "life", defArgs (top 29), defBody (top 29), defScope (top 29), [.int 0], [("late", .bl false)]⟩ -- life
def d22 : He.DefD := ⟨("safe", none), "safe", "safe", defArgs (top 30), defBody (top 30), defScope (top 30), [.int 0], [("late", .bl false)]⟩ -- safe
def d23 : He.DefD := ⟨("_check_moment", none), "_check_moment", "_check_moment", defArgs (top 36), defBody (top 36), defScope (top 36), [], []⟩ -- _check_moment
def d24 : He.DefD := ⟨("_most_allowed", none), "_most_allowed", "_most_allowed", defArgs (top 37), defBody (top 37), defScope (top 37), [], []⟩ -- _most_allowed
def d25 : He.DefD := ⟨("_read_number", none), "_read_number", "_read_number", defArgs (top 38), defBody (top 38), defScope (top 38), [], []⟩ -- _read_number
def d26 : He.DefD := ⟨("_read_condition", none), "_read_condition", "_read_condition", defArgs (top 39), defBody (top 39), defScope (top 39), [], []⟩ -- _read_condition
def d27 : He.DefD := ⟨("_read_line", none), "_read_line", "_read_line", defArgs (top 40), defBody (top 40), defScope (top 40), [], []⟩ -- _read_line
def d28 : He.DefD := ⟨("_read_rules", none), "_read_rules", "_read_rules", defArgs (top 41), defBody (top 41), defScope (top 41), [], []⟩ -- _read_rules
def d29 : He.DefD := ⟨("_fact", none), "_fact", "_fact", defArgs (top 42), defBody (top 42), defScope (top 42), [], []⟩ -- _fact
def d30 : He.DefD := ⟨("_applies", none), "_applies", "_applies", defArgs (top 43), defBody (top 43), defScope (top 43), [], []⟩ -- _applies
def d31 : He.DefD := ⟨("Keeper", some "choose"), "choose", "Keeper.choose", defArgs (inClass (top 44) 0), defBody (inClass (top 44) 0), defScope (inClass (top 44) 0), [], []⟩ -- Keeper.choose
def d32 : He.DefD := ⟨("Keeper", some "label"), "label", "Keeper.label", defArgs (inClass (top 44) 1), defBody (inClass (top 44) 1), defScope (inClass (top 44) 1), [], []⟩ -- Keeper.label
def d33 : He.DefD := ⟨("Greedy", some "choose"), "choose", "Greedy.choose", defArgs (inClass (top 45) 0), defBody (inClass (top 45) 0), defScope (inClass (top 45) 0), [], []⟩ -- Greedy.choose
def d34 : He.DefD := ⟨("Greedy", some "label"), "label", "Greedy.label", defArgs (inClass (top 45) 1), defBody (inClass (top 45) 1), defScope (inClass (top 45) 1), [], []⟩ -- Greedy.label
def d35 : He.DefD := ⟨("Lazy", some "__init__"), "__init__", "Lazy.__init__", defArgs (inClass (top 46) 0), defBody (inClass (top 46) 0), defScope (inClass (top 46) 0), [], []⟩ -- Lazy.__init__
def d36 : He.DefD := ⟨("Lazy", some "set_mark"), "set_mark", "Lazy.set_mark", defArgs (inClass (top 46) 3), defBody (inClass (top 46) 3), defScope (inClass (top 46) 3), [], []⟩ -- Lazy.set_mark
def d37 : He.DefD := ⟨("Lazy", some "choose"), "choose", "Lazy.choose", defArgs (inClass (top 46) 4), defBody (inClass (top 46) 4), defScope (inClass (top 46) 4), [], []⟩ -- Lazy.choose
def d38 : He.DefD := ⟨("Lazy", some "label"), "label", "Lazy.label", defArgs (inClass (top 46) 5), defBody (inClass (top 46) 5), defScope (inClass (top 46) 5), [], []⟩ -- Lazy.label
def d39 : He.DefD := ⟨("Thrifty", some "__init__"), "__init__", "Thrifty.__init__", defArgs (inClass (top 47) 0), defBody (inClass (top 47) 0), defScope (inClass (top 47) 0), [], []⟩ -- Thrifty.__init__
def d40 : He.DefD := ⟨("Thrifty", some "choose"), "choose", "Thrifty.choose", defArgs (inClass (top 47) 1), defBody (inClass (top 47) 1), defScope (inClass (top 47) 1), [], []⟩ -- Thrifty.choose
def d41 : He.DefD := ⟨("Thrifty", some "_leaves_safe"), "_leaves_safe", "Thrifty._leaves_safe", defArgs (inClass (top 47) 2), defBody (inClass (top 47) 2), defScope (inClass (top 47) 2), [], []⟩ -- Thrifty._leaves_safe
def d42 : He.DefD := ⟨("Thrifty", some "label"), "label", "Thrifty.label", defArgs (inClass (top 47) 3), defBody (inClass (top 47) 3), defScope (inClass (top 47) 3), [], []⟩ -- Thrifty.label
def d43 : He.DefD := ⟨("RuleKeeper", some "__init__"), "__init__", "RuleKeeper.__init__", defArgs (inClass (top 48) 0), defBody (inClass (top 48) 0), defScope (inClass (top 48) 0), [], []⟩ -- RuleKeeper.__init__
def d44 : He.DefD := ⟨("RuleKeeper", some "choose"), "choose", "RuleKeeper.choose", defArgs (inClass (top 48) 1), defBody (inClass (top 48) 1), defScope (inClass (top 48) 1), [], []⟩ -- RuleKeeper.choose
def d45 : He.DefD := ⟨("RuleKeeper", some "label"), "label", "RuleKeeper.label", defArgs (inClass (top 48) 2), defBody (inClass (top 48) 2), defScope (inClass (top 48) 2), [], []⟩ -- RuleKeeper.label
def d46 : He.DefD := ⟨("Round", some "__init__"), "__init__", "Round.__init__", defArgs (inClass (top 50) 1), defBody (inClass (top 50) 1), defScope (inClass (top 50) 1), [], []⟩ -- Round.__init__
def d47 : He.DefD := ⟨("Round", some "__len__"), "__len__", "Round.__len__", defArgs (inClass (top 50) 4), defBody (inClass (top 50) 4), defScope (inClass (top 50) 4), [], []⟩ -- Round.__len__
def d48 : He.DefD := ⟨("Round", some "__eq__"), "__eq__", "Round.__eq__", defArgs (inClass (top 50) 5), defBody (inClass (top 50) 5), defScope (inClass (top 50) 5), [], []⟩ -- Round.__eq__
def d49 : He.DefD := ⟨("Round", some "__add__"), "__add__", "Round.__add__", defArgs (inClass (top 50) 6), defBody (inClass (top 50) 6), defScope (inClass (top 50) 6), [], []⟩ -- Round.__add__
def d50 : He.DefD := ⟨("Round", some "at"), "at", "Round.at", defArgs (inClass (top 50) 7), defBody (inClass (top 50) 7), defScope (inClass (top 50) 7), [], []⟩ -- Round.at
def d51 : He.DefD := ⟨("Round", some "shifted"), "shifted", "Round.shifted", defArgs (inClass (top 50) 8), defBody (inClass (top 50) 8), defScope (inClass (top 50) 8), [], []⟩ -- Round.shifted
def d52 : He.DefD := ⟨("Round", some "total"), "total", "Round.total", defArgs (inClass (top 50) 9), defBody (inClass (top 50) 9), defScope (inClass (top 50) 9), [], []⟩ -- Round.total
def d53 : He.DefD := ⟨("Round", some "least"), "least", "Round.least", defArgs (inClass (top 50) 10), defBody (inClass (top 50) 10), defScope (inClass (top 50) 10), [], []⟩ -- Round.least
def d54 : He.DefD := ⟨("Round", some "worst_start"), "worst_start", "Round.worst_start", defArgs (inClass (top 50) 11), defBody (inClass (top 50) 11), defScope (inClass (top 50) 11), [], []⟩ -- Round.worst_start
def d55 : He.DefD := ⟨("Round", some "reach"), "reach", "Round.reach", defArgs (inClass (top 50) 12), defBody (inClass (top 50) 12), defScope (inClass (top 50) 12), [], []⟩ -- Round.reach
def d56 : He.DefD := ⟨("Round", some "_window"), "_window", "Round._window", defArgs (inClass (top 50) 13), defBody (inClass (top 50) 13), defScope (inClass (top 50) 13), [], []⟩ -- Round._window
def d57 : He.DefD := ⟨("Round", some "_windows"), "_windows", "Round._windows", defArgs (inClass (top 50) 14), defBody (inClass (top 50) 14), defScope (inClass (top 50) 14), [], []⟩ -- Round._windows
def d58 : He.DefD := ⟨("_law_is_count", none), "_law_is_count", "_law_is_count", defArgs (top 52), defBody (top 52), defScope (top 52), [], []⟩ -- _law_is_count
def d59 : He.DefD := ⟨("_law_box", none), "_law_box", "_law_box", defArgs (top 53), defBody (top 53), defScope (top 53), [], []⟩ -- _law_box
def d60 : He.DefD := ⟨("_law_take", none), "_law_take", "_law_take", defArgs (top 54), defBody (top 54), defScope (top 54), [], []⟩ -- _law_take
def d61 : He.DefD := ⟨("_law_round", none), "_law_round", "_law_round", defArgs (top 55), defBody (top 55), defScope (top 55), [], []⟩ -- _law_round
def d62 : He.DefD := ⟨("_law_pays", none), "_law_pays", "_law_pays", defArgs (top 56), defBody (top 56), defScope (top 56), [], []⟩ -- _law_pays
def d63 : He.DefD := ⟨("_law_word", none), "_law_word", "_law_word", defArgs (top 57), defBody (top 57), defScope (top 57), [], []⟩ -- _law_word
def d64 : He.DefD := ⟨("_law_stand", none), "_law_stand", "_law_stand", defArgs (top 58), defBody (top 58), defScope (top 58), [], []⟩ -- _law_stand
def d65 : He.DefD := ⟨("_law_marks", none), "_law_marks", "_law_marks", defArgs (top 59), defBody (top 59), defScope (top 59), [], []⟩ -- _law_marks
def d66 : He.DefD := ⟨("_law_due", none), "_law_due", "_law_due", defArgs (top 60), defBody (top 60), defScope (top 60), [], []⟩ -- _law_due
def d67 : He.DefD := ⟨("_law_looks", none), "_law_looks", "_law_looks", defArgs (top 61), defBody (top 61), defScope (top 61), [], []⟩ -- _law_looks
def d68 : He.DefD := ⟨("_law_family", none), "_law_family", "_law_family", defArgs (top 62), defBody (top 62), defScope (top 62), [], []⟩ -- _law_family
def d69 : He.DefD := ⟨("_law_is_field", none), "_law_is_field", "_law_is_field", defArgs (top 63), defBody (top 63), defScope (top 63), [], []⟩ -- _law_is_field
def d70 : He.DefD := ⟨("_law_no_lazy", none), "_law_no_lazy", "_law_no_lazy", defArgs (top 64), defBody (top 64), defScope (top 64), [], []⟩ -- _law_no_lazy
def d71 : He.DefD := ⟨("_law_no_mark", none), "_law_no_mark", "_law_no_mark", defArgs (top 65), defBody (top 65), defScope (top 65), [], []⟩ -- _law_no_mark
def d72 : He.DefD := ⟨("_law_no_thrifty", none), "_law_no_thrifty", "_law_no_thrifty", defArgs (top 66), defBody (top 66), defScope (top 66), [], []⟩ -- _law_no_thrifty
def d73 : He.DefD := ⟨("_law_bad_numbers", none), "_law_bad_numbers", "_law_bad_numbers", defArgs (top 67), defBody (top 67), defScope (top 67), [], []⟩ -- _law_bad_numbers
def d74 : He.DefD := ⟨("_law_thrifty", none), "_law_thrifty", "_law_thrifty", defArgs (top 68), defBody (top 68), defScope (top 68), [], []⟩ -- _law_thrifty
def d75 : He.DefD := ⟨("_law_refused", none), "_law_refused", "_law_refused", defArgs (top 69), defBody (top 69), defScope (top 69), [], []⟩ -- _law_refused
def d76 : He.DefD := ⟨("_law_refusals", none), "_law_refusals", "_law_refusals", defArgs (top 70), defBody (top 70), defScope (top 70), [], []⟩ -- _law_refusals
def d77 : He.DefD := ⟨("_law_all_refuse", none), "_law_all_refuse", "_law_all_refuse", defArgs (top 71), defBody (top 71), defScope (top 71), [], []⟩ -- _law_all_refuse
def d78 : He.DefD := ⟨("law", none), "law", "law", defArgs (top 72), defBody (top 72), defScope (top 72), [], []⟩ -- law
def g0 : GetX := ⟨"Lazy", "mark", "Lazy.mark", defArgs (inClass (top 46) 1), defBody (inClass (top 46) 1), defScope (inClass (top 46) 1)⟩
def g1 : GetX := ⟨"Round", "budgets", "Round.budgets", defArgs (inClass (top 50) 3), defBody (inClass (top 50) 3), defScope (inClass (top 50) 3)⟩
def fn : List He.DefD := [d0, d1, d2, d3, d4, d5, d6, d7, d8, d9, d10, d11, d12, d13, d14, d15, d16, d17, d18, d19, d20, d21, d22, d23, d24, d25, d26, d27, d28, d29, d30, d31, d32, d33, d34, d35, d36, d37, d38, d39, d40, d41, d42, d43, d44, d45, d46, d47, d48, d49, d50, d51, d52, d53, d54, d55, d56, d57, d58, d59, d60, d61, d62, d63, d64, d65, d66, d67, d68, d69, d70, d71, d72, d73, d74, d75, d76, d77, d78]
def fs : List SupX := [s0, s1, s2]
def gs : List GetX := [g0, g1]
def fa0 : List He.Fa := [.glo "BadRule", .keep "BadRule", .glo "Greedy", .keep "Greedy", .glo "InvalidInput", .keep "InvalidInput", .glo "Keeper", .keep "Keeper", .glo "Lazy", .keep "Lazy", .glo "NoPlace", .keep "NoPlace", .glo "Round", .keep "Round", .glo "RuleKeeper", .keep "RuleKeeper", .glo "StoreError", .keep "StoreError", .glo "Thrifty", .keep "Thrifty"]
def fa1 : List He.Fa := [.glo "_appended", .keep "_appended", .glo "_applies", .keep "_applies", .glo "_carried", .keep "_carried", .glo "_check_moment", .keep "_check_moment", .glo "_depth_list", .keep "_depth_list", .glo "_fact", .keep "_fact", .glo "_law_all_refuse", .keep "_law_all_refuse", .glo "_law_bad_numbers", .keep "_law_bad_numbers", .glo "_law_box", .keep "_law_box", .glo "_law_due", .keep "_law_due"]
def fa2 : List He.Fa := [.glo "_law_family", .keep "_law_family", .glo "_law_is_count", .keep "_law_is_count", .glo "_law_is_field", .keep "_law_is_field", .glo "_law_looks", .keep "_law_looks", .glo "_law_marks", .keep "_law_marks", .glo "_law_no_lazy", .keep "_law_no_lazy", .glo "_law_no_mark", .keep "_law_no_mark", .glo "_law_no_thrifty", .keep "_law_no_thrifty", .glo "_law_pays", .keep "_law_pays", .glo "_law_refusals", .keep "_law_refusals"]
def fa3 : List He.Fa := [.glo "_law_refused", .keep "_law_refused", .glo "_law_round", .keep "_law_round", .glo "_law_stand", .keep "_law_stand", .glo "_law_take", .keep "_law_take", .glo "_law_thrifty", .keep "_law_thrifty", .glo "_law_word", .keep "_law_word", .glo "_most_allowed", .keep "_most_allowed", .glo "_ones", .keep "_ones", .glo "_read_condition", .keep "_read_condition", .glo "_read_line", .keep "_read_line"]
def fa4 : List He.Fa := [.glo "_read_number", .keep "_read_number", .glo "_read_rules", .keep "_read_rules", .glo "_trimmed", .keep "_trimmed", .glo "append_record", .keep "append_record", .glo "at_least", .keep "at_least", .glo "at_most", .keep "at_most", .glo "blocked_at", .keep "blocked_at", .glo "blocked_now", .keep "blocked_now", .glo "carry", .keep "carry", .glo "check_standing", .keep "check_standing"]
def fa5 : List He.Fa := [.glo "counted_places", .keep "counted_places", .glo "critical_put", .keep "critical_put", .glo "depths", .keep "depths", .glo "good_word", .keep "good_word", .glo "law", .keep "law", .glo "life", .keep "life", .glo "living", .keep "living", .glo "safe", .keep "safe", .glo "short_at", .keep "short_at", .glo "short_now", .keep "short_now"]
def fa6 : List He.Fa := [.glo "whole_number", .keep "whole_number", .free "ValueError", .free "abs", .free "all", .free "bool", .free "divmod", .free "enumerate", .free "int", .free "isinstance", .free "len", .free "list", .free "max", .free "min", .free "range", .free "str", .free "sum", .free "tuple", .str "DIGITS" "0123456789", .int "MOST_DIGITS" 3]
def fa7 : List He.Fa := [.glo "FACTS", .glo "SIGNS", .cls "Keeper", .meth "Keeper" "choose", .meth "Keeper" "label", .cls "Greedy", .meth "Greedy" "choose", .meth "Greedy" "label", .cls "Lazy", .meth "Lazy" "set_mark", .meth "Lazy" "choose", .meth "Lazy" "label", .noat "Lazy" "_mark", .mkr "Lazy", .cls "Thrifty", .meth "Thrifty" "choose", .meth "Thrifty" "_leaves_safe", .meth "Thrifty" "label", .noat "Thrifty" "_limit", .mkr "Thrifty"]
def fa8 : List He.Fa := [.cls "RuleKeeper", .meth "RuleKeeper" "choose", .meth "RuleKeeper" "label", .noat "RuleKeeper" "_rules", .mkr "RuleKeeper", .cls "Round", .meth "Round" "at", .meth "Round" "shifted", .meth "Round" "total", .meth "Round" "least", .meth "Round" "worst_start", .meth "Round" "reach", .meth "Round" "_window", .meth "Round" "_windows", .noat "Round" "_budgets", .mkr "Round", .noat "InvalidInput" "field", .exm "InvalidInput" "StoreError" true, .exm "InvalidInput" "InvalidInput" true, .exm "InvalidInput" "NoPlace" false]
def fa9 : List He.Fa := [.exm "InvalidInput" "BadRule" false, .noat "NoPlace" "length", .exm "NoPlace" "StoreError" true, .exm "NoPlace" "InvalidInput" false, .exm "NoPlace" "NoPlace" true, .exm "NoPlace" "BadRule" false, .noat "BadRule" "line", .exm "BadRule" "StoreError" true, .exm "BadRule" "InvalidInput" false, .exm "BadRule" "NoPlace" false, .exm "BadRule" "BadRule" true]
def fa : List He.Fa := fa0 ++ fa1 ++ fa2 ++ fa3 ++ fa4 ++ fa5 ++ fa6 ++ fa7 ++ fa8 ++ fa9
def fc0 : List Chk := [fun K => He.tupB K "FACTS" [.str "free", .str "living", .str "dead", .str "gap", .str "budget"], fun K => He.tupB K "SIGNS" [.str "<=", .str ">=", .str "=="], tyB "Keeper", mkzB "Keeper", kitC "Keeper" "Keeper" true, kitC "Keeper" "Greedy" false, kitC "Keeper" "Lazy" false, kitC "Keeper" "Thrifty" false, kitC "Keeper" "RuleKeeper" false, kitC "Keeper" "Round" false, tyB "Greedy", mkzB "Greedy", kitC "Greedy" "Keeper" true, kitC "Greedy" "Greedy" true, kitC "Greedy" "Lazy" false, kitC "Greedy" "Thrifty" false, kitC "Greedy" "RuleKeeper" false, kitC "Greedy" "Round" false, tyB "Lazy", propB "Lazy" "mark"]
def fc1 : List Chk := [kitC "Lazy" "Keeper" true, kitC "Lazy" "Greedy" false, kitC "Lazy" "Lazy" true, kitC "Lazy" "Thrifty" false, kitC "Lazy" "RuleKeeper" false, kitC "Lazy" "Round" false, tyB "Thrifty", kitC "Thrifty" "Keeper" true, kitC "Thrifty" "Greedy" false, kitC "Thrifty" "Lazy" false, kitC "Thrifty" "Thrifty" true, kitC "Thrifty" "RuleKeeper" false, kitC "Thrifty" "Round" false, tyB "RuleKeeper", kitC "RuleKeeper" "Keeper" true, kitC "RuleKeeper" "Greedy" false, kitC "RuleKeeper" "Lazy" false, kitC "RuleKeeper" "Thrifty" false, kitC "RuleKeeper" "RuleKeeper" true, kitC "RuleKeeper" "Round" false]
def fc2 : List Chk := [tyB "Round", propB "Round" "budgets", dunB "Round" "__len__", dunB "Round" "__add__", selfB "Round", kitC "Round" "Keeper" false, kitC "Round" "Greedy" false, kitC "Round" "Lazy" false, kitC "Round" "Thrifty" false, kitC "Round" "RuleKeeper" false, kitC "Round" "Round" true, cvalB "Round" "MOST" 12, oexB "InvalidInput", einB "InvalidInput", xfC "InvalidInput", excB "InvalidInput", supB "InvalidInput" "InvalidInput.__init__" PySem.Challenge.pw_carrylog_k54_choose_family.main.file, kitC "InvalidInput" "StoreError" true, kitC "InvalidInput" "InvalidInput" true, kitC "InvalidInput" "NoPlace" false]
def fc3 : List Chk := [kitC "InvalidInput" "BadRule" false, kitT "InvalidInput" "ValueError" true, oexB "NoPlace", einB "NoPlace", xfC "NoPlace", excB "NoPlace", supB "NoPlace" "NoPlace.__init__" PySem.Challenge.pw_carrylog_k54_choose_family.main.file, kitC "NoPlace" "StoreError" true, kitC "NoPlace" "InvalidInput" false, kitC "NoPlace" "NoPlace" true, kitC "NoPlace" "BadRule" false, kitT "NoPlace" "ValueError" true, oexB "BadRule", einB "BadRule", xfC "BadRule", excB "BadRule", supB "BadRule" "BadRule.__init__" PySem.Challenge.pw_carrylog_k54_choose_family.main.file, kitC "BadRule" "StoreError" true, kitC "BadRule" "InvalidInput" false, kitC "BadRule" "NoPlace" false]
def fc4 : List Chk := [kitC "BadRule" "BadRule" true, kitT "BadRule" "ValueError" true, getB "Lazy" "mark" "Lazy.mark", getB "Round" "budgets" "Round.budgets"]
def fc : List Chk := fc0 ++ fc1 ++ fc2 ++ fc3 ++ fc4
end Lw
namespace Hd
open PySem PySem.Spec PyProof.Rows L2 Cy
def nm0 : List Str := ["_wall", "StoreError", "InvalidInput", "NoPlace", "BadRule", "at_least", "at_most", "whole_number", "good_word", "living", "depths", "carry", "append_record", "_trimmed", "_ones", "_depth_list", "_carried", "_appended", "check_standing", "counted_places", "blocked_now", "short_now", "blocked_at", "short_at", "critical_put", "life", "safe", "DIGITS", "MOST_DIGITS", "FACTS"]
def nm1 : List Str := ["SIGNS", "_check_moment", "_most_allowed", "_read_number", "_read_condition", "_read_line", "_read_rules", "_fact", "_applies", "Keeper", "Greedy", "Lazy", "Thrifty", "RuleKeeper", "Round", "_law_is_count", "_law_box", "_law_take", "_law_round", "_law_pays", "_law_word", "_law_stand", "_law_marks", "_law_due", "_law_looks", "_law_family", "_law_is_field", "_law_no_lazy", "_law_no_mark", "_law_no_thrifty"]
def nm2 : List Str := ["_law_bad_numbers", "_law_thrifty", "_law_refused", "_law_refusals", "_law_all_refuse"]
def loose : List Str := nm0 ++ nm1 ++ nm2
abbrev R : PySem.W.OpenRow := PySem.W.OpenLaw.row PySem.Challenge.rw_carrylog_k54_choose_family
def asl : List Addr := [3, 6, 4, 21, 31, 53, 74, 95, 104, 111, 118, 125, 132, 139, 146, 154, 161, 168, 173, 180, 187, 195, 202, 209, 216, 225, 234, 241, 250, 259, 260, 261, 268, 275, 280, 287, 294, 301, 308, 315, 339, 367, 424, 464, 497, 609, 620, 625, 632, 639, 646, 653, 660, 667, 674, 681, 688, 695, 702, 709, 716, 723, 730, 737, 744, 751, 758, 0, 20, 30, 52, 73, 94, 103, 110, 117, 124, 131, 138, 145, 153, 147, 160, 167, 172, 179, 186, 194, 188, 201, 208, 215, 224, 217, 218, 233, 226, 227, 240, 249, 242, 243, 258, 251, 252, 267, 274, 279, 286, 293, 300, 307, 314, 338, 366, 423, 463, 496, 608, 619, 624, 631, 638, 645, 652, 659, 666, 673, 680, 687, 694, 701, 708, 715, 722, 729, 736, 743, 750, 757, 15, 16, 17, 18, 19, 29, 32, 50, 51, 71, 72, 92, 93, 98, 99, 100, 101, 102, 105, 106, 107, 108, 109, 112, 113, 114, 115, 116, 119, 120, 121, 122, 123, 126, 127, 128, 129, 130, 133, 134, 135, 136, 137, 140, 141, 142, 143, 144, 148, 149, 150, 151, 152, 155, 156, 157, 158, 159, 162, 163, 164, 165, 166, 169, 170, 171, 174, 175, 176, 177, 178, 181, 182, 183, 184, 185, 189, 190, 191, 192, 193, 196, 197, 198, 199, 200, 203, 204, 205, 206, 207, 210, 211, 212, 213, 214, 219, 220, 221, 222, 223, 228, 229, 230, 231, 232, 235, 236, 237, 238, 239, 244, 245, 246, 247, 248, 253, 254, 255, 256, 257, 262, 263, 264, 265, 266, 269, 270, 271, 272, 273, 276, 277, 278, 281, 282, 283, 284, 285, 288, 289, 290, 291, 292, 295, 296, 297, 298, 299, 302, 303, 304, 305, 306, 309, 310, 311, 312, 313, 329, 336, 337, 340, 341, 357, 364, 365, 383, 400, 407, 414, 421, 422, 440, 447, 454, 461, 462, 480, 487, 494, 495, 513, 522, 531, 538, 545, 552, 559, 566, 573, 580, 587, 594, 601, 606, 607, 610, 611, 614, 615, 616, 617, 618, 621, 622, 623, 626, 627, 628, 629, 630, 633, 634, 635, 636, 637, 640, 641, 642, 643, 644, 647, 648, 649, 650, 651, 654, 655, 656, 657, 658, 661, 662, 663, 664, 665, 668, 669, 670, 671, 672, 675, 676, 677, 678, 679, 682, 683, 684, 685, 686, 689, 690, 691, 692, 693, 696, 697, 698, 699, 700, 703, 704, 705, 706, 707, 710, 711, 712, 713, 714, 717, 718, 719, 720, 721, 724, 725, 726, 727, 728, 731, 732, 733, 734, 735, 738, 739, 740, 741, 742, 745, 746, 747, 748, 749, 752, 753, 754, 755, 756, 49, 38, 70, 59, 91, 80, 328, 335, 356, 363, 382, 390, 399, 406, 413, 420, 439, 446, 453, 460, 479, 486, 493, 512, 520, 521, 530, 537, 544, 551, 558, 565, 572, 579, 586, 593, 600, 605, 44, 45, 46, 47, 48, 65, 66, 67, 68, 69, 86, 87, 88, 89, 90, 323, 324, 325, 326, 327, 330, 331, 332, 333, 334, 351, 352, 353, 354, 355, 358, 359, 360, 361, 362, 377, 378, 379, 380, 381, 389, 398, 401, 402, 403, 404, 405, 408, 409, 410, 411, 412, 415, 416, 417, 418, 419, 434, 435, 436, 437, 438, 441, 442, 443, 444, 445, 448, 449, 450, 451, 452, 455, 456, 457, 458, 459, 474, 475, 476, 477, 478, 481, 482, 483, 484, 485, 488, 489, 490, 491, 492, 507, 508, 509, 510, 511, 519, 523, 529, 532, 533, 534, 535, 536, 539, 540, 541, 542, 543, 546, 547, 548, 549, 550, 553, 554, 555, 556, 557, 560, 561, 562, 563, 564, 567, 568, 569, 570, 571, 574, 575, 576, 577, 578, 581, 582, 583, 584, 585, 588, 589, 590, 591, 592, 595, 596, 597, 598, 599, 602, 603, 604, 384, 385, 386, 387, 388, 393, 394, 395, 396, 397, 514, 515, 516, 517, 518, 524, 525, 526, 527, 528, 2]
abbrev hk : PySem.W.Hook := hookL asl Lw.fa Lw.fn Lw.fc Lw.fs Lw.gs
def ob (s : PySem.W.SharedT) : AlC := obsCL asl Lw.fa Lw.fn Lw.fc Lw.fs Lw.gs (HandSHeadRun.getT s)
theorem ob_eq (s : PySem.W.SharedT) : ob s = hk.obs s.abs := obsCL_eq (HandSHeadRun.getT_eq s)
abbrev qv : Program := PySem.W.view R.prog [72]
noncomputable section
open PySem.Calls PySem.W
abbrev En (w : World) (os : OsState) := HandSHeadRun.endF (HandSHeadRun.stepQ (HandSHeadRun.denQ HandSHeadRun.tabQ) R.prog w) 40000 R.prog w os
abbrev kk (s : PySem.W.SharedT) : PySem.W.Frag := kL asl (HandSHeadRun.getT s)
set_option maxHeartbeats 0 in
theorem rA (w : World) (os : OsState) : (En w os).map (fun s => HandSHeadRun.looksF R.prog (boot_heap w.params) s.abs) = some (true) := by kernel_rfl
set_option maxHeartbeats 0 in
theorem rB (w : World) (os : OsState) : (En w os).map (fun s => HandSHeadRun.seenQ qv loose (importedModules R.prog.main.body) (fun s => PySem.W.xlAt qv [] s && PySem.W.recOk R.toRowW.records s) s.abs) = some (PySem.W.openGood qv loose) := by kernel_rfl
def fb0 : List He.Fa := Lw.fa0 ++ Lw.fa1 ++ Lw.fa2 ++ Lw.fa3
set_option maxHeartbeats 0 in
theorem rF0 (w : World) (os : OsState) : (En w os).map (fun s => fb0.all fun f => f.ok (kk s)) = some (true) := by kernel_rfl
def fb4 : List He.Fa := Lw.fa4 ++ Lw.fa5 ++ Lw.fa6 ++ Lw.fa7
set_option maxHeartbeats 0 in
theorem rF4 (w : World) (os : OsState) : (En w os).map (fun s => fb4.all fun f => f.ok (kk s)) = some (true) := by kernel_rfl
def fb8 : List He.Fa := Lw.fa8 ++ Lw.fa9
set_option maxHeartbeats 0 in
theorem rF8 (w : World) (os : OsState) : (En w os).map (fun s => fb8.all fun f => f.ok (kk s)) = some (true) := by kernel_rfl
theorem fa_eq : Lw.fa = fb0 ++ fb4 ++ fb8 := rfl
theorem rF (w : World) (os : OsState) : (En w os).map (fun s => Lw.fa.all fun f => f.ok (kk s)) = some true := by
  rw [fa_eq]
  exact mpF (mpF (rF0 w os) (rF4 w os)) (rF8 w os)
def fn0 : List He.DefD := [Lw.d0, Lw.d1, Lw.d2, Lw.d3, Lw.d4, Lw.d5, Lw.d6, Lw.d7, Lw.d8, Lw.d9, Lw.d10, Lw.d11, Lw.d12, Lw.d13, Lw.d14, Lw.d15, Lw.d16, Lw.d17, Lw.d18, Lw.d19, Lw.d20, Lw.d21, Lw.d22, Lw.d23, Lw.d24, Lw.d25, Lw.d26, Lw.d27, Lw.d28, Lw.d29, Lw.d30, Lw.d31, Lw.d32, Lw.d33, Lw.d34, Lw.d35, Lw.d36, Lw.d37, Lw.d38, Lw.d39, Lw.d40, Lw.d41]
set_option maxHeartbeats 0 in
theorem rN0 (w : World) (os : OsState) : (En w os).map (fun s => (fn0.all (fun d => d.ok (kk s)), fn0.map fun d => He.fnW (kk s) d.at_)) = some ((true, fn0.map He.DefD.val)) := by kernel_rfl
def fn1 : List He.DefD := [Lw.d42, Lw.d43, Lw.d44, Lw.d45, Lw.d46, Lw.d47, Lw.d48, Lw.d49, Lw.d50, Lw.d51, Lw.d52, Lw.d53, Lw.d54, Lw.d55, Lw.d56, Lw.d57, Lw.d58, Lw.d59, Lw.d60, Lw.d61, Lw.d62, Lw.d63, Lw.d64, Lw.d65, Lw.d66, Lw.d67, Lw.d68, Lw.d69, Lw.d70, Lw.d71, Lw.d72, Lw.d73, Lw.d74, Lw.d75, Lw.d76, Lw.d77, Lw.d78]
set_option maxHeartbeats 0 in
theorem rN1 (w : World) (os : OsState) : (En w os).map (fun s => (fn1.all (fun d => d.ok (kk s)), fn1.map fun d => He.fnW (kk s) d.at_)) = some ((true, fn1.map He.DefD.val)) := by kernel_rfl
theorem fn_eq : Lw.fn = fn0 ++ fn1 := rfl
theorem rN (w : World) (os : OsState) : (En w os).map (fun s => (Lw.fn.all (fun d => d.ok (kk s)), Lw.fn.map fun d => He.fnW (kk s) d.at_)) = some (true, Lw.fn.map He.DefD.val) := by
  rw [fn_eq]
  exact mpN (rN0 w os) (rN1 w os)
set_option maxHeartbeats 0 in
theorem rC0 (w : World) (os : OsState) : (En w os).map (fun s => Lw.fc0.map fun c => c (kk s)) = some (Lw.fc0.map fun _ => true) := by kernel_rfl
set_option maxHeartbeats 0 in
theorem rC1 (w : World) (os : OsState) : (En w os).map (fun s => Lw.fc1.map fun c => c (kk s)) = some (Lw.fc1.map fun _ => true) := by kernel_rfl
set_option maxHeartbeats 0 in
theorem rC2 (w : World) (os : OsState) : (En w os).map (fun s => Lw.fc2.map fun c => c (kk s)) = some (Lw.fc2.map fun _ => true) := by kernel_rfl
set_option maxHeartbeats 0 in
theorem rC3 (w : World) (os : OsState) : (En w os).map (fun s => Lw.fc3.map fun c => c (kk s)) = some (Lw.fc3.map fun _ => true) := by kernel_rfl
set_option maxHeartbeats 0 in
theorem rC4 (w : World) (os : OsState) : (En w os).map (fun s => Lw.fc4.map fun c => c (kk s)) = some (Lw.fc4.map fun _ => true) := by kernel_rfl
set_option maxHeartbeats 0 in
theorem rS (w : World) (os : OsState) : (En w os).map (fun s => (Lw.fs.map (fun d => fnS (kk s) d.x), Lw.gs.map (fnGx (kk s)))) = some ((Lw.fs.map SupX.val, Lw.gs.map GetX.val)) := by kernel_rfl
theorem run (w : World) : HandSHeadRun.RunEq R qv hk ob 40000 loose w := fun os => mp2 (rA w os) (mp2 (rB w os) (obsL_join (k := HandSHeadRun.getT) (rF w os) (rN w os) (mpApp (mpApp (mpApp (mpApp (rC0 w os) (rC1 w os)) (rC2 w os)) (rC3 w os)) (rC4 w os)) (rS w os)))
end
end Hd
namespace Tx
open PySem PySem.Spec PyProof.Rows L2 Cy
abbrev ls (z : Str) : List Nat := z.cps.toList
theorem ls_len (z : Str) : z.length = (ls z).length := by show z.cps.size = z.cps.toList.length; simp
theorem ls_app (a b : Str) : ls (a ++ b) = ls a ++ ls b := by
  show (a.cps ++ b.cps).toList = _
  simp
theorem ls_ext {a b : Str} (h : ls a = ls b) : a = b := by
  obtain ⟨⟨a⟩⟩ := a
  obtain ⟨⟨b⟩⟩ := b
  have h : a = b := h
  rw [h]
theorem cnt_count (c : Nat) : ∀ l : List Nat, cnt c l = (l.count c : Int)
  | [] => rfl
  | n :: r => by
    rw [cnt_cons, cnt_count c r, List.count_cons]
    by_cases h : n = c
    · subst h; simp; omega
    · have h2 : (n == c) = false := by simpa using h
      simp [h, h2]
theorem one_eq : ("1" : Str) = ⟨#[49]⟩ := by decide +kernel
theorem zero_eq : ("0" : Str) = ⟨#[48]⟩ := by decide +kernel
theorem zo_eq : ("01" : Str) = ⟨#[48, 49]⟩ := by decide +kernel
theorem e_eq : ("" : Str) = ⟨#[]⟩ := by decide +kernel
theorem count1 (z : Str) : Txt.count z "1" = ((ls z).count 49 : Int) := by rw [one_eq, count_cnt, cnt_count]
theorem takeWhile_drop (p : Nat → Bool) : ∀ l : List Nat, l.drop (l.takeWhile p).length = l.dropWhile p
  | [] => rfl
  | a :: r => by
    cases h : p a with
    | true => simp [List.takeWhile, List.dropWhile, h, takeWhile_drop p r]
    | false => simp [List.takeWhile, List.dropWhile, h]
theorem lstrip0 (z : Str) : ls (Txt.lstripChars z "0") = (ls z).dropWhile (· == 48) := by
  unfold Txt.lstripChars
  rw [PySem.W.stripBy_eq, zero_eq]
  show (z.cps.extract (z.cps.toList.takeWhile fun c => (#[48] : Array Nat).contains c).length z.length).toList = _
  have e : (fun c => (#[48] : Array Nat).contains c) = (fun c => c == 48) := by
    funext c
    rw [Bool.eq_iff_iff]
    simp
  rw [e]
  have h := takeWhile_drop (· == 48) z.cps.toList
  rw [← h]
  have : z.length = z.cps.toList.length := ls_len z
  rw [this]
  simp only [Array.toList_extract, List.extract]
  exact List.take_of_length_le (by simp)
theorem all_takeWhile {p : Nat → Bool} : ∀ {l : List Nat}, (∀ c ∈ l, p c = true) → l.takeWhile p = l
  | [], _ => rfl
  | a :: r, h => by
    have h1 := h a (List.mem_cons_self ..)
    simp [List.takeWhile, h1, all_takeWhile fun c hc => h c (List.mem_cons_of_mem _ hc)]
theorem takeWhile_le (p : Nat → Bool) : ∀ l : List Nat, (l.takeWhile p).length ≤ l.length
  | [] => Nat.le_refl _
  | a :: r => by
    have := takeWhile_le p r
    cases h : p a <;> simp [List.takeWhile, h]; omega
theorem takeWhile_lt {p : Nat → Bool} : ∀ {l : List Nat} {b : Nat}, b ∈ l → p b = false → (l.takeWhile p).length < l.length
  | a :: r, b, hb, hp => by
    cases h : p a with
    | false => simp [List.takeWhile, h]
    | true =>
      rcases List.mem_cons.mp hb with e | hb
      · rw [e, h] at hp; cases hp
      · have := takeWhile_lt hb hp
        simp [List.takeWhile, h]
        omega
theorem takeWhile_all {p : Nat → Bool} : ∀ {l : List Nat} {b : Nat}, b ∈ l.takeWhile p → p b = true
  | a :: r, b, h => by
    cases q : p a with
    | false => simp [List.takeWhile, q] at h
    | true =>
      simp only [List.takeWhile, q] at h
      rcases List.mem_cons.mp h with e | h
      · rw [e]; exact q
      · exact takeWhile_all h
def Bit (c : Nat) : Bool := c == 48 || c == 49
theorem strip01 (z : Str) : decide (Txt.stripChars z "01" = "") = (ls z).all Bit := by
  unfold Txt.stripChars
  rw [PySem.W.stripBy_eq, zo_eq]
  have e : (fun c => (#[48, 49] : Array Nat).contains c) = Bit := by
    funext c
    rw [Bool.eq_iff_iff]
    simp [Bit]
  show decide ((⟨z.cps.extract (z.cps.toList.takeWhile fun c => (#[48, 49] : Array Nat).contains c).length (z.length - ((z.cps.toList.drop (z.cps.toList.takeWhile fun c => (#[48, 49] : Array Nat).contains c).length).reverse.takeWhile fun c => (#[48, 49] : Array Nat).contains c).length)⟩ : Str) = "") = _
  rw [e, takeWhile_drop]
  have hn : z.length = z.cps.toList.length := ls_len z
  rw [hn]
  have hle := takeWhile_le Bit z.cps.toList
  have hsz : z.cps.size = z.cps.toList.length := by simp
  cases ha : (ls z).all Bit with
  | true =>
    have h1 : z.cps.toList.takeWhile Bit = z.cps.toList := all_takeWhile fun c hc => List.all_eq_true.mp ha c hc
    rw [decide_eq_true_eq, h1]
    refine ls_ext ?_
    show (z.cps.extract _ _).toList = _
    simp only [Array.toList_extract, List.extract, List.drop_length, List.take_nil]
    exact (by decide +kernel : ([] : List Nat) = ls "")
  | false =>
    rw [decide_eq_false_iff_not]
    intro q
    have q2 : (z.cps.extract (z.cps.toList.takeWhile Bit).length (z.cps.toList.length - ((z.cps.toList.dropWhile Bit).reverse.takeWhile Bit).length)).toList = [] := by
      have := congrArg ls q
      exact this.trans (by decide +kernel)
    have hl := congrArg List.length q2
    simp only [Array.toList_extract, List.extract, List.length_take, List.length_drop, List.length_nil] at hl
    have hdl : (z.cps.toList.dropWhile Bit).length = z.cps.toList.length - (z.cps.toList.takeWhile Bit).length := by rw [← takeWhile_drop, List.length_drop]
    have hb : ∃ b ∈ z.cps.toList.dropWhile Bit, Bit b = false := by
      have : ∃ b ∈ ls z, Bit b = false := by
        have := List.all_eq_false.mp ha
        obtain ⟨b, hb, hp⟩ := this
        exact ⟨b, hb, by simpa using hp⟩
      obtain ⟨b, hb, hp⟩ := this
      refine ⟨b, ?_, hp⟩
      have h3 : z.cps.toList = z.cps.toList.takeWhile Bit ++ z.cps.toList.dropWhile Bit := (List.takeWhile_append_dropWhile).symm
      rw [show ls z = z.cps.toList from rfl, h3] at hb
      rcases List.mem_append.mp hb with hb | hb
      · have := takeWhile_all hb
        rw [hp] at this; cases this
      · exact hb
    obtain ⟨b, hb, hp⟩ := hb
    have hlt := takeWhile_lt (p := Bit) (List.mem_reverse.mpr hb) hp
    rw [List.length_reverse] at hlt
    omega
theorem starts0 (z : Str) : Txt.startswith z "0" = ((ls z).head? == some 48) := by
  unfold Txt.startswith
  rw [zero_eq]
  obtain ⟨⟨l⟩⟩ := z
  cases l with
  | nil => rfl
  | cons a r =>
    have e1 : Builtin.Str.subAt ⟨⟨a :: r⟩⟩ ⟨#[48]⟩ 0 = (a == 48) := by
      show ((⟨a :: r⟩ : Array Nat).extract 0 (0 + 1) == #[48]) = (a == 48)
      rw [Bool.eq_iff_iff]
      simp [List.extract]
    rw [e1]
    show (decide (0 + 1 ≤ (a :: r).length) && (a == 48)) = (some a == some 48)
    simp
def okL (l : List Nat) : Bool := !(l.head? == some 48) && l.all Bit
end Tx
namespace Lw
open PySem PySem.Spec PyProof.Rows L2 Cy
abbrev Top (g : Wd) : Prop := TopOf fa fn fc fs gs PySem.Challenge.pw_carrylog_k54_choose_family g
theorem gf_BadRule {g : Wd} (T : Top g) : Gf g "BadRule" := T.gf 0 1
theorem gv_BadRule {g : Wd} (T : Top g) : ∃ u, g.mg "BadRule" = some u ∧ RelV (.ref (gad g.K "BadRule")) u := T.gv 0
theorem gf_Greedy {g : Wd} (T : Top g) : Gf g "Greedy" := T.gf 2 3
theorem gv_Greedy {g : Wd} (T : Top g) : ∃ u, g.mg "Greedy" = some u ∧ RelV (.ref (gad g.K "Greedy")) u := T.gv 2
theorem gf_InvalidInput {g : Wd} (T : Top g) : Gf g "InvalidInput" := T.gf 4 5
theorem gv_InvalidInput {g : Wd} (T : Top g) : ∃ u, g.mg "InvalidInput" = some u ∧ RelV (.ref (gad g.K "InvalidInput")) u := T.gv 4
theorem gf_Keeper {g : Wd} (T : Top g) : Gf g "Keeper" := T.gf 6 7
theorem gv_Keeper {g : Wd} (T : Top g) : ∃ u, g.mg "Keeper" = some u ∧ RelV (.ref (gad g.K "Keeper")) u := T.gv 6
theorem gf_Lazy {g : Wd} (T : Top g) : Gf g "Lazy" := T.gf 8 9
theorem gv_Lazy {g : Wd} (T : Top g) : ∃ u, g.mg "Lazy" = some u ∧ RelV (.ref (gad g.K "Lazy")) u := T.gv 8
theorem gf_NoPlace {g : Wd} (T : Top g) : Gf g "NoPlace" := T.gf 10 11
theorem gv_NoPlace {g : Wd} (T : Top g) : ∃ u, g.mg "NoPlace" = some u ∧ RelV (.ref (gad g.K "NoPlace")) u := T.gv 10
theorem gf_Round {g : Wd} (T : Top g) : Gf g "Round" := T.gf 12 13
theorem gv_Round {g : Wd} (T : Top g) : ∃ u, g.mg "Round" = some u ∧ RelV (.ref (gad g.K "Round")) u := T.gv 12
theorem gf_RuleKeeper {g : Wd} (T : Top g) : Gf g "RuleKeeper" := T.gf 14 15
theorem gv_RuleKeeper {g : Wd} (T : Top g) : ∃ u, g.mg "RuleKeeper" = some u ∧ RelV (.ref (gad g.K "RuleKeeper")) u := T.gv 14
theorem gf_StoreError {g : Wd} (T : Top g) : Gf g "StoreError" := T.gf 16 17
theorem gv_StoreError {g : Wd} (T : Top g) : ∃ u, g.mg "StoreError" = some u ∧ RelV (.ref (gad g.K "StoreError")) u := T.gv 16
theorem gf_Thrifty {g : Wd} (T : Top g) : Gf g "Thrifty" := T.gf 18 19
theorem gv_Thrifty {g : Wd} (T : Top g) : ∃ u, g.mg "Thrifty" = some u ∧ RelV (.ref (gad g.K "Thrifty")) u := T.gv 18
theorem gf__appended {g : Wd} (T : Top g) : Gf g "_appended" := T.gf 20 21
theorem gv__appended {g : Wd} (T : Top g) : ∃ u, g.mg "_appended" = some u ∧ RelV (.ref (gad g.K "_appended")) u := T.gv 20
theorem gf__applies {g : Wd} (T : Top g) : Gf g "_applies" := T.gf 22 23
theorem gv__applies {g : Wd} (T : Top g) : ∃ u, g.mg "_applies" = some u ∧ RelV (.ref (gad g.K "_applies")) u := T.gv 22
theorem gf__carried {g : Wd} (T : Top g) : Gf g "_carried" := T.gf 24 25
theorem gv__carried {g : Wd} (T : Top g) : ∃ u, g.mg "_carried" = some u ∧ RelV (.ref (gad g.K "_carried")) u := T.gv 24
theorem gf__check_moment {g : Wd} (T : Top g) : Gf g "_check_moment" := T.gf 26 27
theorem gv__check_moment {g : Wd} (T : Top g) : ∃ u, g.mg "_check_moment" = some u ∧ RelV (.ref (gad g.K "_check_moment")) u := T.gv 26
theorem gf__depth_list {g : Wd} (T : Top g) : Gf g "_depth_list" := T.gf 28 29
theorem gv__depth_list {g : Wd} (T : Top g) : ∃ u, g.mg "_depth_list" = some u ∧ RelV (.ref (gad g.K "_depth_list")) u := T.gv 28
theorem gf__fact {g : Wd} (T : Top g) : Gf g "_fact" := T.gf 30 31
theorem gv__fact {g : Wd} (T : Top g) : ∃ u, g.mg "_fact" = some u ∧ RelV (.ref (gad g.K "_fact")) u := T.gv 30
theorem gf__law_all_refuse {g : Wd} (T : Top g) : Gf g "_law_all_refuse" := T.gf 32 33
theorem gv__law_all_refuse {g : Wd} (T : Top g) : ∃ u, g.mg "_law_all_refuse" = some u ∧ RelV (.ref (gad g.K "_law_all_refuse")) u := T.gv 32
theorem gf__law_bad_numbers {g : Wd} (T : Top g) : Gf g "_law_bad_numbers" := T.gf 34 35
theorem gv__law_bad_numbers {g : Wd} (T : Top g) : ∃ u, g.mg "_law_bad_numbers" = some u ∧ RelV (.ref (gad g.K "_law_bad_numbers")) u := T.gv 34
theorem gf__law_box {g : Wd} (T : Top g) : Gf g "_law_box" := T.gf 36 37
theorem gv__law_box {g : Wd} (T : Top g) : ∃ u, g.mg "_law_box" = some u ∧ RelV (.ref (gad g.K "_law_box")) u := T.gv 36
theorem gf__law_due {g : Wd} (T : Top g) : Gf g "_law_due" := T.gf 38 39
theorem gv__law_due {g : Wd} (T : Top g) : ∃ u, g.mg "_law_due" = some u ∧ RelV (.ref (gad g.K "_law_due")) u := T.gv 38
theorem gf__law_family {g : Wd} (T : Top g) : Gf g "_law_family" := T.gf 40 41
theorem gv__law_family {g : Wd} (T : Top g) : ∃ u, g.mg "_law_family" = some u ∧ RelV (.ref (gad g.K "_law_family")) u := T.gv 40
theorem gf__law_is_count {g : Wd} (T : Top g) : Gf g "_law_is_count" := T.gf 42 43
theorem gv__law_is_count {g : Wd} (T : Top g) : ∃ u, g.mg "_law_is_count" = some u ∧ RelV (.ref (gad g.K "_law_is_count")) u := T.gv 42
theorem gf__law_is_field {g : Wd} (T : Top g) : Gf g "_law_is_field" := T.gf 44 45
theorem gv__law_is_field {g : Wd} (T : Top g) : ∃ u, g.mg "_law_is_field" = some u ∧ RelV (.ref (gad g.K "_law_is_field")) u := T.gv 44
theorem gf__law_looks {g : Wd} (T : Top g) : Gf g "_law_looks" := T.gf 46 47
theorem gv__law_looks {g : Wd} (T : Top g) : ∃ u, g.mg "_law_looks" = some u ∧ RelV (.ref (gad g.K "_law_looks")) u := T.gv 46
theorem gf__law_marks {g : Wd} (T : Top g) : Gf g "_law_marks" := T.gf 48 49
theorem gv__law_marks {g : Wd} (T : Top g) : ∃ u, g.mg "_law_marks" = some u ∧ RelV (.ref (gad g.K "_law_marks")) u := T.gv 48
theorem gf__law_no_lazy {g : Wd} (T : Top g) : Gf g "_law_no_lazy" := T.gf 50 51
theorem gv__law_no_lazy {g : Wd} (T : Top g) : ∃ u, g.mg "_law_no_lazy" = some u ∧ RelV (.ref (gad g.K "_law_no_lazy")) u := T.gv 50
theorem gf__law_no_mark {g : Wd} (T : Top g) : Gf g "_law_no_mark" := T.gf 52 53
theorem gv__law_no_mark {g : Wd} (T : Top g) : ∃ u, g.mg "_law_no_mark" = some u ∧ RelV (.ref (gad g.K "_law_no_mark")) u := T.gv 52
theorem gf__law_no_thrifty {g : Wd} (T : Top g) : Gf g "_law_no_thrifty" := T.gf 54 55
theorem gv__law_no_thrifty {g : Wd} (T : Top g) : ∃ u, g.mg "_law_no_thrifty" = some u ∧ RelV (.ref (gad g.K "_law_no_thrifty")) u := T.gv 54
theorem gf__law_pays {g : Wd} (T : Top g) : Gf g "_law_pays" := T.gf 56 57
theorem gv__law_pays {g : Wd} (T : Top g) : ∃ u, g.mg "_law_pays" = some u ∧ RelV (.ref (gad g.K "_law_pays")) u := T.gv 56
theorem gf__law_refusals {g : Wd} (T : Top g) : Gf g "_law_refusals" := T.gf 58 59
theorem gv__law_refusals {g : Wd} (T : Top g) : ∃ u, g.mg "_law_refusals" = some u ∧ RelV (.ref (gad g.K "_law_refusals")) u := T.gv 58
theorem gf__law_refused {g : Wd} (T : Top g) : Gf g "_law_refused" := T.gf 60 61
theorem gv__law_refused {g : Wd} (T : Top g) : ∃ u, g.mg "_law_refused" = some u ∧ RelV (.ref (gad g.K "_law_refused")) u := T.gv 60
theorem gf__law_round {g : Wd} (T : Top g) : Gf g "_law_round" := T.gf 62 63
theorem gv__law_round {g : Wd} (T : Top g) : ∃ u, g.mg "_law_round" = some u ∧ RelV (.ref (gad g.K "_law_round")) u := T.gv 62
theorem gf__law_stand {g : Wd} (T : Top g) : Gf g "_law_stand" := T.gf 64 65
theorem gv__law_stand {g : Wd} (T : Top g) : ∃ u, g.mg "_law_stand" = some u ∧ RelV (.ref (gad g.K "_law_stand")) u := T.gv 64
theorem gf__law_take {g : Wd} (T : Top g) : Gf g "_law_take" := T.gf 66 67
theorem gv__law_take {g : Wd} (T : Top g) : ∃ u, g.mg "_law_take" = some u ∧ RelV (.ref (gad g.K "_law_take")) u := T.gv 66
theorem gf__law_thrifty {g : Wd} (T : Top g) : Gf g "_law_thrifty" := T.gf 68 69
theorem gv__law_thrifty {g : Wd} (T : Top g) : ∃ u, g.mg "_law_thrifty" = some u ∧ RelV (.ref (gad g.K "_law_thrifty")) u := T.gv 68
theorem gf__law_word {g : Wd} (T : Top g) : Gf g "_law_word" := T.gf 70 71
theorem gv__law_word {g : Wd} (T : Top g) : ∃ u, g.mg "_law_word" = some u ∧ RelV (.ref (gad g.K "_law_word")) u := T.gv 70
theorem gf__most_allowed {g : Wd} (T : Top g) : Gf g "_most_allowed" := T.gf 72 73
theorem gv__most_allowed {g : Wd} (T : Top g) : ∃ u, g.mg "_most_allowed" = some u ∧ RelV (.ref (gad g.K "_most_allowed")) u := T.gv 72
theorem gf__ones {g : Wd} (T : Top g) : Gf g "_ones" := T.gf 74 75
theorem gv__ones {g : Wd} (T : Top g) : ∃ u, g.mg "_ones" = some u ∧ RelV (.ref (gad g.K "_ones")) u := T.gv 74
theorem gf__read_condition {g : Wd} (T : Top g) : Gf g "_read_condition" := T.gf 76 77
theorem gv__read_condition {g : Wd} (T : Top g) : ∃ u, g.mg "_read_condition" = some u ∧ RelV (.ref (gad g.K "_read_condition")) u := T.gv 76
theorem gf__read_line {g : Wd} (T : Top g) : Gf g "_read_line" := T.gf 78 79
theorem gv__read_line {g : Wd} (T : Top g) : ∃ u, g.mg "_read_line" = some u ∧ RelV (.ref (gad g.K "_read_line")) u := T.gv 78
theorem gf__read_number {g : Wd} (T : Top g) : Gf g "_read_number" := T.gf 80 81
theorem gv__read_number {g : Wd} (T : Top g) : ∃ u, g.mg "_read_number" = some u ∧ RelV (.ref (gad g.K "_read_number")) u := T.gv 80
theorem gf__read_rules {g : Wd} (T : Top g) : Gf g "_read_rules" := T.gf 82 83
theorem gv__read_rules {g : Wd} (T : Top g) : ∃ u, g.mg "_read_rules" = some u ∧ RelV (.ref (gad g.K "_read_rules")) u := T.gv 82
theorem gf__trimmed {g : Wd} (T : Top g) : Gf g "_trimmed" := T.gf 84 85
theorem gv__trimmed {g : Wd} (T : Top g) : ∃ u, g.mg "_trimmed" = some u ∧ RelV (.ref (gad g.K "_trimmed")) u := T.gv 84
theorem gf_append_record {g : Wd} (T : Top g) : Gf g "append_record" := T.gf 86 87
theorem gv_append_record {g : Wd} (T : Top g) : ∃ u, g.mg "append_record" = some u ∧ RelV (.ref (gad g.K "append_record")) u := T.gv 86
theorem gf_at_least {g : Wd} (T : Top g) : Gf g "at_least" := T.gf 88 89
theorem gv_at_least {g : Wd} (T : Top g) : ∃ u, g.mg "at_least" = some u ∧ RelV (.ref (gad g.K "at_least")) u := T.gv 88
theorem gf_at_most {g : Wd} (T : Top g) : Gf g "at_most" := T.gf 90 91
theorem gv_at_most {g : Wd} (T : Top g) : ∃ u, g.mg "at_most" = some u ∧ RelV (.ref (gad g.K "at_most")) u := T.gv 90
theorem gf_blocked_at {g : Wd} (T : Top g) : Gf g "blocked_at" := T.gf 92 93
theorem gv_blocked_at {g : Wd} (T : Top g) : ∃ u, g.mg "blocked_at" = some u ∧ RelV (.ref (gad g.K "blocked_at")) u := T.gv 92
theorem gf_blocked_now {g : Wd} (T : Top g) : Gf g "blocked_now" := T.gf 94 95
theorem gv_blocked_now {g : Wd} (T : Top g) : ∃ u, g.mg "blocked_now" = some u ∧ RelV (.ref (gad g.K "blocked_now")) u := T.gv 94
theorem gf_carry {g : Wd} (T : Top g) : Gf g "carry" := T.gf 96 97
theorem gv_carry {g : Wd} (T : Top g) : ∃ u, g.mg "carry" = some u ∧ RelV (.ref (gad g.K "carry")) u := T.gv 96
theorem gf_check_standing {g : Wd} (T : Top g) : Gf g "check_standing" := T.gf 98 99
theorem gv_check_standing {g : Wd} (T : Top g) : ∃ u, g.mg "check_standing" = some u ∧ RelV (.ref (gad g.K "check_standing")) u := T.gv 98
theorem gf_counted_places {g : Wd} (T : Top g) : Gf g "counted_places" := T.gf 100 101
theorem gv_counted_places {g : Wd} (T : Top g) : ∃ u, g.mg "counted_places" = some u ∧ RelV (.ref (gad g.K "counted_places")) u := T.gv 100
theorem gf_critical_put {g : Wd} (T : Top g) : Gf g "critical_put" := T.gf 102 103
theorem gv_critical_put {g : Wd} (T : Top g) : ∃ u, g.mg "critical_put" = some u ∧ RelV (.ref (gad g.K "critical_put")) u := T.gv 102
theorem gf_depths {g : Wd} (T : Top g) : Gf g "depths" := T.gf 104 105
theorem gv_depths {g : Wd} (T : Top g) : ∃ u, g.mg "depths" = some u ∧ RelV (.ref (gad g.K "depths")) u := T.gv 104
theorem gf_good_word {g : Wd} (T : Top g) : Gf g "good_word" := T.gf 106 107
theorem gv_good_word {g : Wd} (T : Top g) : ∃ u, g.mg "good_word" = some u ∧ RelV (.ref (gad g.K "good_word")) u := T.gv 106
theorem gf_law {g : Wd} (T : Top g) : Gf g "law" := T.gf 108 109
theorem gv_law {g : Wd} (T : Top g) : ∃ u, g.mg "law" = some u ∧ RelV (.ref (gad g.K "law")) u := T.gv 108
theorem gf_life {g : Wd} (T : Top g) : Gf g "life" := T.gf 110 111
theorem gv_life {g : Wd} (T : Top g) : ∃ u, g.mg "life" = some u ∧ RelV (.ref (gad g.K "life")) u := T.gv 110
theorem gf_living {g : Wd} (T : Top g) : Gf g "living" := T.gf 112 113
theorem gv_living {g : Wd} (T : Top g) : ∃ u, g.mg "living" = some u ∧ RelV (.ref (gad g.K "living")) u := T.gv 112
theorem gf_safe {g : Wd} (T : Top g) : Gf g "safe" := T.gf 114 115
theorem gv_safe {g : Wd} (T : Top g) : ∃ u, g.mg "safe" = some u ∧ RelV (.ref (gad g.K "safe")) u := T.gv 114
theorem gf_short_at {g : Wd} (T : Top g) : Gf g "short_at" := T.gf 116 117
theorem gv_short_at {g : Wd} (T : Top g) : ∃ u, g.mg "short_at" = some u ∧ RelV (.ref (gad g.K "short_at")) u := T.gv 116
theorem gf_short_now {g : Wd} (T : Top g) : Gf g "short_now" := T.gf 118 119
theorem gv_short_now {g : Wd} (T : Top g) : ∃ u, g.mg "short_now" = some u ∧ RelV (.ref (gad g.K "short_now")) u := T.gv 118
theorem gf_whole_number {g : Wd} (T : Top g) : Gf g "whole_number" := T.gf 120 121
theorem gv_whole_number {g : Wd} (T : Top g) : ∃ u, g.mg "whole_number" = some u ∧ RelV (.ref (gad g.K "whole_number")) u := T.gv 120
theorem bl_ValueError {g : Wd} (T : Top g) : g.mg "ValueError" = none := T.blt 122
theorem bt_ValueError : bootBuiltins ("ValueError" : Str) = some (.type "ValueError") := by decide +kernel
theorem bl_abs {g : Wd} (T : Top g) : g.mg "abs" = none := T.blt 123
theorem bt_abs : bootBuiltins ("abs" : Str) = some (.builtin "abs") := by decide +kernel
theorem bl_all {g : Wd} (T : Top g) : g.mg "all" = none := T.blt 124
theorem bt_all : bootBuiltins ("all" : Str) = some (.builtin "all") := by decide +kernel
theorem bl_bool {g : Wd} (T : Top g) : g.mg "bool" = none := T.blt 125
theorem bt_bool : bootBuiltins ("bool" : Str) = some (.type "bool") := by decide +kernel
theorem bl_divmod {g : Wd} (T : Top g) : g.mg "divmod" = none := T.blt 126
theorem bt_divmod : bootBuiltins ("divmod" : Str) = some (.builtin "divmod") := by decide +kernel
theorem bl_enumerate {g : Wd} (T : Top g) : g.mg "enumerate" = none := T.blt 127
theorem bt_enumerate : bootBuiltins ("enumerate" : Str) = some (.type "enumerate") := by decide +kernel
theorem bl_int {g : Wd} (T : Top g) : g.mg "int" = none := T.blt 128
theorem bt_int : bootBuiltins ("int" : Str) = some (.type "int") := by decide +kernel
theorem bl_isinstance {g : Wd} (T : Top g) : g.mg "isinstance" = none := T.blt 129
theorem bt_isinstance : bootBuiltins ("isinstance" : Str) = some (.builtin "isinstance") := by decide +kernel
theorem bl_len {g : Wd} (T : Top g) : g.mg "len" = none := T.blt 130
theorem bt_len : bootBuiltins ("len" : Str) = some (.builtin "len") := by decide +kernel
theorem bl_list {g : Wd} (T : Top g) : g.mg "list" = none := T.blt 131
theorem bt_list : bootBuiltins ("list" : Str) = some (.type "list") := by decide +kernel
theorem bl_max {g : Wd} (T : Top g) : g.mg "max" = none := T.blt 132
theorem bt_max : bootBuiltins ("max" : Str) = some (.builtin "max") := by decide +kernel
theorem bl_min {g : Wd} (T : Top g) : g.mg "min" = none := T.blt 133
theorem bt_min : bootBuiltins ("min" : Str) = some (.builtin "min") := by decide +kernel
theorem bl_range {g : Wd} (T : Top g) : g.mg "range" = none := T.blt 134
theorem bt_range : bootBuiltins ("range" : Str) = some (.type "range") := by decide +kernel
theorem bl_str {g : Wd} (T : Top g) : g.mg "str" = none := T.blt 135
theorem bt_str : bootBuiltins ("str" : Str) = some (.type "str") := by decide +kernel
theorem bl_sum {g : Wd} (T : Top g) : g.mg "sum" = none := T.blt 136
theorem bt_sum : bootBuiltins ("sum" : Str) = some (.builtin "sum") := by decide +kernel
theorem bl_tuple {g : Wd} (T : Top g) : g.mg "tuple" = none := T.blt 137
theorem bt_tuple : bootBuiltins ("tuple" : Str) = some (.type "tuple") := by decide +kernel
theorem gc_DIGITS {g : Wd} (T : Top g) : ∃ u, g.mg "DIGITS" = some u ∧ RelV (.str "0123456789") u := T.gst 138
theorem gc_MOST_DIGITS {g : Wd} (T : Top g) : ∃ u, g.mg "MOST_DIGITS" = some u ∧ RelV (.int 3) u := T.gi 139
theorem gv_FACTS {g : Wd} (T : Top g) : ∃ u, g.mg "FACTS" = some u ∧ RelV (.ref (gad g.K "FACTS")) u := T.gv 140
theorem gt_FACTS {g : Wd} (T : Top g) (H : Hp) : SqT g.K H (gad g.K "FACTS") [V.str "free", V.str "living", V.str "dead", V.str "gap", V.str "budget"] := He.tupB_ok (T.chk 0) H
theorem gv_SIGNS {g : Wd} (T : Top g) : ∃ u, g.mg "SIGNS" = some u ∧ RelV (.ref (gad g.K "SIGNS")) u := T.gv 141
theorem gt_SIGNS {g : Wd} (T : Top g) (H : Hp) : SqT g.K H (gad g.K "SIGNS") [V.str "<=", V.str ">=", V.str "=="] := He.tupB_ok (T.chk 1) H
theorem cl_Keeper {g : Wd} (T : Top g) : Cls g.K (gad g.K "Keeper") := T.cls 142
theorem ty_Keeper {g : Wd} (T : Top g) {H : Hp} {a dx : Addr} {fs : List (Str × V)} (e : H a = some (.ins (gad g.K "Keeper") dx fs)) : TyX g.K H (.ref a) (.ref (gad g.K "Keeper")) := tyB_ok (T.chk 2) (cl_Keeper T) e
theorem mt_Keeper_choose {g : Wd} (T : Top g) : Meth g.K (gad g.K "Keeper") "choose" (mad g.K (gad g.K "Keeper") "choose") := T.meth 143
theorem mt_Keeper_label {g : Wd} (T : Top g) : Meth g.K (gad g.K "Keeper") "label" (mad g.K (gad g.K "Keeper") "label") := T.meth 144
theorem mz_Keeper {g : Wd} (T : Top g) : MkZ g.K (gad g.K "Keeper") := mkzB_ok (T.chk 3)
theorem kt_Keeper_Keeper {g : Wd} (T : Top g) : PySem.W.kitOne g.K (.ref (gad g.K "Keeper")) (.ref (gad g.K "Keeper")) = some true := kitC_ok (T.chk 4)
theorem kt_Keeper_Greedy {g : Wd} (T : Top g) : PySem.W.kitOne g.K (.ref (gad g.K "Keeper")) (.ref (gad g.K "Greedy")) = some false := kitC_ok (T.chk 5)
theorem kt_Keeper_Lazy {g : Wd} (T : Top g) : PySem.W.kitOne g.K (.ref (gad g.K "Keeper")) (.ref (gad g.K "Lazy")) = some false := kitC_ok (T.chk 6)
theorem kt_Keeper_Thrifty {g : Wd} (T : Top g) : PySem.W.kitOne g.K (.ref (gad g.K "Keeper")) (.ref (gad g.K "Thrifty")) = some false := kitC_ok (T.chk 7)
theorem kt_Keeper_RuleKeeper {g : Wd} (T : Top g) : PySem.W.kitOne g.K (.ref (gad g.K "Keeper")) (.ref (gad g.K "RuleKeeper")) = some false := kitC_ok (T.chk 8)
theorem kt_Keeper_Round {g : Wd} (T : Top g) : PySem.W.kitOne g.K (.ref (gad g.K "Keeper")) (.ref (gad g.K "Round")) = some false := kitC_ok (T.chk 9)
theorem cl_Greedy {g : Wd} (T : Top g) : Cls g.K (gad g.K "Greedy") := T.cls 145
theorem ty_Greedy {g : Wd} (T : Top g) {H : Hp} {a dx : Addr} {fs : List (Str × V)} (e : H a = some (.ins (gad g.K "Greedy") dx fs)) : TyX g.K H (.ref a) (.ref (gad g.K "Greedy")) := tyB_ok (T.chk 10) (cl_Greedy T) e
theorem mt_Greedy_choose {g : Wd} (T : Top g) : Meth g.K (gad g.K "Greedy") "choose" (mad g.K (gad g.K "Greedy") "choose") := T.meth 146
theorem mt_Greedy_label {g : Wd} (T : Top g) : Meth g.K (gad g.K "Greedy") "label" (mad g.K (gad g.K "Greedy") "label") := T.meth 147
theorem mz_Greedy {g : Wd} (T : Top g) : MkZ g.K (gad g.K "Greedy") := mkzB_ok (T.chk 11)
theorem kt_Greedy_Keeper {g : Wd} (T : Top g) : PySem.W.kitOne g.K (.ref (gad g.K "Greedy")) (.ref (gad g.K "Keeper")) = some true := kitC_ok (T.chk 12)
theorem kt_Greedy_Greedy {g : Wd} (T : Top g) : PySem.W.kitOne g.K (.ref (gad g.K "Greedy")) (.ref (gad g.K "Greedy")) = some true := kitC_ok (T.chk 13)
theorem kt_Greedy_Lazy {g : Wd} (T : Top g) : PySem.W.kitOne g.K (.ref (gad g.K "Greedy")) (.ref (gad g.K "Lazy")) = some false := kitC_ok (T.chk 14)
theorem kt_Greedy_Thrifty {g : Wd} (T : Top g) : PySem.W.kitOne g.K (.ref (gad g.K "Greedy")) (.ref (gad g.K "Thrifty")) = some false := kitC_ok (T.chk 15)
theorem kt_Greedy_RuleKeeper {g : Wd} (T : Top g) : PySem.W.kitOne g.K (.ref (gad g.K "Greedy")) (.ref (gad g.K "RuleKeeper")) = some false := kitC_ok (T.chk 16)
theorem kt_Greedy_Round {g : Wd} (T : Top g) : PySem.W.kitOne g.K (.ref (gad g.K "Greedy")) (.ref (gad g.K "Round")) = some false := kitC_ok (T.chk 17)
theorem cl_Lazy {g : Wd} (T : Top g) : Cls g.K (gad g.K "Lazy") := T.cls 148
theorem ty_Lazy {g : Wd} (T : Top g) {H : Hp} {a dx : Addr} {fs : List (Str × V)} (e : H a = some (.ins (gad g.K "Lazy") dx fs)) : TyX g.K H (.ref a) (.ref (gad g.K "Lazy")) := tyB_ok (T.chk 18) (cl_Lazy T) e
theorem pr_Lazy_mark {g : Wd} (T : Top g) : PropOf g.K (gad g.K "Lazy") "mark" (pad g.K "Lazy" "mark") (pgt g.K "Lazy" "mark") := propB_ok (T.chk 19)
theorem mt_Lazy_set_mark {g : Wd} (T : Top g) : Meth g.K (gad g.K "Lazy") "set_mark" (mad g.K (gad g.K "Lazy") "set_mark") := T.meth 149
theorem mt_Lazy_choose {g : Wd} (T : Top g) : Meth g.K (gad g.K "Lazy") "choose" (mad g.K (gad g.K "Lazy") "choose") := T.meth 150
theorem mt_Lazy_label {g : Wd} (T : Top g) : Meth g.K (gad g.K "Lazy") "label" (mad g.K (gad g.K "Lazy") "label") := T.meth 151
theorem na_Lazy__mark {g : Wd} (T : Top g) : NoAttr g.K (gad g.K "Lazy") "_mark" := T.noat 152
theorem mk_Lazy {g : Wd} (T : Top g) : Mk g.K (gad g.K "Lazy") (mad g.K (gad g.K "Lazy") "__init__") := T.mkr 153
theorem kt_Lazy_Keeper {g : Wd} (T : Top g) : PySem.W.kitOne g.K (.ref (gad g.K "Lazy")) (.ref (gad g.K "Keeper")) = some true := kitC_ok (T.chk 20)
theorem kt_Lazy_Greedy {g : Wd} (T : Top g) : PySem.W.kitOne g.K (.ref (gad g.K "Lazy")) (.ref (gad g.K "Greedy")) = some false := kitC_ok (T.chk 21)
theorem kt_Lazy_Lazy {g : Wd} (T : Top g) : PySem.W.kitOne g.K (.ref (gad g.K "Lazy")) (.ref (gad g.K "Lazy")) = some true := kitC_ok (T.chk 22)
theorem kt_Lazy_Thrifty {g : Wd} (T : Top g) : PySem.W.kitOne g.K (.ref (gad g.K "Lazy")) (.ref (gad g.K "Thrifty")) = some false := kitC_ok (T.chk 23)
theorem kt_Lazy_RuleKeeper {g : Wd} (T : Top g) : PySem.W.kitOne g.K (.ref (gad g.K "Lazy")) (.ref (gad g.K "RuleKeeper")) = some false := kitC_ok (T.chk 24)
theorem kt_Lazy_Round {g : Wd} (T : Top g) : PySem.W.kitOne g.K (.ref (gad g.K "Lazy")) (.ref (gad g.K "Round")) = some false := kitC_ok (T.chk 25)
theorem cl_Thrifty {g : Wd} (T : Top g) : Cls g.K (gad g.K "Thrifty") := T.cls 154
theorem ty_Thrifty {g : Wd} (T : Top g) {H : Hp} {a dx : Addr} {fs : List (Str × V)} (e : H a = some (.ins (gad g.K "Thrifty") dx fs)) : TyX g.K H (.ref a) (.ref (gad g.K "Thrifty")) := tyB_ok (T.chk 26) (cl_Thrifty T) e
theorem mt_Thrifty_choose {g : Wd} (T : Top g) : Meth g.K (gad g.K "Thrifty") "choose" (mad g.K (gad g.K "Thrifty") "choose") := T.meth 155
theorem mt_Thrifty__leaves_safe {g : Wd} (T : Top g) : Meth g.K (gad g.K "Thrifty") "_leaves_safe" (mad g.K (gad g.K "Thrifty") "_leaves_safe") := T.meth 156
theorem mt_Thrifty_label {g : Wd} (T : Top g) : Meth g.K (gad g.K "Thrifty") "label" (mad g.K (gad g.K "Thrifty") "label") := T.meth 157
theorem na_Thrifty__limit {g : Wd} (T : Top g) : NoAttr g.K (gad g.K "Thrifty") "_limit" := T.noat 158
theorem mk_Thrifty {g : Wd} (T : Top g) : Mk g.K (gad g.K "Thrifty") (mad g.K (gad g.K "Thrifty") "__init__") := T.mkr 159
theorem kt_Thrifty_Keeper {g : Wd} (T : Top g) : PySem.W.kitOne g.K (.ref (gad g.K "Thrifty")) (.ref (gad g.K "Keeper")) = some true := kitC_ok (T.chk 27)
theorem kt_Thrifty_Greedy {g : Wd} (T : Top g) : PySem.W.kitOne g.K (.ref (gad g.K "Thrifty")) (.ref (gad g.K "Greedy")) = some false := kitC_ok (T.chk 28)
theorem kt_Thrifty_Lazy {g : Wd} (T : Top g) : PySem.W.kitOne g.K (.ref (gad g.K "Thrifty")) (.ref (gad g.K "Lazy")) = some false := kitC_ok (T.chk 29)
theorem kt_Thrifty_Thrifty {g : Wd} (T : Top g) : PySem.W.kitOne g.K (.ref (gad g.K "Thrifty")) (.ref (gad g.K "Thrifty")) = some true := kitC_ok (T.chk 30)
theorem kt_Thrifty_RuleKeeper {g : Wd} (T : Top g) : PySem.W.kitOne g.K (.ref (gad g.K "Thrifty")) (.ref (gad g.K "RuleKeeper")) = some false := kitC_ok (T.chk 31)
theorem kt_Thrifty_Round {g : Wd} (T : Top g) : PySem.W.kitOne g.K (.ref (gad g.K "Thrifty")) (.ref (gad g.K "Round")) = some false := kitC_ok (T.chk 32)
theorem cl_RuleKeeper {g : Wd} (T : Top g) : Cls g.K (gad g.K "RuleKeeper") := T.cls 160
theorem ty_RuleKeeper {g : Wd} (T : Top g) {H : Hp} {a dx : Addr} {fs : List (Str × V)} (e : H a = some (.ins (gad g.K "RuleKeeper") dx fs)) : TyX g.K H (.ref a) (.ref (gad g.K "RuleKeeper")) := tyB_ok (T.chk 33) (cl_RuleKeeper T) e
theorem mt_RuleKeeper_choose {g : Wd} (T : Top g) : Meth g.K (gad g.K "RuleKeeper") "choose" (mad g.K (gad g.K "RuleKeeper") "choose") := T.meth 161
theorem mt_RuleKeeper_label {g : Wd} (T : Top g) : Meth g.K (gad g.K "RuleKeeper") "label" (mad g.K (gad g.K "RuleKeeper") "label") := T.meth 162
theorem na_RuleKeeper__rules {g : Wd} (T : Top g) : NoAttr g.K (gad g.K "RuleKeeper") "_rules" := T.noat 163
theorem mk_RuleKeeper {g : Wd} (T : Top g) : Mk g.K (gad g.K "RuleKeeper") (mad g.K (gad g.K "RuleKeeper") "__init__") := T.mkr 164
theorem kt_RuleKeeper_Keeper {g : Wd} (T : Top g) : PySem.W.kitOne g.K (.ref (gad g.K "RuleKeeper")) (.ref (gad g.K "Keeper")) = some true := kitC_ok (T.chk 34)
theorem kt_RuleKeeper_Greedy {g : Wd} (T : Top g) : PySem.W.kitOne g.K (.ref (gad g.K "RuleKeeper")) (.ref (gad g.K "Greedy")) = some false := kitC_ok (T.chk 35)
theorem kt_RuleKeeper_Lazy {g : Wd} (T : Top g) : PySem.W.kitOne g.K (.ref (gad g.K "RuleKeeper")) (.ref (gad g.K "Lazy")) = some false := kitC_ok (T.chk 36)
theorem kt_RuleKeeper_Thrifty {g : Wd} (T : Top g) : PySem.W.kitOne g.K (.ref (gad g.K "RuleKeeper")) (.ref (gad g.K "Thrifty")) = some false := kitC_ok (T.chk 37)
theorem kt_RuleKeeper_RuleKeeper {g : Wd} (T : Top g) : PySem.W.kitOne g.K (.ref (gad g.K "RuleKeeper")) (.ref (gad g.K "RuleKeeper")) = some true := kitC_ok (T.chk 38)
theorem kt_RuleKeeper_Round {g : Wd} (T : Top g) : PySem.W.kitOne g.K (.ref (gad g.K "RuleKeeper")) (.ref (gad g.K "Round")) = some false := kitC_ok (T.chk 39)
theorem cl_Round {g : Wd} (T : Top g) : Cls g.K (gad g.K "Round") := T.cls 165
theorem ty_Round {g : Wd} (T : Top g) {H : Hp} {a dx : Addr} {fs : List (Str × V)} (e : H a = some (.ins (gad g.K "Round") dx fs)) : TyX g.K H (.ref a) (.ref (gad g.K "Round")) := tyB_ok (T.chk 40) (cl_Round T) e
theorem pr_Round_budgets {g : Wd} (T : Top g) : PropOf g.K (gad g.K "Round") "budgets" (pad g.K "Round" "budgets") (pgt g.K "Round" "budgets") := propB_ok (T.chk 41)
theorem du_Round_len {g : Wd} (T : Top g) : PySem.W.findIn g.K (.ref (gad g.K "Round")) "__len__" = some (some (.ref (mad g.K (gad g.K "Round") "__len__"))) ∧ PySem.W.isFn g.K (.ref (mad g.K (gad g.K "Round") "__len__")) = true := dunB_ok (T.chk 42)
theorem du_Round_add {g : Wd} (T : Top g) : PySem.W.findIn g.K (.ref (gad g.K "Round")) "__add__" = some (some (.ref (mad g.K (gad g.K "Round") "__add__"))) ∧ PySem.W.isFn g.K (.ref (mad g.K (gad g.K "Round") "__add__")) = true := dunB_ok (T.chk 43)
theorem mt_Round_at {g : Wd} (T : Top g) : Meth g.K (gad g.K "Round") "at" (mad g.K (gad g.K "Round") "at") := T.meth 166
theorem mt_Round_shifted {g : Wd} (T : Top g) : Meth g.K (gad g.K "Round") "shifted" (mad g.K (gad g.K "Round") "shifted") := T.meth 167
theorem mt_Round_total {g : Wd} (T : Top g) : Meth g.K (gad g.K "Round") "total" (mad g.K (gad g.K "Round") "total") := T.meth 168
theorem mt_Round_least {g : Wd} (T : Top g) : Meth g.K (gad g.K "Round") "least" (mad g.K (gad g.K "Round") "least") := T.meth 169
theorem mt_Round_worst_start {g : Wd} (T : Top g) : Meth g.K (gad g.K "Round") "worst_start" (mad g.K (gad g.K "Round") "worst_start") := T.meth 170
theorem mt_Round_reach {g : Wd} (T : Top g) : Meth g.K (gad g.K "Round") "reach" (mad g.K (gad g.K "Round") "reach") := T.meth 171
theorem mt_Round__window {g : Wd} (T : Top g) : Meth g.K (gad g.K "Round") "_window" (mad g.K (gad g.K "Round") "_window") := T.meth 172
theorem mt_Round__windows {g : Wd} (T : Top g) : Meth g.K (gad g.K "Round") "_windows" (mad g.K (gad g.K "Round") "_windows") := T.meth 173
theorem na_Round__budgets {g : Wd} (T : Top g) : NoAttr g.K (gad g.K "Round") "_budgets" := T.noat 174
theorem mk_Round {g : Wd} (T : Top g) : Mk g.K (gad g.K "Round") (mad g.K (gad g.K "Round") "__init__") := T.mkr 175
theorem sf_Round {g : Wd} (T : Top g) : PySem.W.selfFirst g.K (gad g.K "Round") = true := T.chk 44 (c := selfB "Round")
theorem kt_Round_Keeper {g : Wd} (T : Top g) : PySem.W.kitOne g.K (.ref (gad g.K "Round")) (.ref (gad g.K "Keeper")) = some false := kitC_ok (T.chk 45)
theorem kt_Round_Greedy {g : Wd} (T : Top g) : PySem.W.kitOne g.K (.ref (gad g.K "Round")) (.ref (gad g.K "Greedy")) = some false := kitC_ok (T.chk 46)
theorem kt_Round_Lazy {g : Wd} (T : Top g) : PySem.W.kitOne g.K (.ref (gad g.K "Round")) (.ref (gad g.K "Lazy")) = some false := kitC_ok (T.chk 47)
theorem kt_Round_Thrifty {g : Wd} (T : Top g) : PySem.W.kitOne g.K (.ref (gad g.K "Round")) (.ref (gad g.K "Thrifty")) = some false := kitC_ok (T.chk 48)
theorem kt_Round_RuleKeeper {g : Wd} (T : Top g) : PySem.W.kitOne g.K (.ref (gad g.K "Round")) (.ref (gad g.K "RuleKeeper")) = some false := kitC_ok (T.chk 49)
theorem kt_Round_Round {g : Wd} (T : Top g) : PySem.W.kitOne g.K (.ref (gad g.K "Round")) (.ref (gad g.K "Round")) = some true := kitC_ok (T.chk 50)
theorem cvl_Round_MOST {g : Wd} (T : Top g) : ∃ u, ClX.CRead g.K (gad g.K "Round") (.type "type") ∧ ClX.CVal g.K (gad g.K "Round") (.type "type") "MOST" (.int 12) u := cvalB_ok (T.chk 51)
theorem ox_InvalidInput {g : Wd} (T : Top g) : OexC g.K (gad g.K "InvalidInput") := oexB_ok (T.chk 52)
theorem ei_InvalidInput {g : Wd} (T : Top g) : PySem.W.findIn g.K (.ref (gad g.K "InvalidInput")) "__init__" = some (some (.ref (mad g.K (gad g.K "InvalidInput") "__init__"))) ∧ PySem.W.typeIn g.K (.ref (mad g.K (gad g.K "InvalidInput") "__init__")) = some (.type "function") := einB_ok (T.chk 53)
theorem xf_InvalidInput {g : Wd} (T : Top g) : XfC g.K (gad g.K "InvalidInput") := xfC_ok (T.chk 54)
theorem ec_InvalidInput {g : Wd} (T : Top g) : ExcC g.K (gad g.K "InvalidInput") := excB_ok (T.chk 55)
theorem na_InvalidInput_field {g : Wd} (T : Top g) : NoAttr g.K (gad g.K "InvalidInput") "field" := T.noat 176
theorem su_InvalidInput {g : Wd} (T : Top g) : ∃ cc cdv, SupD g.P g.K (gad g.K "InvalidInput") (mad g.K (gad g.K "InvalidInput") "__init__") "__init__" s0.qual s0.params s0.body s0.scope cc cdv := T.sup 0 56 (d := s0) (file := PySem.Challenge.pw_carrylog_k54_choose_family.main.file)
theorem kt_InvalidInput_StoreError {g : Wd} (T : Top g) : PySem.W.kitOne g.K (.ref (gad g.K "InvalidInput")) (.ref (gad g.K "StoreError")) = some true := kitC_ok (T.chk 57)
theorem kt_InvalidInput_InvalidInput {g : Wd} (T : Top g) : PySem.W.kitOne g.K (.ref (gad g.K "InvalidInput")) (.ref (gad g.K "InvalidInput")) = some true := kitC_ok (T.chk 58)
theorem kt_InvalidInput_NoPlace {g : Wd} (T : Top g) : PySem.W.kitOne g.K (.ref (gad g.K "InvalidInput")) (.ref (gad g.K "NoPlace")) = some false := kitC_ok (T.chk 59)
theorem kt_InvalidInput_BadRule {g : Wd} (T : Top g) : PySem.W.kitOne g.K (.ref (gad g.K "InvalidInput")) (.ref (gad g.K "BadRule")) = some false := kitC_ok (T.chk 60)
theorem em_InvalidInput_StoreError {g : Wd} (T : Top g) : PySem.W.exmOne g.K (.ref (gad g.K "InvalidInput")) (.ref (gad g.K "StoreError")) = some true := T.exm 177
theorem em_InvalidInput_InvalidInput {g : Wd} (T : Top g) : PySem.W.exmOne g.K (.ref (gad g.K "InvalidInput")) (.ref (gad g.K "InvalidInput")) = some true := T.exm 178
theorem em_InvalidInput_NoPlace {g : Wd} (T : Top g) : PySem.W.exmOne g.K (.ref (gad g.K "InvalidInput")) (.ref (gad g.K "NoPlace")) = some false := T.exm 179
theorem em_InvalidInput_BadRule {g : Wd} (T : Top g) : PySem.W.exmOne g.K (.ref (gad g.K "InvalidInput")) (.ref (gad g.K "BadRule")) = some false := T.exm 180
theorem kv_InvalidInput {g : Wd} (T : Top g) : PySem.W.kitOne g.K (.ref (gad g.K "InvalidInput")) (.type "ValueError") = some true := kitT_ok (T.chk 61)
theorem ox_NoPlace {g : Wd} (T : Top g) : OexC g.K (gad g.K "NoPlace") := oexB_ok (T.chk 62)
theorem ei_NoPlace {g : Wd} (T : Top g) : PySem.W.findIn g.K (.ref (gad g.K "NoPlace")) "__init__" = some (some (.ref (mad g.K (gad g.K "NoPlace") "__init__"))) ∧ PySem.W.typeIn g.K (.ref (mad g.K (gad g.K "NoPlace") "__init__")) = some (.type "function") := einB_ok (T.chk 63)
theorem xf_NoPlace {g : Wd} (T : Top g) : XfC g.K (gad g.K "NoPlace") := xfC_ok (T.chk 64)
theorem ec_NoPlace {g : Wd} (T : Top g) : ExcC g.K (gad g.K "NoPlace") := excB_ok (T.chk 65)
theorem na_NoPlace_length {g : Wd} (T : Top g) : NoAttr g.K (gad g.K "NoPlace") "length" := T.noat 181
theorem su_NoPlace {g : Wd} (T : Top g) : ∃ cc cdv, SupD g.P g.K (gad g.K "NoPlace") (mad g.K (gad g.K "NoPlace") "__init__") "__init__" s1.qual s1.params s1.body s1.scope cc cdv := T.sup 1 66 (d := s1) (file := PySem.Challenge.pw_carrylog_k54_choose_family.main.file)
theorem kt_NoPlace_StoreError {g : Wd} (T : Top g) : PySem.W.kitOne g.K (.ref (gad g.K "NoPlace")) (.ref (gad g.K "StoreError")) = some true := kitC_ok (T.chk 67)
theorem kt_NoPlace_InvalidInput {g : Wd} (T : Top g) : PySem.W.kitOne g.K (.ref (gad g.K "NoPlace")) (.ref (gad g.K "InvalidInput")) = some false := kitC_ok (T.chk 68)
theorem kt_NoPlace_NoPlace {g : Wd} (T : Top g) : PySem.W.kitOne g.K (.ref (gad g.K "NoPlace")) (.ref (gad g.K "NoPlace")) = some true := kitC_ok (T.chk 69)
theorem kt_NoPlace_BadRule {g : Wd} (T : Top g) : PySem.W.kitOne g.K (.ref (gad g.K "NoPlace")) (.ref (gad g.K "BadRule")) = some false := kitC_ok (T.chk 70)
theorem em_NoPlace_StoreError {g : Wd} (T : Top g) : PySem.W.exmOne g.K (.ref (gad g.K "NoPlace")) (.ref (gad g.K "StoreError")) = some true := T.exm 182
theorem em_NoPlace_InvalidInput {g : Wd} (T : Top g) : PySem.W.exmOne g.K (.ref (gad g.K "NoPlace")) (.ref (gad g.K "InvalidInput")) = some false := T.exm 183
theorem em_NoPlace_NoPlace {g : Wd} (T : Top g) : PySem.W.exmOne g.K (.ref (gad g.K "NoPlace")) (.ref (gad g.K "NoPlace")) = some true := T.exm 184
theorem em_NoPlace_BadRule {g : Wd} (T : Top g) : PySem.W.exmOne g.K (.ref (gad g.K "NoPlace")) (.ref (gad g.K "BadRule")) = some false := T.exm 185
theorem kv_NoPlace {g : Wd} (T : Top g) : PySem.W.kitOne g.K (.ref (gad g.K "NoPlace")) (.type "ValueError") = some true := kitT_ok (T.chk 71)
theorem ox_BadRule {g : Wd} (T : Top g) : OexC g.K (gad g.K "BadRule") := oexB_ok (T.chk 72)
theorem ei_BadRule {g : Wd} (T : Top g) : PySem.W.findIn g.K (.ref (gad g.K "BadRule")) "__init__" = some (some (.ref (mad g.K (gad g.K "BadRule") "__init__"))) ∧ PySem.W.typeIn g.K (.ref (mad g.K (gad g.K "BadRule") "__init__")) = some (.type "function") := einB_ok (T.chk 73)
theorem xf_BadRule {g : Wd} (T : Top g) : XfC g.K (gad g.K "BadRule") := xfC_ok (T.chk 74)
theorem ec_BadRule {g : Wd} (T : Top g) : ExcC g.K (gad g.K "BadRule") := excB_ok (T.chk 75)
theorem na_BadRule_line {g : Wd} (T : Top g) : NoAttr g.K (gad g.K "BadRule") "line" := T.noat 186
theorem su_BadRule {g : Wd} (T : Top g) : ∃ cc cdv, SupD g.P g.K (gad g.K "BadRule") (mad g.K (gad g.K "BadRule") "__init__") "__init__" s2.qual s2.params s2.body s2.scope cc cdv := T.sup 2 76 (d := s2) (file := PySem.Challenge.pw_carrylog_k54_choose_family.main.file)
theorem kt_BadRule_StoreError {g : Wd} (T : Top g) : PySem.W.kitOne g.K (.ref (gad g.K "BadRule")) (.ref (gad g.K "StoreError")) = some true := kitC_ok (T.chk 77)
theorem kt_BadRule_InvalidInput {g : Wd} (T : Top g) : PySem.W.kitOne g.K (.ref (gad g.K "BadRule")) (.ref (gad g.K "InvalidInput")) = some false := kitC_ok (T.chk 78)
theorem kt_BadRule_NoPlace {g : Wd} (T : Top g) : PySem.W.kitOne g.K (.ref (gad g.K "BadRule")) (.ref (gad g.K "NoPlace")) = some false := kitC_ok (T.chk 79)
theorem kt_BadRule_BadRule {g : Wd} (T : Top g) : PySem.W.kitOne g.K (.ref (gad g.K "BadRule")) (.ref (gad g.K "BadRule")) = some true := kitC_ok (T.chk 80)
theorem em_BadRule_StoreError {g : Wd} (T : Top g) : PySem.W.exmOne g.K (.ref (gad g.K "BadRule")) (.ref (gad g.K "StoreError")) = some true := T.exm 187
theorem em_BadRule_InvalidInput {g : Wd} (T : Top g) : PySem.W.exmOne g.K (.ref (gad g.K "BadRule")) (.ref (gad g.K "InvalidInput")) = some false := T.exm 188
theorem em_BadRule_NoPlace {g : Wd} (T : Top g) : PySem.W.exmOne g.K (.ref (gad g.K "BadRule")) (.ref (gad g.K "NoPlace")) = some false := T.exm 189
theorem em_BadRule_BadRule {g : Wd} (T : Top g) : PySem.W.exmOne g.K (.ref (gad g.K "BadRule")) (.ref (gad g.K "BadRule")) = some true := T.exm 190
theorem kv_BadRule {g : Wd} (T : Top g) : PySem.W.kitOne g.K (.ref (gad g.K "BadRule")) (.type "ValueError") = some true := kitT_ok (T.chk 81)
theorem fd__wall {g : Wd} (T : Top g) : ∃ fd, FunD g.K d0.name d0.qual d0.params d0.body d0.scope (d0.dvs g.K) (d0.kws g.K) (He.fAd g.K d0.at_) fd := T.dat 0
theorem fd_at_least {g : Wd} (T : Top g) : ∃ fd, FunD g.K d1.name d1.qual d1.params d1.body d1.scope (d1.dvs g.K) (d1.kws g.K) (He.fAd g.K d1.at_) fd := T.dat 1
theorem fd_at_most {g : Wd} (T : Top g) : ∃ fd, FunD g.K d2.name d2.qual d2.params d2.body d2.scope (d2.dvs g.K) (d2.kws g.K) (He.fAd g.K d2.at_) fd := T.dat 2
theorem fd_whole_number {g : Wd} (T : Top g) : ∃ fd, FunD g.K d3.name d3.qual d3.params d3.body d3.scope (d3.dvs g.K) (d3.kws g.K) (He.fAd g.K d3.at_) fd := T.dat 3
theorem fd_good_word {g : Wd} (T : Top g) : ∃ fd, FunD g.K d4.name d4.qual d4.params d4.body d4.scope (d4.dvs g.K) (d4.kws g.K) (He.fAd g.K d4.at_) fd := T.dat 4
theorem fd_living {g : Wd} (T : Top g) : ∃ fd, FunD g.K d5.name d5.qual d5.params d5.body d5.scope (d5.dvs g.K) (d5.kws g.K) (He.fAd g.K d5.at_) fd := T.dat 5
theorem fd_depths {g : Wd} (T : Top g) : ∃ fd, FunD g.K d6.name d6.qual d6.params d6.body d6.scope (d6.dvs g.K) (d6.kws g.K) (He.fAd g.K d6.at_) fd := T.dat 6
theorem fd_carry {g : Wd} (T : Top g) : ∃ fd, FunD g.K d7.name d7.qual d7.params d7.body d7.scope (d7.dvs g.K) (d7.kws g.K) (He.fAd g.K d7.at_) fd := T.dat 7
theorem fd_append_record {g : Wd} (T : Top g) : ∃ fd, FunD g.K d8.name d8.qual d8.params d8.body d8.scope (d8.dvs g.K) (d8.kws g.K) (He.fAd g.K d8.at_) fd := T.dat 8
theorem fd__trimmed {g : Wd} (T : Top g) : ∃ fd, FunD g.K d9.name d9.qual d9.params d9.body d9.scope (d9.dvs g.K) (d9.kws g.K) (He.fAd g.K d9.at_) fd := T.dat 9
theorem fd__ones {g : Wd} (T : Top g) : ∃ fd, FunD g.K d10.name d10.qual d10.params d10.body d10.scope (d10.dvs g.K) (d10.kws g.K) (He.fAd g.K d10.at_) fd := T.dat 10
theorem fd__depth_list {g : Wd} (T : Top g) : ∃ fd, FunD g.K d11.name d11.qual d11.params d11.body d11.scope (d11.dvs g.K) (d11.kws g.K) (He.fAd g.K d11.at_) fd := T.dat 11
theorem fd__carried {g : Wd} (T : Top g) : ∃ fd, FunD g.K d12.name d12.qual d12.params d12.body d12.scope (d12.dvs g.K) (d12.kws g.K) (He.fAd g.K d12.at_) fd := T.dat 12
theorem fd__appended {g : Wd} (T : Top g) : ∃ fd, FunD g.K d13.name d13.qual d13.params d13.body d13.scope (d13.dvs g.K) (d13.kws g.K) (He.fAd g.K d13.at_) fd := T.dat 13
theorem fd_check_standing {g : Wd} (T : Top g) : ∃ fd, FunD g.K d14.name d14.qual d14.params d14.body d14.scope (d14.dvs g.K) (d14.kws g.K) (He.fAd g.K d14.at_) fd := T.dat 14
theorem fd_counted_places {g : Wd} (T : Top g) : ∃ fd, FunD g.K d15.name d15.qual d15.params d15.body d15.scope (d15.dvs g.K) (d15.kws g.K) (He.fAd g.K d15.at_) fd := T.dat 15
theorem fd_blocked_now {g : Wd} (T : Top g) : ∃ fd, FunD g.K d16.name d16.qual d16.params d16.body d16.scope (d16.dvs g.K) (d16.kws g.K) (He.fAd g.K d16.at_) fd := T.dat 16
theorem fd_short_now {g : Wd} (T : Top g) : ∃ fd, FunD g.K d17.name d17.qual d17.params d17.body d17.scope (d17.dvs g.K) (d17.kws g.K) (He.fAd g.K d17.at_) fd := T.dat 17
theorem fd_blocked_at {g : Wd} (T : Top g) : ∃ fd, FunD g.K d18.name d18.qual d18.params d18.body d18.scope (d18.dvs g.K) (d18.kws g.K) (He.fAd g.K d18.at_) fd := T.dat 18
theorem fd_short_at {g : Wd} (T : Top g) : ∃ fd, FunD g.K d19.name d19.qual d19.params d19.body d19.scope (d19.dvs g.K) (d19.kws g.K) (He.fAd g.K d19.at_) fd := T.dat 19
theorem fd_critical_put {g : Wd} (T : Top g) : ∃ fd, FunD g.K d20.name d20.qual d20.params d20.body d20.scope (d20.dvs g.K) (d20.kws g.K) (He.fAd g.K d20.at_) fd := T.dat 20
theorem fd_life {g : Wd} (T : Top g) : ∃ fd, FunD g.K d21.name d21.qual d21.params d21.body d21.scope (d21.dvs g.K) (d21.kws g.K) (He.fAd g.K d21.at_) fd := T.dat 21
theorem fd_safe {g : Wd} (T : Top g) : ∃ fd, FunD g.K d22.name d22.qual d22.params d22.body d22.scope (d22.dvs g.K) (d22.kws g.K) (He.fAd g.K d22.at_) fd := T.dat 22
theorem fd__check_moment {g : Wd} (T : Top g) : ∃ fd, FunD g.K d23.name d23.qual d23.params d23.body d23.scope (d23.dvs g.K) (d23.kws g.K) (He.fAd g.K d23.at_) fd := T.dat 23
theorem fd__most_allowed {g : Wd} (T : Top g) : ∃ fd, FunD g.K d24.name d24.qual d24.params d24.body d24.scope (d24.dvs g.K) (d24.kws g.K) (He.fAd g.K d24.at_) fd := T.dat 24
theorem fd__read_number {g : Wd} (T : Top g) : ∃ fd, FunD g.K d25.name d25.qual d25.params d25.body d25.scope (d25.dvs g.K) (d25.kws g.K) (He.fAd g.K d25.at_) fd := T.dat 25
theorem fd__read_condition {g : Wd} (T : Top g) : ∃ fd, FunD g.K d26.name d26.qual d26.params d26.body d26.scope (d26.dvs g.K) (d26.kws g.K) (He.fAd g.K d26.at_) fd := T.dat 26
theorem fd__read_line {g : Wd} (T : Top g) : ∃ fd, FunD g.K d27.name d27.qual d27.params d27.body d27.scope (d27.dvs g.K) (d27.kws g.K) (He.fAd g.K d27.at_) fd := T.dat 27
theorem fd__read_rules {g : Wd} (T : Top g) : ∃ fd, FunD g.K d28.name d28.qual d28.params d28.body d28.scope (d28.dvs g.K) (d28.kws g.K) (He.fAd g.K d28.at_) fd := T.dat 28
theorem fd__fact {g : Wd} (T : Top g) : ∃ fd, FunD g.K d29.name d29.qual d29.params d29.body d29.scope (d29.dvs g.K) (d29.kws g.K) (He.fAd g.K d29.at_) fd := T.dat 29
theorem fd__applies {g : Wd} (T : Top g) : ∃ fd, FunD g.K d30.name d30.qual d30.params d30.body d30.scope (d30.dvs g.K) (d30.kws g.K) (He.fAd g.K d30.at_) fd := T.dat 30
theorem fd_Keeper_choose {g : Wd} (T : Top g) : ∃ fd, FunD g.K d31.name d31.qual d31.params d31.body d31.scope (d31.dvs g.K) (d31.kws g.K) (He.fAd g.K d31.at_) fd := T.dat 31
theorem fd_Keeper_label {g : Wd} (T : Top g) : ∃ fd, FunD g.K d32.name d32.qual d32.params d32.body d32.scope (d32.dvs g.K) (d32.kws g.K) (He.fAd g.K d32.at_) fd := T.dat 32
theorem fd_Greedy_choose {g : Wd} (T : Top g) : ∃ fd, FunD g.K d33.name d33.qual d33.params d33.body d33.scope (d33.dvs g.K) (d33.kws g.K) (He.fAd g.K d33.at_) fd := T.dat 33
theorem fd_Greedy_label {g : Wd} (T : Top g) : ∃ fd, FunD g.K d34.name d34.qual d34.params d34.body d34.scope (d34.dvs g.K) (d34.kws g.K) (He.fAd g.K d34.at_) fd := T.dat 34
theorem fd_Lazy_init_ {g : Wd} (T : Top g) : ∃ fd, FunD g.K d35.name d35.qual d35.params d35.body d35.scope (d35.dvs g.K) (d35.kws g.K) (He.fAd g.K d35.at_) fd := T.dat 35
theorem fd_Lazy_set_mark {g : Wd} (T : Top g) : ∃ fd, FunD g.K d36.name d36.qual d36.params d36.body d36.scope (d36.dvs g.K) (d36.kws g.K) (He.fAd g.K d36.at_) fd := T.dat 36
theorem fd_Lazy_choose {g : Wd} (T : Top g) : ∃ fd, FunD g.K d37.name d37.qual d37.params d37.body d37.scope (d37.dvs g.K) (d37.kws g.K) (He.fAd g.K d37.at_) fd := T.dat 37
theorem fd_Lazy_label {g : Wd} (T : Top g) : ∃ fd, FunD g.K d38.name d38.qual d38.params d38.body d38.scope (d38.dvs g.K) (d38.kws g.K) (He.fAd g.K d38.at_) fd := T.dat 38
theorem fd_Thrifty_init_ {g : Wd} (T : Top g) : ∃ fd, FunD g.K d39.name d39.qual d39.params d39.body d39.scope (d39.dvs g.K) (d39.kws g.K) (He.fAd g.K d39.at_) fd := T.dat 39
theorem fd_Thrifty_choose {g : Wd} (T : Top g) : ∃ fd, FunD g.K d40.name d40.qual d40.params d40.body d40.scope (d40.dvs g.K) (d40.kws g.K) (He.fAd g.K d40.at_) fd := T.dat 40
theorem fd_Thrifty__leaves_safe {g : Wd} (T : Top g) : ∃ fd, FunD g.K d41.name d41.qual d41.params d41.body d41.scope (d41.dvs g.K) (d41.kws g.K) (He.fAd g.K d41.at_) fd := T.dat 41
theorem fd_Thrifty_label {g : Wd} (T : Top g) : ∃ fd, FunD g.K d42.name d42.qual d42.params d42.body d42.scope (d42.dvs g.K) (d42.kws g.K) (He.fAd g.K d42.at_) fd := T.dat 42
theorem fd_RuleKeeper_init_ {g : Wd} (T : Top g) : ∃ fd, FunD g.K d43.name d43.qual d43.params d43.body d43.scope (d43.dvs g.K) (d43.kws g.K) (He.fAd g.K d43.at_) fd := T.dat 43
theorem fd_RuleKeeper_choose {g : Wd} (T : Top g) : ∃ fd, FunD g.K d44.name d44.qual d44.params d44.body d44.scope (d44.dvs g.K) (d44.kws g.K) (He.fAd g.K d44.at_) fd := T.dat 44
theorem fd_RuleKeeper_label {g : Wd} (T : Top g) : ∃ fd, FunD g.K d45.name d45.qual d45.params d45.body d45.scope (d45.dvs g.K) (d45.kws g.K) (He.fAd g.K d45.at_) fd := T.dat 45
theorem fd_Round_init_ {g : Wd} (T : Top g) : ∃ fd, FunD g.K d46.name d46.qual d46.params d46.body d46.scope (d46.dvs g.K) (d46.kws g.K) (He.fAd g.K d46.at_) fd := T.dat 46
theorem fd_Round_len_ {g : Wd} (T : Top g) : ∃ fd, FunD g.K d47.name d47.qual d47.params d47.body d47.scope (d47.dvs g.K) (d47.kws g.K) (He.fAd g.K d47.at_) fd := T.dat 47
theorem fd_Round_eq_ {g : Wd} (T : Top g) : ∃ fd, FunD g.K d48.name d48.qual d48.params d48.body d48.scope (d48.dvs g.K) (d48.kws g.K) (He.fAd g.K d48.at_) fd := T.dat 48
theorem fd_Round_add_ {g : Wd} (T : Top g) : ∃ fd, FunD g.K d49.name d49.qual d49.params d49.body d49.scope (d49.dvs g.K) (d49.kws g.K) (He.fAd g.K d49.at_) fd := T.dat 49
theorem fd_Round_at {g : Wd} (T : Top g) : ∃ fd, FunD g.K d50.name d50.qual d50.params d50.body d50.scope (d50.dvs g.K) (d50.kws g.K) (He.fAd g.K d50.at_) fd := T.dat 50
theorem fd_Round_shifted {g : Wd} (T : Top g) : ∃ fd, FunD g.K d51.name d51.qual d51.params d51.body d51.scope (d51.dvs g.K) (d51.kws g.K) (He.fAd g.K d51.at_) fd := T.dat 51
theorem fd_Round_total {g : Wd} (T : Top g) : ∃ fd, FunD g.K d52.name d52.qual d52.params d52.body d52.scope (d52.dvs g.K) (d52.kws g.K) (He.fAd g.K d52.at_) fd := T.dat 52
theorem fd_Round_least {g : Wd} (T : Top g) : ∃ fd, FunD g.K d53.name d53.qual d53.params d53.body d53.scope (d53.dvs g.K) (d53.kws g.K) (He.fAd g.K d53.at_) fd := T.dat 53
theorem fd_Round_worst_start {g : Wd} (T : Top g) : ∃ fd, FunD g.K d54.name d54.qual d54.params d54.body d54.scope (d54.dvs g.K) (d54.kws g.K) (He.fAd g.K d54.at_) fd := T.dat 54
theorem fd_Round_reach {g : Wd} (T : Top g) : ∃ fd, FunD g.K d55.name d55.qual d55.params d55.body d55.scope (d55.dvs g.K) (d55.kws g.K) (He.fAd g.K d55.at_) fd := T.dat 55
theorem fd_Round__window {g : Wd} (T : Top g) : ∃ fd, FunD g.K d56.name d56.qual d56.params d56.body d56.scope (d56.dvs g.K) (d56.kws g.K) (He.fAd g.K d56.at_) fd := T.dat 56
theorem fd_Round__windows {g : Wd} (T : Top g) : ∃ fd, FunD g.K d57.name d57.qual d57.params d57.body d57.scope (d57.dvs g.K) (d57.kws g.K) (He.fAd g.K d57.at_) fd := T.dat 57
theorem fd__law_is_count {g : Wd} (T : Top g) : ∃ fd, FunD g.K d58.name d58.qual d58.params d58.body d58.scope (d58.dvs g.K) (d58.kws g.K) (He.fAd g.K d58.at_) fd := T.dat 58
theorem fd__law_box {g : Wd} (T : Top g) : ∃ fd, FunD g.K d59.name d59.qual d59.params d59.body d59.scope (d59.dvs g.K) (d59.kws g.K) (He.fAd g.K d59.at_) fd := T.dat 59
theorem fd__law_take {g : Wd} (T : Top g) : ∃ fd, FunD g.K d60.name d60.qual d60.params d60.body d60.scope (d60.dvs g.K) (d60.kws g.K) (He.fAd g.K d60.at_) fd := T.dat 60
theorem fd__law_round {g : Wd} (T : Top g) : ∃ fd, FunD g.K d61.name d61.qual d61.params d61.body d61.scope (d61.dvs g.K) (d61.kws g.K) (He.fAd g.K d61.at_) fd := T.dat 61
theorem fd__law_pays {g : Wd} (T : Top g) : ∃ fd, FunD g.K d62.name d62.qual d62.params d62.body d62.scope (d62.dvs g.K) (d62.kws g.K) (He.fAd g.K d62.at_) fd := T.dat 62
theorem fd__law_word {g : Wd} (T : Top g) : ∃ fd, FunD g.K d63.name d63.qual d63.params d63.body d63.scope (d63.dvs g.K) (d63.kws g.K) (He.fAd g.K d63.at_) fd := T.dat 63
theorem fd__law_stand {g : Wd} (T : Top g) : ∃ fd, FunD g.K d64.name d64.qual d64.params d64.body d64.scope (d64.dvs g.K) (d64.kws g.K) (He.fAd g.K d64.at_) fd := T.dat 64
theorem fd__law_marks {g : Wd} (T : Top g) : ∃ fd, FunD g.K d65.name d65.qual d65.params d65.body d65.scope (d65.dvs g.K) (d65.kws g.K) (He.fAd g.K d65.at_) fd := T.dat 65
theorem fd__law_due {g : Wd} (T : Top g) : ∃ fd, FunD g.K d66.name d66.qual d66.params d66.body d66.scope (d66.dvs g.K) (d66.kws g.K) (He.fAd g.K d66.at_) fd := T.dat 66
theorem fd__law_looks {g : Wd} (T : Top g) : ∃ fd, FunD g.K d67.name d67.qual d67.params d67.body d67.scope (d67.dvs g.K) (d67.kws g.K) (He.fAd g.K d67.at_) fd := T.dat 67
theorem fd__law_family {g : Wd} (T : Top g) : ∃ fd, FunD g.K d68.name d68.qual d68.params d68.body d68.scope (d68.dvs g.K) (d68.kws g.K) (He.fAd g.K d68.at_) fd := T.dat 68
theorem fd__law_is_field {g : Wd} (T : Top g) : ∃ fd, FunD g.K d69.name d69.qual d69.params d69.body d69.scope (d69.dvs g.K) (d69.kws g.K) (He.fAd g.K d69.at_) fd := T.dat 69
theorem fd__law_no_lazy {g : Wd} (T : Top g) : ∃ fd, FunD g.K d70.name d70.qual d70.params d70.body d70.scope (d70.dvs g.K) (d70.kws g.K) (He.fAd g.K d70.at_) fd := T.dat 70
theorem fd__law_no_mark {g : Wd} (T : Top g) : ∃ fd, FunD g.K d71.name d71.qual d71.params d71.body d71.scope (d71.dvs g.K) (d71.kws g.K) (He.fAd g.K d71.at_) fd := T.dat 71
theorem fd__law_no_thrifty {g : Wd} (T : Top g) : ∃ fd, FunD g.K d72.name d72.qual d72.params d72.body d72.scope (d72.dvs g.K) (d72.kws g.K) (He.fAd g.K d72.at_) fd := T.dat 72
theorem fd__law_bad_numbers {g : Wd} (T : Top g) : ∃ fd, FunD g.K d73.name d73.qual d73.params d73.body d73.scope (d73.dvs g.K) (d73.kws g.K) (He.fAd g.K d73.at_) fd := T.dat 73
theorem fd__law_thrifty {g : Wd} (T : Top g) : ∃ fd, FunD g.K d74.name d74.qual d74.params d74.body d74.scope (d74.dvs g.K) (d74.kws g.K) (He.fAd g.K d74.at_) fd := T.dat 74
theorem fd__law_refused {g : Wd} (T : Top g) : ∃ fd, FunD g.K d75.name d75.qual d75.params d75.body d75.scope (d75.dvs g.K) (d75.kws g.K) (He.fAd g.K d75.at_) fd := T.dat 75
theorem fd__law_refusals {g : Wd} (T : Top g) : ∃ fd, FunD g.K d76.name d76.qual d76.params d76.body d76.scope (d76.dvs g.K) (d76.kws g.K) (He.fAd g.K d76.at_) fd := T.dat 76
theorem fd__law_all_refuse {g : Wd} (T : Top g) : ∃ fd, FunD g.K d77.name d77.qual d77.params d77.body d77.scope (d77.dvs g.K) (d77.kws g.K) (He.fAd g.K d77.at_) fd := T.dat 77
theorem fd_law {g : Wd} (T : Top g) : ∃ fd, FunD g.K d78.name d78.qual d78.params d78.body d78.scope (d78.dvs g.K) (d78.kws g.K) (He.fAd g.K d78.at_) fd := T.dat 78
theorem fd_Lazy_mark {g : Wd} (T : Top g) : ∃ fd, FunD g.K g0.f g0.qual g0.params g0.body g0.scope [] [] (pgt g.K "Lazy" "mark") fd := T.get 0 82
theorem fd_Round_budgets {g : Wd} (T : Top g) : ∃ fd, FunD g.K g1.f g1.qual g1.params g1.body g1.scope [] [] (pgt g.K "Round" "budgets") fd := T.get 1 83
section
theorem sc_at_least : FnScope ["value", "least", "field"] ["value", "least", "field"] (defScope (top 7)) := ⟨rfl, rfl, rfl, by decide +kernel, rfl, by decide +kernel, by decide +kernel⟩
def rd_at_least (g : Wd) (j : Nat) (E : XK) : TS :=
  tIfS (cTest (tOp cLt (cV 0) (cV 1))) (cRaise (cRais g j (gad g.K "InvalidInput") (tCons (cV 2) (tNil))) (fun cls d _ H => E cls d H)) (tNext)
theorem dv_at_least {g : Wd} (T : Top g) {j : Nat} {f : Addr} {cdv : Value} {A : Around} {outer : List Env} {s : Shared} {H : Hp} {E : XK} (hr : Room (j + 1) (A.deeper (envOfC "at_least" (defScope (top 7)) s.heap.objs.size f cdv))) :
    PSs (cxOf (L2.CX g.P g.w) g.P g.w g.K g.mg g.base ["value", "least", "field"] "at_least" (defScope (top 7)) f cdv A outer s H E) (defBody (top 7)) (rd_at_least g j E) := by
  unfold rd_at_least
  exact (pss_one (ps_if (ptc op_cLt (cv 0) (cv 1) (nomark _)) (pss_one (ps_cRaise rfl (takes_of rfl rfl rfl rfl) (hr.mono (Nat.le_succ _)) (gf_InvalidInput T) (by rfl) (pa_cons (cv 2) pa_nil))) pss_nil))
theorem ok_at_least {g : Wd} (T : Top g) {fd : FuncData} (F : FunD g.K "at_least" "at_least" (defArgs (top 7)) (defBody (top 7)) (defScope (top 7)) [] [] (gad g.K "at_least") fd) {j : Nat} {sp : Sp} (h : ∀ vs H Q E, sp vs H Q E → vs.length = 3 ∧ rd_at_least g j E { nx := fun _ H1 => Q .non H1, rt := Q } (L2.start ["value", "least", "field"] vs) H) : FnOk g.P g.w g.K g.mg g.base (L2.CX g.P g.w) (j + 2) (gad g.K "at_least") fd ["value", "least", "field"] sp :=
  FunD.ok F sc_at_least (fun vs H Q E hh => (h vs H Q E hh).1) fun cdv A outer s H vs Q E hr hh => ⟨rd_at_least g j E, dv_at_least T hr, (h vs H Q E hh).2⟩
theorem fk_at_least {g : Wd} (T : Top g) (j : Nat) {sp : Sp} (h : ∀ vs H Q E, sp vs H Q E → vs.length = 3 ∧ rd_at_least g j E { nx := fun _ H1 => Q .non H1, rt := Q } (L2.start ["value", "least", "field"] vs) H) : FnG g (j + 2) (gad g.K "at_least") sp := by
  obtain ⟨fd, F⟩ := fd_at_least T
  exact fnG_of (ok_at_least T F h) (FunD.bindsN F fun _ _ _ _ _ _ us hl => match us, hl with | [_, _, _], _ => rfl)
theorem sc_at_most : FnScope ["value", "most", "field"] ["value", "most", "field"] (defScope (top 8)) := ⟨rfl, rfl, rfl, by decide +kernel, rfl, by decide +kernel, by decide +kernel⟩
def rd_at_most (g : Wd) (j : Nat) (E : XK) : TS :=
  tIfS (cTest (tOp cGt (cV 0) (cV 1))) (cRaise (cRais g j (gad g.K "InvalidInput") (tCons (cV 2) (tNil))) (fun cls d _ H => E cls d H)) (tNext)
theorem dv_at_most {g : Wd} (T : Top g) {j : Nat} {f : Addr} {cdv : Value} {A : Around} {outer : List Env} {s : Shared} {H : Hp} {E : XK} (hr : Room (j + 1) (A.deeper (envOfC "at_most" (defScope (top 8)) s.heap.objs.size f cdv))) :
    PSs (cxOf (L2.CX g.P g.w) g.P g.w g.K g.mg g.base ["value", "most", "field"] "at_most" (defScope (top 8)) f cdv A outer s H E) (defBody (top 8)) (rd_at_most g j E) := by
  unfold rd_at_most
  exact (pss_one (ps_if (ptc op_cGt (cv 0) (cv 1) (nomark _)) (pss_one (ps_cRaise rfl (takes_of rfl rfl rfl rfl) (hr.mono (Nat.le_succ _)) (gf_InvalidInput T) (by rfl) (pa_cons (cv 2) pa_nil))) pss_nil))
theorem ok_at_most {g : Wd} (T : Top g) {fd : FuncData} (F : FunD g.K "at_most" "at_most" (defArgs (top 8)) (defBody (top 8)) (defScope (top 8)) [] [] (gad g.K "at_most") fd) {j : Nat} {sp : Sp} (h : ∀ vs H Q E, sp vs H Q E → vs.length = 3 ∧ rd_at_most g j E { nx := fun _ H1 => Q .non H1, rt := Q } (L2.start ["value", "most", "field"] vs) H) : FnOk g.P g.w g.K g.mg g.base (L2.CX g.P g.w) (j + 2) (gad g.K "at_most") fd ["value", "most", "field"] sp :=
  FunD.ok F sc_at_most (fun vs H Q E hh => (h vs H Q E hh).1) fun cdv A outer s H vs Q E hr hh => ⟨rd_at_most g j E, dv_at_most T hr, (h vs H Q E hh).2⟩
theorem fk_at_most {g : Wd} (T : Top g) (j : Nat) {sp : Sp} (h : ∀ vs H Q E, sp vs H Q E → vs.length = 3 ∧ rd_at_most g j E { nx := fun _ H1 => Q .non H1, rt := Q } (L2.start ["value", "most", "field"] vs) H) : FnG g (j + 2) (gad g.K "at_most") sp := by
  obtain ⟨fd, F⟩ := fd_at_most T
  exact fnG_of (ok_at_most T F h) (FunD.bindsN F fun _ _ _ _ _ _ us hl => match us, hl with | [_, _, _], _ => rfl)
theorem sc_whole_number : FnScope ["value", "field"] ["value", "field"] (defScope (top 9)) := ⟨rfl, rfl, rfl, by decide +kernel, rfl, by decide +kernel, by decide +kernel⟩
def rd_whole_number (g : Wd) (j : Nat) (E : XK) : TS :=
  tIfS (tOr (cTru g.K (tCB (cIsi g.K) (tCons (cV 0) (tCons (tC (.ty "bool")) (tNil))))) (tNot (cTru g.K (tCB (cIsi g.K) (tCons (cV 0) (tCons (tC (.ty "int")) (tNil))))))) (cRaise (cRais g j (gad g.K "InvalidInput") (tCons (cV 1) (tNil))) (fun cls d _ H => E cls d H)) (tNext)
theorem dv_whole_number {g : Wd} (T : Top g) {j : Nat} {f : Addr} {cdv : Value} {A : Around} {outer : List Env} {s : Shared} {H : Hp} {E : XK} (hr : Room (j + 1) (A.deeper (envOfC "whole_number" (defScope (top 9)) s.heap.objs.size f cdv))) :
    PSs (cxOf (L2.CX g.P g.w) g.P g.w g.K g.mg g.base ["value", "field"] "whole_number" (defScope (top 9)) f cdv A outer s H E) (defBody (top 9)) (rd_whole_number g j E) := by
  unfold rd_whole_number
  exact (pss_one (ps_if (pw_or (ptv (pe_callB (call_cIsi) (by rfl) (bl_isinstance T) bt_isinstance (pa_cons (cv 0) (pa_cons (pe_bltn (v := .ty "bool") (by rfl) (bl_bool T) bt_bool (by rfl)) pa_nil)))) (pw_or1 (pt_not (ptv (pe_callB (call_cIsi) (by rfl) (bl_isinstance T) bt_isinstance (pa_cons (cv 0) (pa_cons (pe_bltn (v := .ty "int") (by rfl) (bl_int T) bt_int (by rfl)) pa_nil))))))).pt (pss_one (ps_cRaise rfl (takes_of rfl rfl rfl rfl) (hr.mono (Nat.le_succ _)) (gf_InvalidInput T) (by rfl) (pa_cons (cv 1) pa_nil))) pss_nil))
theorem ok_whole_number {g : Wd} (T : Top g) {fd : FuncData} (F : FunD g.K "whole_number" "whole_number" (defArgs (top 9)) (defBody (top 9)) (defScope (top 9)) [] [] (gad g.K "whole_number") fd) {j : Nat} {sp : Sp} (h : ∀ vs H Q E, sp vs H Q E → vs.length = 2 ∧ rd_whole_number g j E { nx := fun _ H1 => Q .non H1, rt := Q } (L2.start ["value", "field"] vs) H) : FnOk g.P g.w g.K g.mg g.base (L2.CX g.P g.w) (j + 2) (gad g.K "whole_number") fd ["value", "field"] sp :=
  FunD.ok F sc_whole_number (fun vs H Q E hh => (h vs H Q E hh).1) fun cdv A outer s H vs Q E hr hh => ⟨rd_whole_number g j E, dv_whole_number T hr, (h vs H Q E hh).2⟩
theorem fk_whole_number {g : Wd} (T : Top g) (j : Nat) {sp : Sp} (h : ∀ vs H Q E, sp vs H Q E → vs.length = 2 ∧ rd_whole_number g j E { nx := fun _ H1 => Q .non H1, rt := Q } (L2.start ["value", "field"] vs) H) : FnG g (j + 2) (gad g.K "whole_number") sp := by
  obtain ⟨fd, F⟩ := fd_whole_number T
  exact fnG_of (ok_whole_number T F h) (FunD.bindsN F fun _ _ _ _ _ _ us hl => match us, hl with | [_, _], _ => rfl)
theorem sc_good_word : FnScope ["word", "field"] ["word", "field"] (defScope (top 10)) := ⟨rfl, rfl, rfl, by decide +kernel, rfl, by decide +kernel, by decide +kernel⟩
def rd_good_word (g : Wd) (j : Nat) (E : XK) : TS :=
  tIfS (tOr (cTru g.K (cStrM mStartswith (cV 0) (tCons (tC (.str "0")) (tNil)))) (cTest (tOp (cEqN g.K true) (cStrM mStrip (cV 0) (tCons (tC (.str "01")) (tNil))) (tC (.str ""))))) (cRaise (cRais g j (gad g.K "InvalidInput") (tCons (cV 1) (tNil))) (fun cls d _ H => E cls d H)) (tNext)
theorem dv_good_word {g : Wd} (T : Top g) {j : Nat} {f : Addr} {cdv : Value} {A : Around} {outer : List Env} {s : Shared} {H : Hp} {E : XK} (hr : Room (j + 1) (A.deeper (envOfC "good_word" (defScope (top 10)) s.heap.objs.size f cdv))) :
    PSs (cxOf (L2.CX g.P g.w) g.P g.w g.K g.mg g.base ["word", "field"] "good_word" (defScope (top 10)) f cdv A outer s H E) (defBody (top 10)) (rd_good_word g j E) := by
  unfold rd_good_word
  exact (pss_one (ps_if (pw_or (ptv (pe_sm PySem.F.slot_str_startswith PySem.F.type_str_startswith m_startswith (cv 0) (pa_cons pe_str pa_nil))) (pw_or1 (ptc (op_cNe hr.units) (pe_sm PySem.F.slot_str_strip PySem.F.type_str_strip m_strip (cv 0) (pa_cons pe_str pa_nil)) pe_str (nomark _)))).pt (pss_one (ps_cRaise rfl (takes_of rfl rfl rfl rfl) (hr.mono (Nat.le_succ _)) (gf_InvalidInput T) (by rfl) (pa_cons (cv 1) pa_nil))) pss_nil))
theorem ok_good_word {g : Wd} (T : Top g) {fd : FuncData} (F : FunD g.K "good_word" "good_word" (defArgs (top 10)) (defBody (top 10)) (defScope (top 10)) [] [] (gad g.K "good_word") fd) {j : Nat} {sp : Sp} (h : ∀ vs H Q E, sp vs H Q E → vs.length = 2 ∧ rd_good_word g j E { nx := fun _ H1 => Q .non H1, rt := Q } (L2.start ["word", "field"] vs) H) : FnOk g.P g.w g.K g.mg g.base (L2.CX g.P g.w) (j + 2) (gad g.K "good_word") fd ["word", "field"] sp :=
  FunD.ok F sc_good_word (fun vs H Q E hh => (h vs H Q E hh).1) fun cdv A outer s H vs Q E hr hh => ⟨rd_good_word g j E, dv_good_word T hr, (h vs H Q E hh).2⟩
theorem fk_good_word {g : Wd} (T : Top g) (j : Nat) {sp : Sp} (h : ∀ vs H Q E, sp vs H Q E → vs.length = 2 ∧ rd_good_word g j E { nx := fun _ H1 => Q .non H1, rt := Q } (L2.start ["word", "field"] vs) H) : FnG g (j + 2) (gad g.K "good_word") sp := by
  obtain ⟨fd, F⟩ := fd_good_word T
  exact fnG_of (ok_good_word T F h) (FunD.bindsN F fun _ _ _ _ _ _ us hl => match us, hl with | [_, _], _ => rfl)
theorem sc_living : FnScope ["word"] ["word"] (defScope (top 12)) := ⟨rfl, rfl, rfl, by decide +kernel, rfl, by decide +kernel, by decide +kernel⟩
def rd_living (g : Wd) (j : Nat) (E : XK) : TS :=
  tSeq (tDrop (cCall g j (fun cls d _ H => E cls d H) (gad g.K "good_word") (tCons (cV 0) (tCons (tC (.str "word")) (tNil)))))
  (tRet (cCall g j (fun cls d _ H => E cls d H) (gad g.K "_ones") (tCons (cV 0) (tNil))))
theorem dv_living {g : Wd} (T : Top g) {j : Nat} {f : Addr} {cdv : Value} {A : Around} {outer : List Env} {s : Shared} {H : Hp} {E : XK} (hr : Room (j + 1) (A.deeper (envOfC "living" (defScope (top 12)) s.heap.objs.size f cdv))) :
    PSs (cxOf (L2.CX g.P g.w) g.P g.w g.K g.mg g.base ["word"] "living" (defScope (top 12)) f cdv A outer s H E) (defBody (top 12)) (rd_living g j E) := by
  unfold rd_living
  exact (pss_cons (ps_expr (pe_cCall (takes_of rfl rfl rfl rfl) (hr.mono (Nat.le_succ _)) (gf_good_word T) (by rfl) (pa_cons (cv 0) (pa_cons pe_str pa_nil))))
  (pss_one (ps_ret (pe_cCall (takes_of rfl rfl rfl rfl) (hr.mono (Nat.le_succ _)) (gf__ones T) (by rfl) (pa_cons (cv 0) pa_nil)))))
theorem ok_living {g : Wd} (T : Top g) {fd : FuncData} (F : FunD g.K "living" "living" (defArgs (top 12)) (defBody (top 12)) (defScope (top 12)) [] [] (gad g.K "living") fd) {j : Nat} {sp : Sp} (h : ∀ vs H Q E, sp vs H Q E → vs.length = 1 ∧ rd_living g j E { nx := fun _ H1 => Q .non H1, rt := Q } (L2.start ["word"] vs) H) : FnOk g.P g.w g.K g.mg g.base (L2.CX g.P g.w) (j + 2) (gad g.K "living") fd ["word"] sp :=
  FunD.ok F sc_living (fun vs H Q E hh => (h vs H Q E hh).1) fun cdv A outer s H vs Q E hr hh => ⟨rd_living g j E, dv_living T hr, (h vs H Q E hh).2⟩
theorem fk_living {g : Wd} (T : Top g) (j : Nat) {sp : Sp} (h : ∀ vs H Q E, sp vs H Q E → vs.length = 1 ∧ rd_living g j E { nx := fun _ H1 => Q .non H1, rt := Q } (L2.start ["word"] vs) H) : FnG g (j + 2) (gad g.K "living") sp := by
  obtain ⟨fd, F⟩ := fd_living T
  exact fnG_of (ok_living T F h) (FunD.bindsN F fun _ _ _ _ _ _ us hl => match us, hl with | [_], _ => rfl)
theorem sc_depths : FnScope ["word"] ["word"] (defScope (top 13)) := ⟨rfl, rfl, rfl, by decide +kernel, rfl, by decide +kernel, by decide +kernel⟩
def rd_depths (g : Wd) (j : Nat) (E : XK) : TS :=
  tSeq (tDrop (cCall g j (fun cls d _ H => E cls d H) (gad g.K "good_word") (tCons (cV 0) (tCons (tC (.str "word")) (tNil)))))
  (tRet (cCall g j (fun cls d _ H => E cls d H) (gad g.K "_depth_list") (tCons (cV 0) (tNil))))
theorem dv_depths {g : Wd} (T : Top g) {j : Nat} {f : Addr} {cdv : Value} {A : Around} {outer : List Env} {s : Shared} {H : Hp} {E : XK} (hr : Room (j + 1) (A.deeper (envOfC "depths" (defScope (top 13)) s.heap.objs.size f cdv))) :
    PSs (cxOf (L2.CX g.P g.w) g.P g.w g.K g.mg g.base ["word"] "depths" (defScope (top 13)) f cdv A outer s H E) (defBody (top 13)) (rd_depths g j E) := by
  unfold rd_depths
  exact (pss_cons (ps_expr (pe_cCall (takes_of rfl rfl rfl rfl) (hr.mono (Nat.le_succ _)) (gf_good_word T) (by rfl) (pa_cons (cv 0) (pa_cons pe_str pa_nil))))
  (pss_one (ps_ret (pe_cCall (takes_of rfl rfl rfl rfl) (hr.mono (Nat.le_succ _)) (gf__depth_list T) (by rfl) (pa_cons (cv 0) pa_nil)))))
theorem ok_depths {g : Wd} (T : Top g) {fd : FuncData} (F : FunD g.K "depths" "depths" (defArgs (top 13)) (defBody (top 13)) (defScope (top 13)) [] [] (gad g.K "depths") fd) {j : Nat} {sp : Sp} (h : ∀ vs H Q E, sp vs H Q E → vs.length = 1 ∧ rd_depths g j E { nx := fun _ H1 => Q .non H1, rt := Q } (L2.start ["word"] vs) H) : FnOk g.P g.w g.K g.mg g.base (L2.CX g.P g.w) (j + 2) (gad g.K "depths") fd ["word"] sp :=
  FunD.ok F sc_depths (fun vs H Q E hh => (h vs H Q E hh).1) fun cdv A outer s H vs Q E hr hh => ⟨rd_depths g j E, dv_depths T hr, (h vs H Q E hh).2⟩
theorem fk_depths {g : Wd} (T : Top g) (j : Nat) {sp : Sp} (h : ∀ vs H Q E, sp vs H Q E → vs.length = 1 ∧ rd_depths g j E { nx := fun _ H1 => Q .non H1, rt := Q } (L2.start ["word"] vs) H) : FnG g (j + 2) (gad g.K "depths") sp := by
  obtain ⟨fd, F⟩ := fd_depths T
  exact fnG_of (ok_depths T F h) (FunD.bindsN F fun _ _ _ _ _ _ us hl => match us, hl with | [_], _ => rfl)
theorem sc_carry : FnScope ["word", "places"] ["word", "places"] (defScope (top 14)) := ⟨rfl, rfl, rfl, by decide +kernel, rfl, by decide +kernel, by decide +kernel⟩
def rd_carry (g : Wd) (j : Nat) (E : XK) : TS :=
  tSeq (tDrop (cCall g j (fun cls d _ H => E cls d H) (gad g.K "good_word") (tCons (cV 0) (tCons (tC (.str "word")) (tNil)))))
  (tSeq (tDrop (cCall g j (fun cls d _ H => E cls d H) (gad g.K "at_least") (tCons (cV 1) (tCons (tC (.int 1)) (tCons (tC (.str "places")) (tNil))))))
  (tSeq (tDrop (cCall g j (fun cls d _ H => E cls d H) (gad g.K "at_least") (tCons (cV 1) (tCons (tCB (cLen g j) (tCons (cV 0) (tNil))) (tCons (tC (.str "places")) (tNil))))))
  (tRet (cCall g j (fun cls d _ H => E cls d H) (gad g.K "_carried") (tCons (cV 0) (tCons (cV 1) (tNil)))))))
theorem dv_carry {g : Wd} (T : Top g) {j : Nat} {f : Addr} {cdv : Value} {A : Around} {outer : List Env} {s : Shared} {H : Hp} {E : XK} (hr : Room (j + 1) (A.deeper (envOfC "carry" (defScope (top 14)) s.heap.objs.size f cdv))) :
    PSs (cxOf (L2.CX g.P g.w) g.P g.w g.K g.mg g.base ["word", "places"] "carry" (defScope (top 14)) f cdv A outer s H E) (defBody (top 14)) (rd_carry g j E) := by
  unfold rd_carry
  exact (pss_cons (ps_expr (pe_cCall (takes_of rfl rfl rfl rfl) (hr.mono (Nat.le_succ _)) (gf_good_word T) (by rfl) (pa_cons (cv 0) (pa_cons pe_str pa_nil))))
  (pss_cons (ps_expr (pe_cCall (takes_of rfl rfl rfl rfl) (hr.mono (Nat.le_succ _)) (gf_at_least T) (by rfl) (pa_cons (cv 1) (pa_cons pe_int (pa_cons pe_str pa_nil)))))
  (pss_cons (ps_expr (pe_cCall (takes_of rfl rfl rfl rfl) (hr.mono (Nat.le_succ _)) (gf_at_least T) (by rfl) (pa_cons (cv 1) (pa_cons (pe_callB (call_cLen hr) (by rfl) (bl_len T) bt_len (pa_cons (cv 0) pa_nil)) (pa_cons pe_str pa_nil)))))
  (pss_one (ps_ret (pe_cCall (takes_of rfl rfl rfl rfl) (hr.mono (Nat.le_succ _)) (gf__carried T) (by rfl) (pa_cons (cv 0) (pa_cons (cv 1) pa_nil))))))))
theorem ok_carry {g : Wd} (T : Top g) {fd : FuncData} (F : FunD g.K "carry" "carry" (defArgs (top 14)) (defBody (top 14)) (defScope (top 14)) [] [] (gad g.K "carry") fd) {j : Nat} {sp : Sp} (h : ∀ vs H Q E, sp vs H Q E → vs.length = 2 ∧ rd_carry g j E { nx := fun _ H1 => Q .non H1, rt := Q } (L2.start ["word", "places"] vs) H) : FnOk g.P g.w g.K g.mg g.base (L2.CX g.P g.w) (j + 2) (gad g.K "carry") fd ["word", "places"] sp :=
  FunD.ok F sc_carry (fun vs H Q E hh => (h vs H Q E hh).1) fun cdv A outer s H vs Q E hr hh => ⟨rd_carry g j E, dv_carry T hr, (h vs H Q E hh).2⟩
theorem fk_carry {g : Wd} (T : Top g) (j : Nat) {sp : Sp} (h : ∀ vs H Q E, sp vs H Q E → vs.length = 2 ∧ rd_carry g j E { nx := fun _ H1 => Q .non H1, rt := Q } (L2.start ["word", "places"] vs) H) : FnG g (j + 2) (gad g.K "carry") sp := by
  obtain ⟨fd, F⟩ := fd_carry T
  exact fnG_of (ok_carry T F h) (FunD.bindsN F fun _ _ _ _ _ _ us hl => match us, hl with | [_, _], _ => rfl)
theorem sc_append_record : FnScope ["word", "places", "record"] ["word", "places", "record"] (defScope (top 15)) := ⟨rfl, rfl, rfl, by decide +kernel, rfl, by decide +kernel, by decide +kernel⟩
def rd_append_record (g : Wd) (j : Nat) (E : XK) : TS :=
  tSeq (tDrop (cCall g j (fun cls d _ H => E cls d H) (gad g.K "good_word") (tCons (cV 0) (tCons (tC (.str "word")) (tNil)))))
  (tSeq (tDrop (cCall g j (fun cls d _ H => E cls d H) (gad g.K "at_least") (tCons (cV 1) (tCons (tC (.int 1)) (tCons (tC (.str "places")) (tNil))))))
  (tSeq (tIfS (cTest (tOp (cIn g.K true) (cV 2) (tTup (tCons (tC (.str "0")) (tCons (tC (.str "1")) (tNil)))))) (cRaise (cRais g j (gad g.K "InvalidInput") (tCons (tC (.str "record")) (tNil))) (fun cls d _ H => E cls d H)) (tNext))
  (tSeq (tDrop (cCall g j (fun cls d _ H => E cls d H) (gad g.K "at_least") (tCons (cV 1) (tCons (tCB (cLen g j) (tCons (cV 0) (tNil))) (tCons (tC (.str "places")) (tNil))))))
  (tRet (cCall g j (fun cls d _ H => E cls d H) (gad g.K "_appended") (tCons (cV 0) (tCons (cV 1) (tCons (cV 2) (tNil)))))))))
theorem dv_append_record {g : Wd} (T : Top g) {j : Nat} {f : Addr} {cdv : Value} {A : Around} {outer : List Env} {s : Shared} {H : Hp} {E : XK} (hr : Room (j + 1) (A.deeper (envOfC "append_record" (defScope (top 15)) s.heap.objs.size f cdv))) :
    PSs (cxOf (L2.CX g.P g.w) g.P g.w g.K g.mg g.base ["word", "places", "record"] "append_record" (defScope (top 15)) f cdv A outer s H E) (defBody (top 15)) (rd_append_record g j E) := by
  unfold rd_append_record
  exact (pss_cons (ps_expr (pe_cCall (takes_of rfl rfl rfl rfl) (hr.mono (Nat.le_succ _)) (gf_good_word T) (by rfl) (pa_cons (cv 0) (pa_cons pe_str pa_nil))))
  (pss_cons (ps_expr (pe_cCall (takes_of rfl rfl rfl rfl) (hr.mono (Nat.le_succ _)) (gf_at_least T) (by rfl) (pa_cons (cv 1) (pa_cons pe_int (pa_cons pe_str pa_nil)))))
  (pss_cons (ps_if (ptc op_cNotIn (cv 2) (pe_tup (pa_cons pe_str (pa_cons pe_str pa_nil))) (by with_unfolding_all rfl)) (pss_one (ps_cRaise rfl (takes_of rfl rfl rfl rfl) (hr.mono (Nat.le_succ _)) (gf_InvalidInput T) (by rfl) (pa_cons pe_str pa_nil))) pss_nil)
  (pss_cons (ps_expr (pe_cCall (takes_of rfl rfl rfl rfl) (hr.mono (Nat.le_succ _)) (gf_at_least T) (by rfl) (pa_cons (cv 1) (pa_cons (pe_callB (call_cLen hr) (by rfl) (bl_len T) bt_len (pa_cons (cv 0) pa_nil)) (pa_cons pe_str pa_nil)))))
  (pss_one (ps_ret (pe_cCall (takes_of rfl rfl rfl rfl) (hr.mono (Nat.le_succ _)) (gf__appended T) (by rfl) (pa_cons (cv 0) (pa_cons (cv 1) (pa_cons (cv 2) pa_nil))))))))))
theorem ok_append_record {g : Wd} (T : Top g) {fd : FuncData} (F : FunD g.K "append_record" "append_record" (defArgs (top 15)) (defBody (top 15)) (defScope (top 15)) [.str "1"] [] (gad g.K "append_record") fd) {j : Nat} {sp : Sp} (h : ∀ vs H Q E, sp vs H Q E → vs.length = 3 ∧ rd_append_record g j E { nx := fun _ H1 => Q .non H1, rt := Q } (L2.start ["word", "places", "record"] vs) H) : FnOk g.P g.w g.K g.mg g.base (L2.CX g.P g.w) (j + 2) (gad g.K "append_record") fd ["word", "places", "record"] sp :=
  FunD.ok F sc_append_record (fun vs H Q E hh => (h vs H Q E hh).1) fun cdv A outer s H vs Q E hr hh => ⟨rd_append_record g j E, dv_append_record T hr, (h vs H Q E hh).2⟩
theorem sc__trimmed : FnScope ["text"] ["text"] (defScope (top 16)) := ⟨rfl, rfl, rfl, by decide +kernel, rfl, by decide +kernel, by decide +kernel⟩
def rd__trimmed (g : Wd) (j : Nat) (E : XK) : TS :=
  tRet (cStrM mLstrip (cV 0) (tCons (tC (.str "0")) (tNil)))
theorem dv__trimmed {g : Wd} (T : Top g) {j : Nat} {f : Addr} {cdv : Value} {A : Around} {outer : List Env} {s : Shared} {H : Hp} {E : XK} (hr : Room (j + 1) (A.deeper (envOfC "_trimmed" (defScope (top 16)) s.heap.objs.size f cdv))) :
    PSs (cxOf (L2.CX g.P g.w) g.P g.w g.K g.mg g.base ["text"] "_trimmed" (defScope (top 16)) f cdv A outer s H E) (defBody (top 16)) (rd__trimmed g j E) := by
  unfold rd__trimmed
  exact (pss_one (ps_ret (pe_sm PySem.F.slot_str_lstrip PySem.F.type_str_lstrip m_lstrip (cv 0) (pa_cons pe_str pa_nil))))
theorem ok__trimmed {g : Wd} (T : Top g) {fd : FuncData} (F : FunD g.K "_trimmed" "_trimmed" (defArgs (top 16)) (defBody (top 16)) (defScope (top 16)) [] [] (gad g.K "_trimmed") fd) {j : Nat} {sp : Sp} (h : ∀ vs H Q E, sp vs H Q E → vs.length = 1 ∧ rd__trimmed g j E { nx := fun _ H1 => Q .non H1, rt := Q } (L2.start ["text"] vs) H) : FnOk g.P g.w g.K g.mg g.base (L2.CX g.P g.w) (j + 2) (gad g.K "_trimmed") fd ["text"] sp :=
  FunD.ok F sc__trimmed (fun vs H Q E hh => (h vs H Q E hh).1) fun cdv A outer s H vs Q E hr hh => ⟨rd__trimmed g j E, dv__trimmed T hr, (h vs H Q E hh).2⟩
theorem fk__trimmed {g : Wd} (T : Top g) (j : Nat) {sp : Sp} (h : ∀ vs H Q E, sp vs H Q E → vs.length = 1 ∧ rd__trimmed g j E { nx := fun _ H1 => Q .non H1, rt := Q } (L2.start ["text"] vs) H) : FnG g (j + 2) (gad g.K "_trimmed") sp := by
  obtain ⟨fd, F⟩ := fd__trimmed T
  exact fnG_of (ok__trimmed T F h) (FunD.bindsN F fun _ _ _ _ _ _ us hl => match us, hl with | [_], _ => rfl)
theorem sc__ones : FnScope ["word"] ["word"] (defScope (top 17)) := ⟨rfl, rfl, rfl, by decide +kernel, rfl, by decide +kernel, by decide +kernel⟩
def rd__ones (g : Wd) (j : Nat) (E : XK) : TS :=
  tRet (cStrM mCount (cV 0) (tCons (tC (.str "1")) (tNil)))
theorem dv__ones {g : Wd} (T : Top g) {j : Nat} {f : Addr} {cdv : Value} {A : Around} {outer : List Env} {s : Shared} {H : Hp} {E : XK} (hr : Room (j + 1) (A.deeper (envOfC "_ones" (defScope (top 17)) s.heap.objs.size f cdv))) :
    PSs (cxOf (L2.CX g.P g.w) g.P g.w g.K g.mg g.base ["word"] "_ones" (defScope (top 17)) f cdv A outer s H E) (defBody (top 17)) (rd__ones g j E) := by
  unfold rd__ones
  exact (pss_one (ps_ret (pe_sm PySem.F.slot_str_count PySem.F.type_str_count m_count (cv 0) (pa_cons pe_str pa_nil))))
theorem ok__ones {g : Wd} (T : Top g) {fd : FuncData} (F : FunD g.K "_ones" "_ones" (defArgs (top 17)) (defBody (top 17)) (defScope (top 17)) [] [] (gad g.K "_ones") fd) {j : Nat} {sp : Sp} (h : ∀ vs H Q E, sp vs H Q E → vs.length = 1 ∧ rd__ones g j E { nx := fun _ H1 => Q .non H1, rt := Q } (L2.start ["word"] vs) H) : FnOk g.P g.w g.K g.mg g.base (L2.CX g.P g.w) (j + 2) (gad g.K "_ones") fd ["word"] sp :=
  FunD.ok F sc__ones (fun vs H Q E hh => (h vs H Q E hh).1) fun cdv A outer s H vs Q E hr hh => ⟨rd__ones g j E, dv__ones T hr, (h vs H Q E hh).2⟩
theorem fk__ones {g : Wd} (T : Top g) (j : Nat) {sp : Sp} (h : ∀ vs H Q E, sp vs H Q E → vs.length = 1 ∧ rd__ones g j E { nx := fun _ H1 => Q .non H1, rt := Q } (L2.start ["word"] vs) H) : FnG g (j + 2) (gad g.K "_ones") sp := by
  obtain ⟨fd, F⟩ := fd__ones T
  exact fnG_of (ok__ones T F h) (FunD.bindsN F fun _ _ _ _ _ _ us hl => match us, hl with | [_], _ => rfl)
theorem sc__depth_list : FnScope ["word", "place", "mark"] ["word"] (defScope (top 18)) := ⟨rfl, rfl, rfl, by decide +kernel, rfl, by decide +kernel, by decide +kernel⟩
def rd__depth_list (g : Wd) (j : Nat) (E : XK) : TS :=
  tRet (tLc (iEs (tCons (cV 0) (tNil))) (cgTup g.K 2 (cgCons (gName 1) (cgCons (gName 2) (cgNil)))) (cTest (tOp (cEqN g.K false) (cV 2) (tC (.str "1")))) (tOp cSub (tCB (cLen g j) (tCons (cV 0) (tNil))) (cV 1)) [1, 2])
theorem dv__depth_list {g : Wd} (T : Top g) {j : Nat} {f : Addr} {cdv : Value} {A : Around} {outer : List Env} {s : Shared} {H : Hp} {E : XK} (hr : Room (j + 1) (A.deeper (envOfC "_depth_list" (defScope (top 18)) s.heap.objs.size f cdv))) :
    PSs (cxOf (L2.CX g.P g.w) g.P g.w g.K g.mg g.base ["word", "place", "mark"] "_depth_list" (defScope (top 18)) f cdv A outer s H E) (defBody (top 18)) (rd__depth_list g j E) := by
  unfold rd__depth_list
  exact (pss_one (ps_ret (pe_lc rfl sc__depth_list.nd (pi_es (by rfl) (bl_enumerate T) (pa_cons (cv 0) pa_nil)) (blkOk_by (own := [("place", 1), ("mark", 2)]) (by change blkC ["word", "place", "mark"] (defScope (top 18)) _ _ = true; decide +kernel)) (fun s H C cl fp => (pg_ctup rfl (pgs_ccons (pg_name sc__depth_list.nd rfl (Or.inl rfl)) (pgs_ccons (pg_name sc__depth_list.nd rfl (Or.inl rfl)) pgs_cnil)))) (fun s H C cl fp => (pts_one (ptc (op_cEq hr.units) (cv 2) pe_str (nomark _)))) (fun s H C cl fp => (pe_op op_cSub (pe_callB (call_cLen hr) (by rfl) (bl_len T) bt_len (pa_cons (cv 0) pa_nil)) (cv 1))))))
theorem ok__depth_list {g : Wd} (T : Top g) {fd : FuncData} (F : FunD g.K "_depth_list" "_depth_list" (defArgs (top 18)) (defBody (top 18)) (defScope (top 18)) [] [] (gad g.K "_depth_list") fd) {j : Nat} {sp : Sp} (h : ∀ vs H Q E, sp vs H Q E → vs.length = 1 ∧ rd__depth_list g j E { nx := fun _ H1 => Q .non H1, rt := Q } (L2.start ["word", "place", "mark"] vs) H) : FnOk g.P g.w g.K g.mg g.base (L2.CX g.P g.w) (j + 2) (gad g.K "_depth_list") fd ["word"] sp :=
  FunD.ok F sc__depth_list (fun vs H Q E hh => (h vs H Q E hh).1) fun cdv A outer s H vs Q E hr hh => ⟨rd__depth_list g j E, dv__depth_list T hr, (h vs H Q E hh).2⟩
theorem fk__depth_list {g : Wd} (T : Top g) (j : Nat) {sp : Sp} (h : ∀ vs H Q E, sp vs H Q E → vs.length = 1 ∧ rd__depth_list g j E { nx := fun _ H1 => Q .non H1, rt := Q } (L2.start ["word", "place", "mark"] vs) H) : FnG g (j + 2) (gad g.K "_depth_list") sp := by
  obtain ⟨fd, F⟩ := fd__depth_list T
  exact fnG_of (ok__depth_list T F h) (FunD.bindsN F fun _ _ _ _ _ _ us hl => match us, hl with | [_], _ => rfl)
theorem sc__carried : FnScope ["word", "places"] ["word", "places"] (defScope (top 19)) := ⟨rfl, rfl, rfl, by decide +kernel, rfl, by decide +kernel, by decide +kernel⟩
def rd__carried (g : Wd) (j : Nat) (E : XK) : TS :=
  tSeq (tIfS (tOr (cTest (tOp (cEqN g.K false) (cV 0) (tC (.str "")))) (cTest (tOp cGe (tCB (cLen g j) (tCons (cV 0) (tNil))) (cV 1)))) (tRet (cV 0)) (tNext))
  (tRet (cCall g j (fun cls d _ H => E cls d H) (gad g.K "_trimmed") (tCons (tOp (cAdd g.K noOw) (tSl (cSl g.K) (cV 0) (cPart (tC (.int 1))) (tNoPart)) (tC (.str "1"))) (tNil))))
theorem dv__carried {g : Wd} (T : Top g) {j : Nat} {f : Addr} {cdv : Value} {A : Around} {outer : List Env} {s : Shared} {H : Hp} {E : XK} (hr : Room (j + 1) (A.deeper (envOfC "_carried" (defScope (top 19)) s.heap.objs.size f cdv))) :
    PSs (cxOf (L2.CX g.P g.w) g.P g.w g.K g.mg g.base ["word", "places"] "_carried" (defScope (top 19)) f cdv A outer s H E) (defBody (top 19)) (rd__carried g j E) := by
  unfold rd__carried
  exact (pss_cons (ps_if (pw_or (ptc (op_cEq hr.units) (cv 0) pe_str (nomark _)) (pw_or1 (ptc op_cGe (pe_callB (call_cLen hr) (by rfl) (bl_len T) bt_len (pa_cons (cv 0) pa_nil)) (cv 1) (nomark _)))).pt (pss_one (ps_ret (cv 0))) pss_nil)
  (pss_one (ps_ret (pe_cCall (takes_of rfl rfl rfl rfl) (hr.mono (Nat.le_succ _)) (gf__trimmed T) (by rfl) (pa_cons (pe_op (op_cAdd noOw_ok) (pe_slice sl_c (cv 0) (po_c pe_int) po_none) pe_str) pa_nil)))))
theorem ok__carried {g : Wd} (T : Top g) {fd : FuncData} (F : FunD g.K "_carried" "_carried" (defArgs (top 19)) (defBody (top 19)) (defScope (top 19)) [] [] (gad g.K "_carried") fd) {j : Nat} {sp : Sp} (h : ∀ vs H Q E, sp vs H Q E → vs.length = 2 ∧ rd__carried g j E { nx := fun _ H1 => Q .non H1, rt := Q } (L2.start ["word", "places"] vs) H) : FnOk g.P g.w g.K g.mg g.base (L2.CX g.P g.w) (j + 2) (gad g.K "_carried") fd ["word", "places"] sp :=
  FunD.ok F sc__carried (fun vs H Q E hh => (h vs H Q E hh).1) fun cdv A outer s H vs Q E hr hh => ⟨rd__carried g j E, dv__carried T hr, (h vs H Q E hh).2⟩
theorem fk__carried {g : Wd} (T : Top g) (j : Nat) {sp : Sp} (h : ∀ vs H Q E, sp vs H Q E → vs.length = 2 ∧ rd__carried g j E { nx := fun _ H1 => Q .non H1, rt := Q } (L2.start ["word", "places"] vs) H) : FnG g (j + 2) (gad g.K "_carried") sp := by
  obtain ⟨fd, F⟩ := fd__carried T
  exact fnG_of (ok__carried T F h) (FunD.bindsN F fun _ _ _ _ _ _ us hl => match us, hl with | [_, _], _ => rfl)
theorem sc__appended : FnScope ["word", "places", "record"] ["word", "places", "record"] (defScope (top 20)) := ⟨rfl, rfl, rfl, by decide +kernel, rfl, by decide +kernel, by decide +kernel⟩
def rd__appended (g : Wd) (j : Nat) (E : XK) : TS :=
  tSeq (tIfS (cTest (tOp cGe (tCB (cLen g j) (tCons (cV 0) (tNil))) (cV 1))) (cRaise (cRais g j (gad g.K "NoPlace") (tCons (tCB (cLen g j) (tCons (cV 0) (tNil))) (tNil))) (fun cls d _ H => E cls d H)) (tNext))
  (tRet (cCall g j (fun cls d _ H => E cls d H) (gad g.K "_trimmed") (tCons (tOp (cAdd g.K noOw) (cV 0) (cV 2)) (tNil))))
theorem dv__appended {g : Wd} (T : Top g) {j : Nat} {f : Addr} {cdv : Value} {A : Around} {outer : List Env} {s : Shared} {H : Hp} {E : XK} (hr : Room (j + 1) (A.deeper (envOfC "_appended" (defScope (top 20)) s.heap.objs.size f cdv))) :
    PSs (cxOf (L2.CX g.P g.w) g.P g.w g.K g.mg g.base ["word", "places", "record"] "_appended" (defScope (top 20)) f cdv A outer s H E) (defBody (top 20)) (rd__appended g j E) := by
  unfold rd__appended
  exact (pss_cons (ps_if (ptc op_cGe (pe_callB (call_cLen hr) (by rfl) (bl_len T) bt_len (pa_cons (cv 0) pa_nil)) (cv 1) (nomark _)) (pss_one (ps_cRaise rfl (takes_of rfl rfl rfl rfl) (hr.mono (Nat.le_succ _)) (gf_NoPlace T) (by rfl) (pa_cons (pe_callB (call_cLen hr) (by rfl) (bl_len T) bt_len (pa_cons (cv 0) pa_nil)) pa_nil))) pss_nil)
  (pss_one (ps_ret (pe_cCall (takes_of rfl rfl rfl rfl) (hr.mono (Nat.le_succ _)) (gf__trimmed T) (by rfl) (pa_cons (pe_op (op_cAdd noOw_ok) (cv 0) (cv 2)) pa_nil)))))
theorem ok__appended {g : Wd} (T : Top g) {fd : FuncData} (F : FunD g.K "_appended" "_appended" (defArgs (top 20)) (defBody (top 20)) (defScope (top 20)) [] [] (gad g.K "_appended") fd) {j : Nat} {sp : Sp} (h : ∀ vs H Q E, sp vs H Q E → vs.length = 3 ∧ rd__appended g j E { nx := fun _ H1 => Q .non H1, rt := Q } (L2.start ["word", "places", "record"] vs) H) : FnOk g.P g.w g.K g.mg g.base (L2.CX g.P g.w) (j + 2) (gad g.K "_appended") fd ["word", "places", "record"] sp :=
  FunD.ok F sc__appended (fun vs H Q E hh => (h vs H Q E hh).1) fun cdv A outer s H vs Q E hr hh => ⟨rd__appended g j E, dv__appended T hr, (h vs H Q E hh).2⟩
theorem fk__appended {g : Wd} (T : Top g) (j : Nat) {sp : Sp} (h : ∀ vs H Q E, sp vs H Q E → vs.length = 3 ∧ rd__appended g j E { nx := fun _ H1 => Q .non H1, rt := Q } (L2.start ["word", "places", "record"] vs) H) : FnG g (j + 2) (gad g.K "_appended") sp := by
  obtain ⟨fd, F⟩ := fd__appended T
  exact fnG_of (ok__appended T F h) (FunD.bindsN F fun _ _ _ _ _ _ us hl => match us, hl with | [_, _, _], _ => rfl)
theorem sc_check_standing : FnScope ["word", "places", "limit", "phase", "most"] ["word", "places", "limit", "phase", "most"] (defScope (top 22)) := ⟨rfl, rfl, rfl, by decide +kernel, rfl, by decide +kernel, by decide +kernel⟩
def rd_check_standing (g : Wd) (j : Nat) (E : XK) : TS :=
  tSeq (tDrop (cCall g j (fun cls d _ H => E cls d H) (gad g.K "good_word") (tCons (cV 0) (tCons (tC (.str "word")) (tNil)))))
  (tSeq (tDrop (cCall g j (fun cls d _ H => E cls d H) (gad g.K "at_least") (tCons (cV 1) (tCons (tC (.int 1)) (tCons (tC (.str "places")) (tNil))))))
  (tSeq (tDrop (cCall g j (fun cls d _ H => E cls d H) (gad g.K "at_least") (tCons (cV 2) (tCons (tC (.int 1)) (tCons (tC (.str "limit")) (tNil))))))
  (tSeq (tDrop (cCall g j (fun cls d _ H => E cls d H) (gad g.K "at_least") (tCons (cV 3) (tCons (tC (.int 0)) (tCons (tC (.str "phase")) (tNil))))))
  (tSeq (tDrop (cCall g j (fun cls d _ H => E cls d H) (gad g.K "at_least") (tCons (cV 4) (tCons (tC (.int 0)) (tCons (tC (.str "most")) (tNil))))))
  (tSeq (tDrop (cCall g j (fun cls d _ H => E cls d H) (gad g.K "at_most") (tCons (tCB (cLen g j) (tCons (cV 0) (tNil))) (tCons (cV 1) (tCons (tC (.str "word")) (tNil))))))
  (tSeq (tDrop (cCall g j (fun cls d _ H => E cls d H) (gad g.K "at_most") (tCons (cCall g j (fun cls d _ H => E cls d H) (gad g.K "living") (tCons (cV 0) (tNil))) (tCons (cV 2) (tCons (tC (.str "word")) (tNil))))))
  (tDrop (cCall g j (fun cls d _ H => E cls d H) (gad g.K "at_most") (tCons (cV 2) (tCons (cV 1) (tCons (tC (.str "limit")) (tNil))))))))))))
theorem dv_check_standing {g : Wd} (T : Top g) {j : Nat} {f : Addr} {cdv : Value} {A : Around} {outer : List Env} {s : Shared} {H : Hp} {E : XK} (hr : Room (j + 1) (A.deeper (envOfC "check_standing" (defScope (top 22)) s.heap.objs.size f cdv))) :
    PSs (cxOf (L2.CX g.P g.w) g.P g.w g.K g.mg g.base ["word", "places", "limit", "phase", "most"] "check_standing" (defScope (top 22)) f cdv A outer s H E) (defBody (top 22)) (rd_check_standing g j E) := by
  unfold rd_check_standing
  exact (pss_cons (ps_expr (pe_cCall (takes_of rfl rfl rfl rfl) (hr.mono (Nat.le_succ _)) (gf_good_word T) (by rfl) (pa_cons (cv 0) (pa_cons pe_str pa_nil))))
  (pss_cons (ps_expr (pe_cCall (takes_of rfl rfl rfl rfl) (hr.mono (Nat.le_succ _)) (gf_at_least T) (by rfl) (pa_cons (cv 1) (pa_cons pe_int (pa_cons pe_str pa_nil)))))
  (pss_cons (ps_expr (pe_cCall (takes_of rfl rfl rfl rfl) (hr.mono (Nat.le_succ _)) (gf_at_least T) (by rfl) (pa_cons (cv 2) (pa_cons pe_int (pa_cons pe_str pa_nil)))))
  (pss_cons (ps_expr (pe_cCall (takes_of rfl rfl rfl rfl) (hr.mono (Nat.le_succ _)) (gf_at_least T) (by rfl) (pa_cons (cv 3) (pa_cons pe_int (pa_cons pe_str pa_nil)))))
  (pss_cons (ps_expr (pe_cCall (takes_of rfl rfl rfl rfl) (hr.mono (Nat.le_succ _)) (gf_at_least T) (by rfl) (pa_cons (cv 4) (pa_cons pe_int (pa_cons pe_str pa_nil)))))
  (pss_cons (ps_expr (pe_cCall (takes_of rfl rfl rfl rfl) (hr.mono (Nat.le_succ _)) (gf_at_most T) (by rfl) (pa_cons (pe_callB (call_cLen hr) (by rfl) (bl_len T) bt_len (pa_cons (cv 0) pa_nil)) (pa_cons (cv 1) (pa_cons pe_str pa_nil)))))
  (pss_cons (ps_expr (pe_cCall (takes_of rfl rfl rfl rfl) (hr.mono (Nat.le_succ _)) (gf_at_most T) (by rfl) (pa_cons (pe_cCall (takes_of rfl rfl rfl rfl) (hr.mono (Nat.le_succ _)) (gf_living T) (by rfl) (pa_cons (cv 0) pa_nil)) (pa_cons (cv 2) (pa_cons pe_str pa_nil)))))
  (pss_one (ps_expr (pe_cCall (takes_of rfl rfl rfl rfl) (hr.mono (Nat.le_succ _)) (gf_at_most T) (by rfl) (pa_cons (cv 2) (pa_cons (cv 1) (pa_cons pe_str pa_nil)))))))))))))
theorem ok_check_standing {g : Wd} (T : Top g) {fd : FuncData} (F : FunD g.K "check_standing" "check_standing" (defArgs (top 22)) (defBody (top 22)) (defScope (top 22)) [.int 0] [] (gad g.K "check_standing") fd) {j : Nat} {sp : Sp} (h : ∀ vs H Q E, sp vs H Q E → vs.length = 5 ∧ rd_check_standing g j E { nx := fun _ H1 => Q .non H1, rt := Q } (L2.start ["word", "places", "limit", "phase", "most"] vs) H) : FnOk g.P g.w g.K g.mg g.base (L2.CX g.P g.w) (j + 2) (gad g.K "check_standing") fd ["word", "places", "limit", "phase", "most"] sp :=
  FunD.ok F sc_check_standing (fun vs H Q E hh => (h vs H Q E hh).1) fun cdv A outer s H vs Q E hr hh => ⟨rd_check_standing g j E, dv_check_standing T hr, (h vs H Q E hh).2⟩
theorem sc_counted_places : FnScope ["places", "late"] ["places", "late"] (defScope (top 23)) := ⟨rfl, rfl, rfl, by decide +kernel, rfl, by decide +kernel, by decide +kernel⟩
def rd_counted_places (g : Wd) (j : Nat) (E : XK) : TS :=
  tSeq (tIfS (cTru g.K (cV 1)) (tRet (tOp cSub (cV 0) (tC (.int 1)))) (tNext))
  (tRet (cV 0))
theorem dv_counted_places {g : Wd} (T : Top g) {j : Nat} {f : Addr} {cdv : Value} {A : Around} {outer : List Env} {s : Shared} {H : Hp} {E : XK} (hr : Room (j + 1) (A.deeper (envOfC "counted_places" (defScope (top 23)) s.heap.objs.size f cdv))) :
    PSs (cxOf (L2.CX g.P g.w) g.P g.w g.K g.mg g.base ["places", "late"] "counted_places" (defScope (top 23)) f cdv A outer s H E) (defBody (top 23)) (rd_counted_places g j E) := by
  unfold rd_counted_places
  exact (pss_cons (ps_if (ptv (cv 1)) (pss_one (ps_ret (pe_op op_cSub (cv 0) pe_int))) pss_nil)
  (pss_one (ps_ret (cv 0))))
theorem ok_counted_places {g : Wd} (T : Top g) {fd : FuncData} (F : FunD g.K "counted_places" "counted_places" (defArgs (top 23)) (defBody (top 23)) (defScope (top 23)) [] [] (gad g.K "counted_places") fd) {j : Nat} {sp : Sp} (h : ∀ vs H Q E, sp vs H Q E → vs.length = 2 ∧ rd_counted_places g j E { nx := fun _ H1 => Q .non H1, rt := Q } (L2.start ["places", "late"] vs) H) : FnOk g.P g.w g.K g.mg g.base (L2.CX g.P g.w) (j + 2) (gad g.K "counted_places") fd ["places", "late"] sp :=
  FunD.ok F sc_counted_places (fun vs H Q E hh => (h vs H Q E hh).1) fun cdv A outer s H vs Q E hr hh => ⟨rd_counted_places g j E, dv_counted_places T hr, (h vs H Q E hh).2⟩
theorem fk_counted_places {g : Wd} (T : Top g) (j : Nat) {sp : Sp} (h : ∀ vs H Q E, sp vs H Q E → vs.length = 2 ∧ rd_counted_places g j E { nx := fun _ H1 => Q .non H1, rt := Q } (L2.start ["places", "late"] vs) H) : FnG g (j + 2) (gad g.K "counted_places") sp := by
  obtain ⟨fd, F⟩ := fd_counted_places T
  exact fnG_of (ok_counted_places T F h) (FunD.bindsN F fun _ _ _ _ _ _ us hl => match us, hl with | [_, _], _ => rfl)
theorem sc_blocked_now : FnScope ["t", "spots", "counted", "limit", "budgets", "phase", "carried"] ["t", "spots", "counted", "limit", "budgets", "phase"] (defScope (top 24)) := ⟨rfl, rfl, rfl, by decide +kernel, rfl, by decide +kernel, by decide +kernel⟩
def rd_blocked_now (g : Wd) (j : Nat) (E : XK) : TS :=
  tSeq (tIfS (cTest (tOp cLt (cV 0) (tC (.int 0)))) (tRet (tC (.bl false))) (tNext))
  (tSeq (tAsg (cMeth g j (fun cls d _ H => E cls d H) "total" (cV 4) (tCons (cV 5) (tCons (cV 0) (tNil)))) (gName 6))
  (tSeq (tIfS (cTest (tOp cGe (cV 6) (tCB (cMin g.K) (tCons (tCB (cLen g j) (tCons (cV 1) (tNil))) (tCons (tOp cSub (cV 3) (tC (.int 1))) (tNil)))))) (tRet (tC (.bl false))) (tNext))
  (tRet (tOp cGe (tOp (cAdd g.K noOw) (tOp (cAdd g.K noOw) (tOp (cIx g.K) (cV 1) (cV 6)) (cV 6)) (cV 0)) (cV 2)))))
theorem dv_blocked_now {g : Wd} (T : Top g) {j : Nat} {f : Addr} {cdv : Value} {A : Around} {outer : List Env} {s : Shared} {H : Hp} {E : XK} (hr : Room (j + 1) (A.deeper (envOfC "blocked_now" (defScope (top 24)) s.heap.objs.size f cdv))) :
    PSs (cxOf (L2.CX g.P g.w) g.P g.w g.K g.mg g.base ["t", "spots", "counted", "limit", "budgets", "phase", "carried"] "blocked_now" (defScope (top 24)) f cdv A outer s H E) (defBody (top 24)) (rd_blocked_now g j E) := by
  unfold rd_blocked_now
  exact (pss_cons (ps_if (ptc op_cLt (cv 0) pe_int (nomark _)) (pss_one (ps_ret pe_bl)) pss_nil)
  (pss_cons (ps_set (i := 6) sc_blocked_now.nd rfl (Or.inl rfl) (pe_cMeth (takes_of rfl rfl rfl rfl) (hr.mono (Nat.le_succ _)) (cv 4) (pa_cons (cv 5) (pa_cons (cv 0) pa_nil))))
  (pss_cons (ps_if (ptc op_cGe (cv 6) (pe_callB (call_cMin rfl) (by rfl) (bl_min T) bt_min (pa_cons (pe_callB (call_cLen hr) (by rfl) (bl_len T) bt_len (pa_cons (cv 1) pa_nil)) (pa_cons (pe_op op_cSub (cv 3) pe_int) pa_nil))) (nomark _)) (pss_one (ps_ret pe_bl)) pss_nil)
  (pss_one (ps_ret (pe_cmpR op_cGe (pe_op (op_cAdd noOw_ok) (pe_op (op_cAdd noOw_ok) (pe_ix ix_c (cv 1) (cv 6) (fun _ _ => rfl)) (cv 6)) (cv 0)) (cv 2) (nomark _)))))))
theorem ok_blocked_now {g : Wd} (T : Top g) {fd : FuncData} (F : FunD g.K "blocked_now" "blocked_now" (defArgs (top 24)) (defBody (top 24)) (defScope (top 24)) [] [] (gad g.K "blocked_now") fd) {j : Nat} {sp : Sp} (h : ∀ vs H Q E, sp vs H Q E → vs.length = 6 ∧ rd_blocked_now g j E { nx := fun _ H1 => Q .non H1, rt := Q } (L2.start ["t", "spots", "counted", "limit", "budgets", "phase", "carried"] vs) H) : FnOk g.P g.w g.K g.mg g.base (L2.CX g.P g.w) (j + 2) (gad g.K "blocked_now") fd ["t", "spots", "counted", "limit", "budgets", "phase"] sp :=
  FunD.ok F sc_blocked_now (fun vs H Q E hh => (h vs H Q E hh).1) fun cdv A outer s H vs Q E hr hh => ⟨rd_blocked_now g j E, dv_blocked_now T hr, (h vs H Q E hh).2⟩
theorem fk_blocked_now {g : Wd} (T : Top g) (j : Nat) {sp : Sp} (h : ∀ vs H Q E, sp vs H Q E → vs.length = 6 ∧ rd_blocked_now g j E { nx := fun _ H1 => Q .non H1, rt := Q } (L2.start ["t", "spots", "counted", "limit", "budgets", "phase", "carried"] vs) H) : FnG g (j + 2) (gad g.K "blocked_now") sp := by
  obtain ⟨fd, F⟩ := fd_blocked_now T
  exact fnG_of (ok_blocked_now T F h) (FunD.bindsN F fun _ _ _ _ _ _ us hl => match us, hl with | [_, _, _, _, _, _], _ => rfl)
theorem sc_short_now : FnScope ["t", "ones", "counted", "limit", "budgets", "phase", "window"] ["t", "ones", "counted", "limit", "budgets", "phase"] (defScope (top 25)) := ⟨rfl, rfl, rfl, by decide +kernel, rfl, by decide +kernel, by decide +kernel⟩
def rd_short_now (g : Wd) (j : Nat) (E : XK) : TS :=
  tSeq (tIfS (cTest (tOp cLt (cV 0) (tCB (cMax g.K) (tCons (tC (.int 0)) (tCons (tOp cSub (cV 2) (cV 1)) (tNil)))))) (tRet (tC (.bl false))) (tNext))
  (tSeq (tAsg (tOp cSub (cV 2) (cV 3)) (gName 6))
  (tSeq (tIfS (cTest (tOp cLt (cV 6) (tC (.int 0)))) (tRet (tC (.bl true))) (tNext))
  (tRet (tOp cLt (cMeth g j (fun cls d _ H => E cls d H) "total" (cV 4) (tCons (tOp cSub (tOp (cAdd g.K noOw) (cV 5) (cV 0)) (cV 6)) (tCons (cV 6) (tNil)))) (tOp cSub (cV 3) (tC (.int 1)))))))
theorem dv_short_now {g : Wd} (T : Top g) {j : Nat} {f : Addr} {cdv : Value} {A : Around} {outer : List Env} {s : Shared} {H : Hp} {E : XK} (hr : Room (j + 1) (A.deeper (envOfC "short_now" (defScope (top 25)) s.heap.objs.size f cdv))) :
    PSs (cxOf (L2.CX g.P g.w) g.P g.w g.K g.mg g.base ["t", "ones", "counted", "limit", "budgets", "phase", "window"] "short_now" (defScope (top 25)) f cdv A outer s H E) (defBody (top 25)) (rd_short_now g j E) := by
  unfold rd_short_now
  exact (pss_cons (ps_if (ptc op_cLt (cv 0) (pe_callB (call_cMax rfl) (by rfl) (bl_max T) bt_max (pa_cons pe_int (pa_cons (pe_op op_cSub (cv 2) (cv 1)) pa_nil))) (nomark _)) (pss_one (ps_ret pe_bl)) pss_nil)
  (pss_cons (ps_set (i := 6) sc_short_now.nd rfl (Or.inl rfl) (pe_op op_cSub (cv 2) (cv 3)))
  (pss_cons (ps_if (ptc op_cLt (cv 6) pe_int (nomark _)) (pss_one (ps_ret pe_bl)) pss_nil)
  (pss_one (ps_ret (pe_cmpR op_cLt (pe_cMeth (takes_of rfl rfl rfl rfl) (hr.mono (Nat.le_succ _)) (cv 4) (pa_cons (pe_op op_cSub (pe_op (op_cAdd noOw_ok) (cv 5) (cv 0)) (cv 6)) (pa_cons (cv 6) pa_nil))) (pe_op op_cSub (cv 3) pe_int) (nomark _)))))))
theorem ok_short_now {g : Wd} (T : Top g) {fd : FuncData} (F : FunD g.K "short_now" "short_now" (defArgs (top 25)) (defBody (top 25)) (defScope (top 25)) [] [] (gad g.K "short_now") fd) {j : Nat} {sp : Sp} (h : ∀ vs H Q E, sp vs H Q E → vs.length = 6 ∧ rd_short_now g j E { nx := fun _ H1 => Q .non H1, rt := Q } (L2.start ["t", "ones", "counted", "limit", "budgets", "phase", "window"] vs) H) : FnOk g.P g.w g.K g.mg g.base (L2.CX g.P g.w) (j + 2) (gad g.K "short_now") fd ["t", "ones", "counted", "limit", "budgets", "phase"] sp :=
  FunD.ok F sc_short_now (fun vs H Q E hh => (h vs H Q E hh).1) fun cdv A outer s H vs Q E hr hh => ⟨rd_short_now g j E, dv_short_now T hr, (h vs H Q E hh).2⟩
theorem fk_short_now {g : Wd} (T : Top g) (j : Nat) {sp : Sp} (h : ∀ vs H Q E, sp vs H Q E → vs.length = 6 ∧ rd_short_now g j E { nx := fun _ H1 => Q .non H1, rt := Q } (L2.start ["t", "ones", "counted", "limit", "budgets", "phase", "window"] vs) H) : FnG g (j + 2) (gad g.K "short_now") sp := by
  obtain ⟨fd, F⟩ := fd_short_now T
  exact fnG_of (ok_short_now T F h) (FunD.bindsN F fun _ _ _ _ _ _ us hl => match us, hl with | [_, _, _, _, _, _], _ => rfl)
theorem sc_blocked_at : FnScope ["word", "places", "limit", "budgets", "phase", "late", "counted", "spots", "t"] ["word", "places", "limit", "budgets", "phase", "late"] (defScope (top 26)) := ⟨rfl, rfl, rfl, by decide +kernel, rfl, by decide +kernel, by decide +kernel⟩
def rd_blocked_at (g : Wd) (j : Nat) (E : XK) : TS :=
  tSeq (tDrop (cCall g j (fun cls d _ H => E cls d H) (gad g.K "check_standing") (tCons (cV 0) (tCons (cV 1) (tCons (cV 2) (tCons (cV 4) (tNil)))))))
  (tSeq (tAsg (cCall g j (fun cls d _ H => E cls d H) (gad g.K "counted_places") (tCons (cV 1) (tCons (cV 5) (tNil)))) (gName 6))
  (tSeq (tAsg (cCall g j (fun cls d _ H => E cls d H) (gad g.K "depths") (tCons (cV 0) (tNil))) (gName 7))
  (tSeq (tFor (iRng1 (tCons (cV 6) (tNil))) (gName 8) (tIfS (cTru g.K (cCall g j (fun cls d _ H => E cls d H) (gad g.K "blocked_now") (tCons (cV 8) (tCons (cV 7) (tCons (cV 6) (tCons (cV 2) (tCons (cV 3) (tCons (cV 4) (tNil))))))))) (tRet (cV 8)) (tNext)))
  (tRet (tC .non)))))
theorem dv_blocked_at {g : Wd} (T : Top g) {j : Nat} {f : Addr} {cdv : Value} {A : Around} {outer : List Env} {s : Shared} {H : Hp} {E : XK} (hr : Room (j + 1) (A.deeper (envOfC "blocked_at" (defScope (top 26)) s.heap.objs.size f cdv))) :
    PSs (cxOf (L2.CX g.P g.w) g.P g.w g.K g.mg g.base ["word", "places", "limit", "budgets", "phase", "late", "counted", "spots", "t"] "blocked_at" (defScope (top 26)) f cdv A outer s H E) (defBody (top 26)) (rd_blocked_at g j E) := by
  unfold rd_blocked_at
  exact (pss_cons (ps_expr (pe_cCall (takes_of rfl rfl rfl rfl) (hr.mono (Nat.le_succ _)) (gf_check_standing T) (by rfl) (pa_cons (cv 0) (pa_cons (cv 1) (pa_cons (cv 2) (pa_cons (cv 4) pa_nil))))))
  (pss_cons (ps_set (i := 6) sc_blocked_at.nd rfl (Or.inl rfl) (pe_cCall (takes_of rfl rfl rfl rfl) (hr.mono (Nat.le_succ _)) (gf_counted_places T) (by rfl) (pa_cons (cv 1) (pa_cons (cv 5) pa_nil))))
  (pss_cons (ps_set (i := 7) sc_blocked_at.nd rfl (Or.inl rfl) (pe_cCall (takes_of rfl rfl rfl rfl) (hr.mono (Nat.le_succ _)) (gf_depths T) (by rfl) (pa_cons (cv 0) pa_nil)))
  (pss_cons (ps_for (passes_of rfl) rfl (pi_range1 (by rfl) (bl_range T) (pa_cons (cv 6) pa_nil)) (pg_name sc_blocked_at.nd rfl (Or.inl rfl)) (pss_one (ps_if (ptv (pe_cCall (takes_of rfl rfl rfl rfl) (hr.mono (Nat.le_succ _)) (gf_blocked_now T) (by rfl) (pa_cons (cv 8) (pa_cons (cv 7) (pa_cons (cv 6) (pa_cons (cv 2) (pa_cons (cv 3) (pa_cons (cv 4) pa_nil)))))))) (pss_one (ps_ret (cv 8))) pss_nil)))
  (pss_one (ps_ret pe_non))))))
theorem ok_blocked_at {g : Wd} (T : Top g) {fd : FuncData} (F : FunD g.K "blocked_at" "blocked_at" (defArgs (top 26)) (defBody (top 26)) (defScope (top 26)) [.int 0] [("late", .bl false)] (gad g.K "blocked_at") fd) {j : Nat} {sp : Sp} (h : ∀ vs H Q E, sp vs H Q E → vs.length = 6 ∧ rd_blocked_at g j E { nx := fun _ H1 => Q .non H1, rt := Q } (L2.start ["word", "places", "limit", "budgets", "phase", "late", "counted", "spots", "t"] vs) H) : FnOk g.P g.w g.K g.mg g.base (L2.CX g.P g.w) (j + 2) (gad g.K "blocked_at") fd ["word", "places", "limit", "budgets", "phase", "late"] sp :=
  FunD.ok F sc_blocked_at (fun vs H Q E hh => (h vs H Q E hh).1) fun cdv A outer s H vs Q E hr hh => ⟨rd_blocked_at g j E, dv_blocked_at T hr, (h vs H Q E hh).2⟩
theorem sc_short_at : FnScope ["word", "places", "limit", "budgets", "phase", "late", "counted", "ones", "first", "t"] ["word", "places", "limit", "budgets", "phase", "late"] (defScope (top 27)) := ⟨rfl, rfl, rfl, by decide +kernel, rfl, by decide +kernel, by decide +kernel⟩
def rd_short_at (g : Wd) (j : Nat) (E : XK) : TS :=
  tSeq (tDrop (cCall g j (fun cls d _ H => E cls d H) (gad g.K "check_standing") (tCons (cV 0) (tCons (cV 1) (tCons (cV 2) (tCons (cV 4) (tNil)))))))
  (tSeq (tAsg (cCall g j (fun cls d _ H => E cls d H) (gad g.K "counted_places") (tCons (cV 1) (tCons (cV 5) (tNil)))) (gName 6))
  (tSeq (tAsg (cCall g j (fun cls d _ H => E cls d H) (gad g.K "living") (tCons (cV 0) (tNil))) (gName 7))
  (tSeq (tAsg (tCB (cMax g.K) (tCons (tC (.int 0)) (tCons (tOp cSub (cV 6) (cV 7)) (tNil)))) (gName 8))
  (tSeq (tFor (iRng2 (tCons (cV 8) (tCons (tOp (cAdd g.K noOw) (cV 8) (tCB (cLen g j) (tCons (cV 3) (tNil)))) (tNil)))) (gName 9) (tIfS (cTru g.K (cCall g j (fun cls d _ H => E cls d H) (gad g.K "short_now") (tCons (cV 9) (tCons (cV 7) (tCons (cV 6) (tCons (cV 2) (tCons (cV 3) (tCons (cV 4) (tNil))))))))) (tRet (cV 9)) (tNext)))
  (tRet (tC .non))))))
theorem dv_short_at {g : Wd} (T : Top g) {j : Nat} {f : Addr} {cdv : Value} {A : Around} {outer : List Env} {s : Shared} {H : Hp} {E : XK} (hr : Room (j + 1) (A.deeper (envOfC "short_at" (defScope (top 27)) s.heap.objs.size f cdv))) :
    PSs (cxOf (L2.CX g.P g.w) g.P g.w g.K g.mg g.base ["word", "places", "limit", "budgets", "phase", "late", "counted", "ones", "first", "t"] "short_at" (defScope (top 27)) f cdv A outer s H E) (defBody (top 27)) (rd_short_at g j E) := by
  unfold rd_short_at
  exact (pss_cons (ps_expr (pe_cCall (takes_of rfl rfl rfl rfl) (hr.mono (Nat.le_succ _)) (gf_check_standing T) (by rfl) (pa_cons (cv 0) (pa_cons (cv 1) (pa_cons (cv 2) (pa_cons (cv 4) pa_nil))))))
  (pss_cons (ps_set (i := 6) sc_short_at.nd rfl (Or.inl rfl) (pe_cCall (takes_of rfl rfl rfl rfl) (hr.mono (Nat.le_succ _)) (gf_counted_places T) (by rfl) (pa_cons (cv 1) (pa_cons (cv 5) pa_nil))))
  (pss_cons (ps_set (i := 7) sc_short_at.nd rfl (Or.inl rfl) (pe_cCall (takes_of rfl rfl rfl rfl) (hr.mono (Nat.le_succ _)) (gf_living T) (by rfl) (pa_cons (cv 0) pa_nil)))
  (pss_cons (ps_set (i := 8) sc_short_at.nd rfl (Or.inl rfl) (pe_callB (call_cMax rfl) (by rfl) (bl_max T) bt_max (pa_cons pe_int (pa_cons (pe_op op_cSub (cv 6) (cv 7)) pa_nil))))
  (pss_cons (ps_for (passes_of rfl) rfl (pi_range2 (by rfl) (bl_range T) (pa_cons (cv 8) (pa_cons (pe_op (op_cAdd noOw_ok) (cv 8) (pe_callB (call_cLen hr) (by rfl) (bl_len T) bt_len (pa_cons (cv 3) pa_nil))) pa_nil))) (pg_name sc_short_at.nd rfl (Or.inl rfl)) (pss_one (ps_if (ptv (pe_cCall (takes_of rfl rfl rfl rfl) (hr.mono (Nat.le_succ _)) (gf_short_now T) (by rfl) (pa_cons (cv 9) (pa_cons (cv 7) (pa_cons (cv 6) (pa_cons (cv 2) (pa_cons (cv 3) (pa_cons (cv 4) pa_nil)))))))) (pss_one (ps_ret (cv 9))) pss_nil)))
  (pss_one (ps_ret pe_non)))))))
theorem ok_short_at {g : Wd} (T : Top g) {fd : FuncData} (F : FunD g.K "short_at" "short_at" (defArgs (top 27)) (defBody (top 27)) (defScope (top 27)) [.int 0] [("late", .bl false)] (gad g.K "short_at") fd) {j : Nat} {sp : Sp} (h : ∀ vs H Q E, sp vs H Q E → vs.length = 6 ∧ rd_short_at g j E { nx := fun _ H1 => Q .non H1, rt := Q } (L2.start ["word", "places", "limit", "budgets", "phase", "late", "counted", "ones", "first", "t"] vs) H) : FnOk g.P g.w g.K g.mg g.base (L2.CX g.P g.w) (j + 2) (gad g.K "short_at") fd ["word", "places", "limit", "budgets", "phase", "late"] sp :=
  FunD.ok F sc_short_at (fun vs H Q E hh => (h vs H Q E hh).1) fun cdv A outer s H vs Q E hr hh => ⟨rd_short_at g j E, dv_short_at T hr, (h vs H Q E hh).2⟩
theorem sc_critical_put : FnScope ["word", "places", "limit", "budgets", "phase", "late", "blocked", "short"] ["word", "places", "limit", "budgets", "phase", "late"] (defScope (top 28)) := ⟨rfl, rfl, rfl, by decide +kernel, rfl, by decide +kernel, by decide +kernel⟩
def rd_critical_put (g : Wd) (j : Nat) (E : XK) : TS :=
  tSeq (tAsg (cCallK g j (fun cls d _ H => E cls d H) (gad g.K "blocked_at") ["late"] (tCons (cV 0) (tCons (cV 1) (tCons (cV 2) (tCons (cV 3) (tCons (cV 4) (tNil)))))) (tCons (cV 5) (tNil))) (gName 6))
  (tSeq (tAsg (cCallK g j (fun cls d _ H => E cls d H) (gad g.K "short_at") ["late"] (tCons (cV 0) (tCons (cV 1) (tCons (cV 2) (tCons (cV 3) (tCons (cV 4) (tNil)))))) (tCons (cV 5) (tNil))) (gName 7))
  (tSeq (tIfS (cTest (tOp (cIsN false) (cV 6) (tC .non))) (tRet (cV 7)) (tNext))
  (tSeq (tIfS (cTest (tOp (cIsN false) (cV 7) (tC .non))) (tRet (cV 6)) (tNext))
  (tRet (tCB (cMin g.K) (tCons (cV 6) (tCons (cV 7) (tNil))))))))
theorem dv_critical_put {g : Wd} (T : Top g) {j : Nat} {f : Addr} {cdv : Value} {A : Around} {outer : List Env} {s : Shared} {H : Hp} {E : XK} (hr : Room (j + 1) (A.deeper (envOfC "critical_put" (defScope (top 28)) s.heap.objs.size f cdv))) :
    PSs (cxOf (L2.CX g.P g.w) g.P g.w g.K g.mg g.base ["word", "places", "limit", "budgets", "phase", "late", "blocked", "short"] "critical_put" (defScope (top 28)) f cdv A outer s H E) (defBody (top 28)) (rd_critical_put g j E) := by
  unfold rd_critical_put
  exact (pss_cons (ps_set (i := 6) sc_critical_put.nd rfl (Or.inl rfl) (pe_cCallK (takes_of rfl rfl rfl rfl) (hr.mono (Nat.le_succ _)) (gf_blocked_at T) (by rfl) (pa_cons (cv 0) (pa_cons (cv 1) (pa_cons (cv 2) (pa_cons (cv 3) (pa_cons (cv 4) pa_nil))))) (pk_cons (cv 5) pk_nil)))
  (pss_cons (ps_set (i := 7) sc_critical_put.nd rfl (Or.inl rfl) (pe_cCallK (takes_of rfl rfl rfl rfl) (hr.mono (Nat.le_succ _)) (gf_short_at T) (by rfl) (pa_cons (cv 0) (pa_cons (cv 1) (pa_cons (cv 2) (pa_cons (cv 3) (pa_cons (cv 4) pa_nil))))) (pk_cons (cv 5) pk_nil)))
  (pss_cons (ps_if (ptc op_cIs (cv 6) pe_non (nomark _)) (pss_one (ps_ret (cv 7))) pss_nil)
  (pss_cons (ps_if (ptc op_cIs (cv 7) pe_non (nomark _)) (pss_one (ps_ret (cv 6))) pss_nil)
  (pss_one (ps_ret (pe_callB (call_cMin rfl) (by rfl) (bl_min T) bt_min (pa_cons (cv 6) (pa_cons (cv 7) pa_nil)))))))))
theorem ok_critical_put {g : Wd} (T : Top g) {fd : FuncData} (F : FunD g.K "critical_put" "critical_put" (defArgs (top 28)) (defBody (top 28)) (defScope (top 28)) [] [] (gad g.K "critical_put") fd) {j : Nat} {sp : Sp} (h : ∀ vs H Q E, sp vs H Q E → vs.length = 6 ∧ rd_critical_put g j E { nx := fun _ H1 => Q .non H1, rt := Q } (L2.start ["word", "places", "limit", "budgets", "phase", "late", "blocked", "short"] vs) H) : FnOk g.P g.w g.K g.mg g.base (L2.CX g.P g.w) (j + 2) (gad g.K "critical_put") fd ["word", "places", "limit", "budgets", "phase", "late"] sp :=
  FunD.ok F sc_critical_put (fun vs H Q E hh => (h vs H Q E hh).1) fun cdv A outer s H vs Q E hr hh => ⟨rd_critical_put g j E, dv_critical_put T hr, (h vs H Q E hh).2⟩
theorem fk_critical_put {g : Wd} (T : Top g) (j : Nat) {sp : Sp} (h : ∀ vs H Q E, sp vs H Q E → vs.length = 6 ∧ rd_critical_put g j E { nx := fun _ H1 => Q .non H1, rt := Q } (L2.start ["word", "places", "limit", "budgets", "phase", "late", "blocked", "short"] vs) H) : FnG g (j + 2) (gad g.K "critical_put") sp := by
  obtain ⟨fd, F⟩ := fd_critical_put T
  exact fnG_of (ok_critical_put T F h) (FunD.bindsN F fun _ _ _ _ _ _ us hl => match us, hl with | [_, _, _, _, _, _], _ => rfl)
theorem sc_life : FnScope ["word", "places", "limit", "budgets", "phase", "late", "critical"] ["word", "places", "limit", "budgets", "phase", "late"] (defScope (top 29)) := ⟨rfl, rfl, rfl, by decide +kernel, rfl, by decide +kernel, by decide +kernel⟩
def rd_life (g : Wd) (j : Nat) (E : XK) : TS :=
  tSeq (tDrop (cCall g j (fun cls d _ H => E cls d H) (gad g.K "check_standing") (tCons (cV 0) (tCons (cV 1) (tCons (cV 2) (tCons (cV 4) (tNil)))))))
  (tSeq (tIfS (tAnd (cTru g.K (cV 5)) (cTest (tOp (cEqN g.K false) (tCB (cLen g j) (tCons (cV 0) (tNil))) (cV 1)))) (tRet (tC (.int 0))) (tNext))
  (tSeq (tAsg (cCall g j (fun cls d _ H => E cls d H) (gad g.K "critical_put") (tCons (cV 0) (tCons (cV 1) (tCons (cV 2) (tCons (cV 3) (tCons (cV 4) (tCons (cV 5) (tNil)))))))) (gName 6))
  (tSeq (tIfS (cTest (tOp (cIsN false) (cV 6) (tC .non))) (tRet (tC .non)) (tNext))
  (tSeq (tIfS (cTru g.K (cV 5)) (tRet (tOp (cAdd g.K noOw) (cV 6) (tC (.int 1)))) (tNext))
  (tRet (cV 6))))))
theorem dv_life {g : Wd} (T : Top g) {j : Nat} {f : Addr} {cdv : Value} {A : Around} {outer : List Env} {s : Shared} {H : Hp} {E : XK} (hr : Room (j + 1) (A.deeper (envOfC "life" (defScope (top 29)) s.heap.objs.size f cdv))) :
    PSs (cxOf (L2.CX g.P g.w) g.P g.w g.K g.mg g.base ["word", "places", "limit", "budgets", "phase", "late", "critical"] "life" (defScope (top 29)) f cdv A outer s H E) (defBody (top 29)) (rd_life g j E) := by
  unfold rd_life
  exact (pss_cons (ps_expr (pe_cCall (takes_of rfl rfl rfl rfl) (hr.mono (Nat.le_succ _)) (gf_check_standing T) (by rfl) (pa_cons (cv 0) (pa_cons (cv 1) (pa_cons (cv 2) (pa_cons (cv 4) pa_nil))))))
  (pss_cons (ps_if (pw_and (ptv (cv 5)) (pw_and1 (ptc (op_cEq hr.units) (pe_callB (call_cLen hr) (by rfl) (bl_len T) bt_len (pa_cons (cv 0) pa_nil)) (cv 1) (nomark _)))).pt (pss_one (ps_ret pe_int)) pss_nil)
  (pss_cons (ps_set (i := 6) sc_life.nd rfl (Or.inl rfl) (pe_cCall (takes_of rfl rfl rfl rfl) (hr.mono (Nat.le_succ _)) (gf_critical_put T) (by rfl) (pa_cons (cv 0) (pa_cons (cv 1) (pa_cons (cv 2) (pa_cons (cv 3) (pa_cons (cv 4) (pa_cons (cv 5) pa_nil))))))))
  (pss_cons (ps_if (ptc op_cIs (cv 6) pe_non (nomark _)) (pss_one (ps_ret pe_non)) pss_nil)
  (pss_cons (ps_if (ptv (cv 5)) (pss_one (ps_ret (pe_op (op_cAdd noOw_ok) (cv 6) pe_int))) pss_nil)
  (pss_one (ps_ret (cv 6))))))))
theorem ok_life {g : Wd} (T : Top g) {fd : FuncData} (F : FunD g.K "life" "life" (defArgs (top 29)) (defBody (top 29)) (defScope (top 29)) [.int 0] [("late", .bl false)] (gad g.K "life") fd) {j : Nat} {sp : Sp} (h : ∀ vs H Q E, sp vs H Q E → vs.length = 6 ∧ rd_life g j E { nx := fun _ H1 => Q .non H1, rt := Q } (L2.start ["word", "places", "limit", "budgets", "phase", "late", "critical"] vs) H) : FnOk g.P g.w g.K g.mg g.base (L2.CX g.P g.w) (j + 2) (gad g.K "life") fd ["word", "places", "limit", "budgets", "phase", "late"] sp :=
  FunD.ok F sc_life (fun vs H Q E hh => (h vs H Q E hh).1) fun cdv A outer s H vs Q E hr hh => ⟨rd_life g j E, dv_life T hr, (h vs H Q E hh).2⟩
theorem sc_safe : FnScope ["word", "places", "limit", "budgets", "phase", "late"] ["word", "places", "limit", "budgets", "phase", "late"] (defScope (top 30)) := ⟨rfl, rfl, rfl, by decide +kernel, rfl, by decide +kernel, by decide +kernel⟩
def rd_safe (g : Wd) (j : Nat) (E : XK) : TS :=
  tRet (tOp (cIsN false) (cCallK g j (fun cls d _ H => E cls d H) (gad g.K "life") ["late"] (tCons (cV 0) (tCons (cV 1) (tCons (cV 2) (tCons (cV 3) (tCons (cV 4) (tNil)))))) (tCons (cV 5) (tNil))) (tC .non))
theorem dv_safe {g : Wd} (T : Top g) {j : Nat} {f : Addr} {cdv : Value} {A : Around} {outer : List Env} {s : Shared} {H : Hp} {E : XK} (hr : Room (j + 1) (A.deeper (envOfC "safe" (defScope (top 30)) s.heap.objs.size f cdv))) :
    PSs (cxOf (L2.CX g.P g.w) g.P g.w g.K g.mg g.base ["word", "places", "limit", "budgets", "phase", "late"] "safe" (defScope (top 30)) f cdv A outer s H E) (defBody (top 30)) (rd_safe g j E) := by
  unfold rd_safe
  exact (pss_one (ps_ret (pe_cmpR op_cIs (pe_cCallK (takes_of rfl rfl rfl rfl) (hr.mono (Nat.le_succ _)) (gf_life T) (by rfl) (pa_cons (cv 0) (pa_cons (cv 1) (pa_cons (cv 2) (pa_cons (cv 3) (pa_cons (cv 4) pa_nil))))) (pk_cons (cv 5) pk_nil)) pe_non (nomark _))))
theorem ok_safe {g : Wd} (T : Top g) {fd : FuncData} (F : FunD g.K "safe" "safe" (defArgs (top 30)) (defBody (top 30)) (defScope (top 30)) [.int 0] [("late", .bl false)] (gad g.K "safe") fd) {j : Nat} {sp : Sp} (h : ∀ vs H Q E, sp vs H Q E → vs.length = 6 ∧ rd_safe g j E { nx := fun _ H1 => Q .non H1, rt := Q } (L2.start ["word", "places", "limit", "budgets", "phase", "late"] vs) H) : FnOk g.P g.w g.K g.mg g.base (L2.CX g.P g.w) (j + 2) (gad g.K "safe") fd ["word", "places", "limit", "budgets", "phase", "late"] sp :=
  FunD.ok F sc_safe (fun vs H Q E hh => (h vs H Q E hh).1) fun cdv A outer s H vs Q E hr hh => ⟨rd_safe g j E, dv_safe T hr, (h vs H Q E hh).2⟩
theorem sc__check_moment : FnScope ["word", "places", "phase"] ["word", "places", "phase"] (defScope (top 36)) := ⟨rfl, rfl, rfl, by decide +kernel, rfl, by decide +kernel, by decide +kernel⟩
def rd__check_moment (g : Wd) (j : Nat) (E : XK) : TS :=
  tSeq (tDrop (cCall g j (fun cls d _ H => E cls d H) (gad g.K "good_word") (tCons (cV 0) (tCons (tC (.str "word")) (tNil)))))
  (tSeq (tDrop (cCall g j (fun cls d _ H => E cls d H) (gad g.K "at_least") (tCons (cV 1) (tCons (tC (.int 1)) (tCons (tC (.str "places")) (tNil))))))
  (tSeq (tDrop (cCall g j (fun cls d _ H => E cls d H) (gad g.K "at_least") (tCons (cV 2) (tCons (tC (.int 0)) (tCons (tC (.str "phase")) (tNil))))))
  (tDrop (cCall g j (fun cls d _ H => E cls d H) (gad g.K "at_least") (tCons (cV 1) (tCons (tCB (cLen g j) (tCons (cV 0) (tNil))) (tCons (tC (.str "places")) (tNil))))))))
theorem dv__check_moment {g : Wd} (T : Top g) {j : Nat} {f : Addr} {cdv : Value} {A : Around} {outer : List Env} {s : Shared} {H : Hp} {E : XK} (hr : Room (j + 1) (A.deeper (envOfC "_check_moment" (defScope (top 36)) s.heap.objs.size f cdv))) :
    PSs (cxOf (L2.CX g.P g.w) g.P g.w g.K g.mg g.base ["word", "places", "phase"] "_check_moment" (defScope (top 36)) f cdv A outer s H E) (defBody (top 36)) (rd__check_moment g j E) := by
  unfold rd__check_moment
  exact (pss_cons (ps_expr (pe_cCall (takes_of rfl rfl rfl rfl) (hr.mono (Nat.le_succ _)) (gf_good_word T) (by rfl) (pa_cons (cv 0) (pa_cons pe_str pa_nil))))
  (pss_cons (ps_expr (pe_cCall (takes_of rfl rfl rfl rfl) (hr.mono (Nat.le_succ _)) (gf_at_least T) (by rfl) (pa_cons (cv 1) (pa_cons pe_int (pa_cons pe_str pa_nil)))))
  (pss_cons (ps_expr (pe_cCall (takes_of rfl rfl rfl rfl) (hr.mono (Nat.le_succ _)) (gf_at_least T) (by rfl) (pa_cons (cv 2) (pa_cons pe_int (pa_cons pe_str pa_nil)))))
  (pss_one (ps_expr (pe_cCall (takes_of rfl rfl rfl rfl) (hr.mono (Nat.le_succ _)) (gf_at_least T) (by rfl) (pa_cons (cv 1) (pa_cons (pe_callB (call_cLen hr) (by rfl) (bl_len T) bt_len (pa_cons (cv 0) pa_nil)) (pa_cons pe_str pa_nil)))))))))
theorem ok__check_moment {g : Wd} (T : Top g) {fd : FuncData} (F : FunD g.K "_check_moment" "_check_moment" (defArgs (top 36)) (defBody (top 36)) (defScope (top 36)) [] [] (gad g.K "_check_moment") fd) {j : Nat} {sp : Sp} (h : ∀ vs H Q E, sp vs H Q E → vs.length = 3 ∧ rd__check_moment g j E { nx := fun _ H1 => Q .non H1, rt := Q } (L2.start ["word", "places", "phase"] vs) H) : FnOk g.P g.w g.K g.mg g.base (L2.CX g.P g.w) (j + 2) (gad g.K "_check_moment") fd ["word", "places", "phase"] sp :=
  FunD.ok F sc__check_moment (fun vs H Q E hh => (h vs H Q E hh).1) fun cdv A outer s H vs Q E hr hh => ⟨rd__check_moment g j E, dv__check_moment T hr, (h vs H Q E hh).2⟩
theorem fk__check_moment {g : Wd} (T : Top g) (j : Nat) {sp : Sp} (h : ∀ vs H Q E, sp vs H Q E → vs.length = 3 ∧ rd__check_moment g j E { nx := fun _ H1 => Q .non H1, rt := Q } (L2.start ["word", "places", "phase"] vs) H) : FnG g (j + 2) (gad g.K "_check_moment") sp := by
  obtain ⟨fd, F⟩ := fd__check_moment T
  exact fnG_of (ok__check_moment T F h) (FunD.bindsN F fun _ _ _ _ _ _ us hl => match us, hl with | [_, _, _], _ => rfl)
theorem sc__most_allowed : FnScope ["word", "places", "budgets", "phase"] ["word", "places", "budgets", "phase"] (defScope (top 37)) := ⟨rfl, rfl, rfl, by decide +kernel, rfl, by decide +kernel, by decide +kernel⟩
def rd__most_allowed (g : Wd) (j : Nat) (E : XK) : TS :=
  tSeq (tIfS (cTest (tOp (cEqN g.K false) (tCB (cLen g j) (tCons (cV 0) (tNil))) (cV 1))) (tRet (tC (.int 0))) (tNext))
  (tRet (tCB (cMin g.K) (tCons (cMeth g j (fun cls d _ H => E cls d H) "at" (cV 2) (tCons (cV 3) (tNil))) (tCons (cCall g j (fun cls d _ H => E cls d H) (gad g.K "living") (tCons (cV 0) (tNil))) (tNil)))))
theorem dv__most_allowed {g : Wd} (T : Top g) {j : Nat} {f : Addr} {cdv : Value} {A : Around} {outer : List Env} {s : Shared} {H : Hp} {E : XK} (hr : Room (j + 1) (A.deeper (envOfC "_most_allowed" (defScope (top 37)) s.heap.objs.size f cdv))) :
    PSs (cxOf (L2.CX g.P g.w) g.P g.w g.K g.mg g.base ["word", "places", "budgets", "phase"] "_most_allowed" (defScope (top 37)) f cdv A outer s H E) (defBody (top 37)) (rd__most_allowed g j E) := by
  unfold rd__most_allowed
  exact (pss_cons (ps_if (ptc (op_cEq hr.units) (pe_callB (call_cLen hr) (by rfl) (bl_len T) bt_len (pa_cons (cv 0) pa_nil)) (cv 1) (nomark _)) (pss_one (ps_ret pe_int)) pss_nil)
  (pss_one (ps_ret (pe_callB (call_cMin rfl) (by rfl) (bl_min T) bt_min (pa_cons (pe_cMeth (takes_of rfl rfl rfl rfl) (hr.mono (Nat.le_succ _)) (cv 2) (pa_cons (cv 3) pa_nil)) (pa_cons (pe_cCall (takes_of rfl rfl rfl rfl) (hr.mono (Nat.le_succ _)) (gf_living T) (by rfl) (pa_cons (cv 0) pa_nil)) pa_nil))))))
theorem ok__most_allowed {g : Wd} (T : Top g) {fd : FuncData} (F : FunD g.K "_most_allowed" "_most_allowed" (defArgs (top 37)) (defBody (top 37)) (defScope (top 37)) [] [] (gad g.K "_most_allowed") fd) {j : Nat} {sp : Sp} (h : ∀ vs H Q E, sp vs H Q E → vs.length = 4 ∧ rd__most_allowed g j E { nx := fun _ H1 => Q .non H1, rt := Q } (L2.start ["word", "places", "budgets", "phase"] vs) H) : FnOk g.P g.w g.K g.mg g.base (L2.CX g.P g.w) (j + 2) (gad g.K "_most_allowed") fd ["word", "places", "budgets", "phase"] sp :=
  FunD.ok F sc__most_allowed (fun vs H Q E hh => (h vs H Q E hh).1) fun cdv A outer s H vs Q E hr hh => ⟨rd__most_allowed g j E, dv__most_allowed T hr, (h vs H Q E hh).2⟩
theorem fk__most_allowed {g : Wd} (T : Top g) (j : Nat) {sp : Sp} (h : ∀ vs H Q E, sp vs H Q E → vs.length = 4 ∧ rd__most_allowed g j E { nx := fun _ H1 => Q .non H1, rt := Q } (L2.start ["word", "places", "budgets", "phase"] vs) H) : FnG g (j + 2) (gad g.K "_most_allowed") sp := by
  obtain ⟨fd, F⟩ := fd__most_allowed T
  exact fnG_of (ok__most_allowed T F h) (FunD.bindsN F fun _ _ _ _ _ _ us hl => match us, hl with | [_, _, _, _], _ => rfl)
theorem sc__read_number : FnScope ["word", "digit"] ["word"] (defScope (top 38)) := ⟨rfl, rfl, rfl, by decide +kernel, rfl, by decide +kernel, by decide +kernel⟩
def rd__read_number (g : Wd) (j : Nat) (E : XK) : TS :=
  tSeq (tIfS (tNot (cTest (cChain cLe cLe (tC (.int 1)) (tCB (cLen g j) (tCons (cV 0) (tNil))) (cGv g "MOST_DIGITS")))) (tRet (tC .non)) (tNext))
  (tSeq (tIfS (tNot (cTru g.K (tCB (cAll g.K) (tCons (tLc (iSeq g.K (cV 0)) (gName 1) (tYes) (tOp (cIn g.K false) (cV 1) (cGv g "DIGITS")) [1]) (tNil))))) (tRet (tC .non)) (tNext))
  (tRet (tCB (cInt) (tCons (cV 0) (tNil)))))
theorem dv__read_number {g : Wd} (T : Top g) {j : Nat} {f : Addr} {cdv : Value} {A : Around} {outer : List Env} {s : Shared} {H : Hp} {E : XK} (hr : Room (j + 1) (A.deeper (envOfC "_read_number" (defScope (top 38)) s.heap.objs.size f cdv))) :
    PSs (cxOf (L2.CX g.P g.w) g.P g.w g.K g.mg g.base ["word", "digit"] "_read_number" (defScope (top 38)) f cdv A outer s H E) (defBody (top 38)) (rd__read_number g j E) := by
  unfold rd__read_number
  exact (pss_cons (ps_if (pt_not (ptc2 op_cLe op_cLe pe_int (pe_callB (call_cLen hr) (by rfl) (bl_len T) bt_len (pa_cons (cv 0) pa_nil)) (pe_cGv (by rfl)))) (pss_one (ps_ret pe_non)) pss_nil)
  (pss_cons (ps_if (pt_not (ptv (pe_callB (call_cAll rfl) (by rfl) (bl_all T) bt_all (pa_cons (pe_lc rfl sc__read_number.nd (pi_seq (cv 0)) (blkOk_by (own := [("digit", 1)]) (by change blkC ["word", "digit"] (defScope (top 38)) _ _ = true; decide +kernel)) (fun s H C cl fp => (pg_name sc__read_number.nd rfl (Or.inl rfl))) (fun s H C cl fp => pts_nil) (fun s H C cl fp => (pe_cmpR op_cIn (cv 1) (pe_cGv (by rfl)) (by with_unfolding_all rfl)))) pa_nil)))) (pss_one (ps_ret pe_non)) pss_nil)
  (pss_one (ps_ret (pe_callTy (call_cInt) (by rfl) (bl_int T) bt_int (pa_cons (cv 0) pa_nil))))))
theorem ok__read_number {g : Wd} (T : Top g) {fd : FuncData} (F : FunD g.K "_read_number" "_read_number" (defArgs (top 38)) (defBody (top 38)) (defScope (top 38)) [] [] (gad g.K "_read_number") fd) {j : Nat} {sp : Sp} (h : ∀ vs H Q E, sp vs H Q E → vs.length = 1 ∧ rd__read_number g j E { nx := fun _ H1 => Q .non H1, rt := Q } (L2.start ["word", "digit"] vs) H) : FnOk g.P g.w g.K g.mg g.base (L2.CX g.P g.w) (j + 2) (gad g.K "_read_number") fd ["word"] sp :=
  FunD.ok F sc__read_number (fun vs H Q E hh => (h vs H Q E hh).1) fun cdv A outer s H vs Q E hr hh => ⟨rd__read_number g j E, dv__read_number T hr, (h vs H Q E hh).2⟩
theorem fk__read_number {g : Wd} (T : Top g) (j : Nat) {sp : Sp} (h : ∀ vs H Q E, sp vs H Q E → vs.length = 1 ∧ rd__read_number g j E { nx := fun _ H1 => Q .non H1, rt := Q } (L2.start ["word", "digit"] vs) H) : FnG g (j + 2) (gad g.K "_read_number") sp := by
  obtain ⟨fd, F⟩ := fd__read_number T
  exact fnG_of (ok__read_number T F h) (FunD.bindsN F fun _ _ _ _ _ _ us hl => match us, hl with | [_], _ => rfl)
theorem sc__read_condition : FnScope ["name", "sign", "bound", "number"] ["name", "sign", "bound"] (defScope (top 39)) := ⟨rfl, rfl, rfl, by decide +kernel, rfl, by decide +kernel, by decide +kernel⟩
def rd__read_condition (g : Wd) (j : Nat) (E : XK) : TS :=
  tSeq (tAsg (cCall g j (fun cls d _ H => E cls d H) (gad g.K "_read_number") (tCons (cV 2) (tNil))) (gName 3))
  (tSeq (tIfS (tOr (cTest (tOp (cIn g.K true) (cV 0) (cGv g "FACTS"))) (tOr (cTest (tOp (cIn g.K true) (cV 1) (cGv g "SIGNS"))) (cTest (tOp (cIsN false) (cV 3) (tC .non))))) (tRet (tC .non)) (tNext))
  (tRet (tTup (tCons (cV 0) (tCons (cV 1) (tCons (cV 3) (tNil)))))))
theorem dv__read_condition {g : Wd} (T : Top g) {j : Nat} {f : Addr} {cdv : Value} {A : Around} {outer : List Env} {s : Shared} {H : Hp} {E : XK} (hr : Room (j + 1) (A.deeper (envOfC "_read_condition" (defScope (top 39)) s.heap.objs.size f cdv))) :
    PSs (cxOf (L2.CX g.P g.w) g.P g.w g.K g.mg g.base ["name", "sign", "bound", "number"] "_read_condition" (defScope (top 39)) f cdv A outer s H E) (defBody (top 39)) (rd__read_condition g j E) := by
  unfold rd__read_condition
  exact (pss_cons (ps_set (i := 3) sc__read_condition.nd rfl (Or.inl rfl) (pe_cCall (takes_of rfl rfl rfl rfl) (hr.mono (Nat.le_succ _)) (gf__read_number T) (by rfl) (pa_cons (cv 2) pa_nil)))
  (pss_cons (ps_if (pw_or (ptc op_cNotIn (cv 0) (pe_cGv (by rfl)) (by with_unfolding_all rfl)) (pw_or (ptc op_cNotIn (cv 1) (pe_cGv (by rfl)) (by with_unfolding_all rfl)) (pw_or1 (ptc op_cIs (cv 3) pe_non (nomark _))))).pt (pss_one (ps_ret pe_non)) pss_nil)
  (pss_one (ps_ret (pe_tup (pa_cons (cv 0) (pa_cons (cv 1) (pa_cons (cv 3) pa_nil))))))))
theorem ok__read_condition {g : Wd} (T : Top g) {fd : FuncData} (F : FunD g.K "_read_condition" "_read_condition" (defArgs (top 39)) (defBody (top 39)) (defScope (top 39)) [] [] (gad g.K "_read_condition") fd) {j : Nat} {sp : Sp} (h : ∀ vs H Q E, sp vs H Q E → vs.length = 3 ∧ rd__read_condition g j E { nx := fun _ H1 => Q .non H1, rt := Q } (L2.start ["name", "sign", "bound", "number"] vs) H) : FnOk g.P g.w g.K g.mg g.base (L2.CX g.P g.w) (j + 2) (gad g.K "_read_condition") fd ["name", "sign", "bound"] sp :=
  FunD.ok F sc__read_condition (fun vs H Q E hh => (h vs H Q E hh).1) fun cdv A outer s H vs Q E hr hh => ⟨rd__read_condition g j E, dv__read_condition T hr, (h vs H Q E hh).2⟩
theorem fk__read_condition {g : Wd} (T : Top g) (j : Nat) {sp : Sp} (h : ∀ vs H Q E, sp vs H Q E → vs.length = 3 ∧ rd__read_condition g j E { nx := fun _ H1 => Q .non H1, rt := Q } (L2.start ["name", "sign", "bound", "number"] vs) H) : FnG g (j + 2) (gad g.K "_read_condition") sp := by
  obtain ⟨fd, F⟩ := fd__read_condition T
  exact fnG_of (ok__read_condition T F h) (FunD.bindsN F fun _ _ _ _ _ _ us hl => match us, hl with | [_, _, _], _ => rfl)
theorem sc__read_line : FnScope ["line", "words", "amount", "condition"] ["line"] (defScope (top 40)) := ⟨rfl, rfl, rfl, by decide +kernel, rfl, by decide +kernel, by decide +kernel⟩
def rd__read_line (g : Wd) (j : Nat) (E : XK) : TS :=
  tSeq (tAsg (cStrM mSplit (cV 0) (tCons (tC (.str " ")) (tNil))) (gName 1))
  (tSeq (tAsg (tOp (cIx g.K) (cV 1) (tUn cNeg (tC (.int 1)))) (gName 2))
  (tSeq (tIfS (tAnd (cTest (tOp (cEqN g.K true) (cV 2) (tC (.str "all")))) (cTest (tOp (cIsN false) (cCall g j (fun cls d _ H => E cls d H) (gad g.K "_read_number") (tCons (cV 2) (tNil))) (tC .non)))) (tRet (tC .non)) (tNext))
  (tSeq (tIfS (tAnd (cTest (tOp (cEqN g.K false) (tCB (cLen g j) (tCons (cV 1) (tNil))) (tC (.int 3)))) (tAnd (cTest (tOp (cEqN g.K false) (tOp (cIx g.K) (cV 1) (tC (.int 0))) (tC (.str "else")))) (cTest (tOp (cEqN g.K false) (tOp (cIx g.K) (cV 1) (tC (.int 1))) (tC (.str "carry")))))) (tRet (tTup (tCons (tTup (tNil)) (tCons (cV 2) (tNil))))) (tNext))
  (tSeq (tIfS (tAnd (cTest (tOp (cEqN g.K false) (tCB (cLen g j) (tCons (cV 1) (tNil))) (tC (.int 6)))) (tAnd (cTest (tOp (cEqN g.K false) (tOp (cIx g.K) (cV 1) (tC (.int 0))) (tC (.str "when")))) (cTest (tOp (cEqN g.K false) (tOp (cIx g.K) (cV 1) (tC (.int 4))) (tC (.str "carry")))))) (tSeq (tAsg (cCall g j (fun cls d _ H => E cls d H) (gad g.K "_read_condition") (tCons (tOp (cIx g.K) (cV 1) (tC (.int 1))) (tCons (tOp (cIx g.K) (cV 1) (tC (.int 2))) (tCons (tOp (cIx g.K) (cV 1) (tC (.int 3))) (tNil))))) (gName 3))
  (tIfS (cTest (tOp (cIsN true) (cV 3) (tC .non))) (tRet (tTup (tCons (cV 3) (tCons (cV 2) (tNil))))) (tNext))) (tNext))
  (tRet (tC .non))))))
theorem dv__read_line {g : Wd} (T : Top g) {j : Nat} {f : Addr} {cdv : Value} {A : Around} {outer : List Env} {s : Shared} {H : Hp} {E : XK} (hr : Room (j + 1) (A.deeper (envOfC "_read_line" (defScope (top 40)) s.heap.objs.size f cdv))) :
    PSs (cxOf (L2.CX g.P g.w) g.P g.w g.K g.mg g.base ["line", "words", "amount", "condition"] "_read_line" (defScope (top 40)) f cdv A outer s H E) (defBody (top 40)) (rd__read_line g j E) := by
  unfold rd__read_line
  exact (pss_cons (ps_set (i := 1) sc__read_line.nd rfl (Or.inl rfl) (pe_sm PySem.F.slot_str_split PySem.F.type_str_split m_split (cv 0) (pa_cons pe_str pa_nil)))
  (pss_cons (ps_set (i := 2) sc__read_line.nd rfl (Or.inl rfl) (pe_ix ix_c (cv 1) (pe_un un_cNeg pe_int) (fun _ _ => rfl)))
  (pss_cons (ps_if (pw_and (ptc (op_cNe hr.units) (cv 2) pe_str (nomark _)) (pw_and1 (ptc op_cIs (pe_cCall (takes_of rfl rfl rfl rfl) (hr.mono (Nat.le_succ _)) (gf__read_number T) (by rfl) (pa_cons (cv 2) pa_nil)) pe_non (nomark _)))).pt (pss_one (ps_ret pe_non)) pss_nil)
  (pss_cons (ps_if (pw_and (ptc (op_cEq hr.units) (pe_callB (call_cLen hr) (by rfl) (bl_len T) bt_len (pa_cons (cv 1) pa_nil)) pe_int (nomark _)) (pw_and (ptc (op_cEq hr.units) (pe_ix ix_c (cv 1) pe_int (fun _ _ => rfl)) pe_str (nomark _)) (pw_and1 (ptc (op_cEq hr.units) (pe_ix ix_c (cv 1) pe_int (fun _ _ => rfl)) pe_str (nomark _))))).pt (pss_one (ps_ret (pe_tup (pa_cons (pe_tup pa_nil) (pa_cons (cv 2) pa_nil))))) pss_nil)
  (pss_cons (ps_if (pw_and (ptc (op_cEq hr.units) (pe_callB (call_cLen hr) (by rfl) (bl_len T) bt_len (pa_cons (cv 1) pa_nil)) pe_int (nomark _)) (pw_and (ptc (op_cEq hr.units) (pe_ix ix_c (cv 1) pe_int (fun _ _ => rfl)) pe_str (nomark _)) (pw_and1 (ptc (op_cEq hr.units) (pe_ix ix_c (cv 1) pe_int (fun _ _ => rfl)) pe_str (nomark _))))).pt (pss_cons (ps_set (i := 3) sc__read_line.nd rfl (Or.inl rfl) (pe_cCall (takes_of rfl rfl rfl rfl) (hr.mono (Nat.le_succ _)) (gf__read_condition T) (by rfl) (pa_cons (pe_ix ix_c (cv 1) pe_int (fun _ _ => rfl)) (pa_cons (pe_ix ix_c (cv 1) pe_int (fun _ _ => rfl)) (pa_cons (pe_ix ix_c (cv 1) pe_int (fun _ _ => rfl)) pa_nil)))))
  (pss_one (ps_if (ptc op_cIsNot (cv 3) pe_non (nomark _)) (pss_one (ps_ret (pe_tup (pa_cons (cv 3) (pa_cons (cv 2) pa_nil))))) pss_nil))) pss_nil)
  (pss_one (ps_ret pe_non)))))))
theorem ok__read_line {g : Wd} (T : Top g) {fd : FuncData} (F : FunD g.K "_read_line" "_read_line" (defArgs (top 40)) (defBody (top 40)) (defScope (top 40)) [] [] (gad g.K "_read_line") fd) {j : Nat} {sp : Sp} (h : ∀ vs H Q E, sp vs H Q E → vs.length = 1 ∧ rd__read_line g j E { nx := fun _ H1 => Q .non H1, rt := Q } (L2.start ["line", "words", "amount", "condition"] vs) H) : FnOk g.P g.w g.K g.mg g.base (L2.CX g.P g.w) (j + 2) (gad g.K "_read_line") fd ["line"] sp :=
  FunD.ok F sc__read_line (fun vs H Q E hh => (h vs H Q E hh).1) fun cdv A outer s H vs Q E hr hh => ⟨rd__read_line g j E, dv__read_line T hr, (h vs H Q E hh).2⟩
theorem fk__read_line {g : Wd} (T : Top g) (j : Nat) {sp : Sp} (h : ∀ vs H Q E, sp vs H Q E → vs.length = 1 ∧ rd__read_line g j E { nx := fun _ H1 => Q .non H1, rt := Q } (L2.start ["line", "words", "amount", "condition"] vs) H) : FnG g (j + 2) (gad g.K "_read_line") sp := by
  obtain ⟨fd, F⟩ := fd__read_line T
  exact fnG_of (ok__read_line T F h) (FunD.bindsN F fun _ _ _ _ _ _ us hl => match us, hl with | [_], _ => rfl)
theorem sc__read_rules : FnScope ["text", "rules", "number", "line", "rule"] ["text"] (defScope (top 41)) := ⟨rfl, rfl, rfl, by decide +kernel, rfl, by decide +kernel, by decide +kernel⟩
def rd__read_rules (g : Wd) (j : Nat) (E : XK) : TS :=
  tSeq (tAsg (tLst (tNil)) (gName 1))
  (tSeq (tFor (iEk g.K (tCons (cStrM mSplit (cV 0) (tCons (tC (.str "\n")) (tNil))) (tNil)) 1) (cgTup g.K 2 (cgCons (gName 2) (cgCons (gName 3) (cgNil)))) (tSeq (tAsg (cCall g j (fun cls d _ H => E cls d H) (gad g.K "_read_line") (tCons (cV 3) (tNil))) (gName 4))
  (tSeq (tIfS (cTest (tOp (cIsN false) (cV 4) (tC .non))) (cRaise (cRais g j (gad g.K "BadRule") (tCons (cV 2) (tNil))) (fun cls d _ H => E cls d H)) (tNext))
  (tDrop (cApp g.K (cV 1) (tCons (cV 4) (tNil)))))))
  (tRet (cV 1)))
theorem dv__read_rules {g : Wd} (T : Top g) {j : Nat} {f : Addr} {cdv : Value} {A : Around} {outer : List Env} {s : Shared} {H : Hp} {E : XK} (hr : Room (j + 1) (A.deeper (envOfC "_read_rules" (defScope (top 41)) s.heap.objs.size f cdv))) :
    PSs (cxOf (L2.CX g.P g.w) g.P g.w g.K g.mg g.base ["text", "rules", "number", "line", "rule"] "_read_rules" (defScope (top 41)) f cdv A outer s H E) (defBody (top 41)) (rd__read_rules g j E) := by
  unfold rd__read_rules
  exact (pss_cons (ps_set (i := 1) sc__read_rules.nd rfl (Or.inl rfl) (pe_lst pa_nil))
  (pss_cons (ps_for (passes_of rfl) rfl (pi_ek (by rfl) (bl_enumerate T) (pa_cons (pe_sm PySem.F.slot_str_split PySem.F.type_str_split m_split (cv 0) (pa_cons pe_str pa_nil)) pa_nil) (by decide) (by decide)) (pg_ctup rfl (pgs_ccons (pg_name sc__read_rules.nd rfl (Or.inl rfl)) (pgs_ccons (pg_name sc__read_rules.nd rfl (Or.inl rfl)) pgs_cnil))) (pss_cons (ps_set (i := 4) sc__read_rules.nd rfl (Or.inl rfl) (pe_cCall (takes_of rfl rfl rfl rfl) (hr.mono (Nat.le_succ _)) (gf__read_line T) (by rfl) (pa_cons (cv 3) pa_nil)))
  (pss_cons (ps_if (ptc op_cIs (cv 4) pe_non (nomark _)) (pss_one (ps_cRaise rfl (takes_of rfl rfl rfl rfl) (hr.mono (Nat.le_succ _)) (gf_BadRule T) (by rfl) (pa_cons (cv 2) pa_nil))) pss_nil)
  (pss_one (ps_expr (pe_cApp (cv 1) (pa_cons (cv 4) pa_nil)))))))
  (pss_one (ps_ret (cv 1)))))
theorem ok__read_rules {g : Wd} (T : Top g) {fd : FuncData} (F : FunD g.K "_read_rules" "_read_rules" (defArgs (top 41)) (defBody (top 41)) (defScope (top 41)) [] [] (gad g.K "_read_rules") fd) {j : Nat} {sp : Sp} (h : ∀ vs H Q E, sp vs H Q E → vs.length = 1 ∧ rd__read_rules g j E { nx := fun _ H1 => Q .non H1, rt := Q } (L2.start ["text", "rules", "number", "line", "rule"] vs) H) : FnOk g.P g.w g.K g.mg g.base (L2.CX g.P g.w) (j + 2) (gad g.K "_read_rules") fd ["text"] sp :=
  FunD.ok F sc__read_rules (fun vs H Q E hh => (h vs H Q E hh).1) fun cdv A outer s H vs Q E hr hh => ⟨rd__read_rules g j E, dv__read_rules T hr, (h vs H Q E hh).2⟩
theorem fk__read_rules {g : Wd} (T : Top g) (j : Nat) {sp : Sp} (h : ∀ vs H Q E, sp vs H Q E → vs.length = 1 ∧ rd__read_rules g j E { nx := fun _ H1 => Q .non H1, rt := Q } (L2.start ["text", "rules", "number", "line", "rule"] vs) H) : FnG g (j + 2) (gad g.K "_read_rules") sp := by
  obtain ⟨fd, F⟩ := fd__read_rules T
  exact fnG_of (ok__read_rules T F h) (FunD.bindsN F fun _ _ _ _ _ _ us hl => match us, hl with | [_], _ => rfl)
theorem sc__fact : FnScope ["name", "word", "places", "budget", "behind"] ["name", "word", "places", "budget"] (defScope (top 42)) := ⟨rfl, rfl, rfl, by decide +kernel, rfl, by decide +kernel, by decide +kernel⟩
def rd__fact (g : Wd) (j : Nat) (E : XK) : TS :=
  tSeq (tIfS (cTest (tOp (cEqN g.K false) (cV 0) (tC (.str "free")))) (tRet (tOp cSub (cV 2) (tCB (cLen g j) (tCons (cV 1) (tNil))))) (tNext))
  (tSeq (tIfS (cTest (tOp (cEqN g.K false) (cV 0) (tC (.str "living")))) (tRet (cCall g j (fun cls d _ H => E cls d H) (gad g.K "living") (tCons (cV 1) (tNil)))) (tNext))
  (tSeq (tIfS (cTest (tOp (cEqN g.K false) (cV 0) (tC (.str "dead")))) (tRet (tOp cSub (tCB (cLen g j) (tCons (cV 1) (tNil))) (cCall g j (fun cls d _ H => E cls d H) (gad g.K "living") (tCons (cV 1) (tNil))))) (tNext))
  (tSeq (tIfS (cTest (tOp (cEqN g.K false) (cV 0) (tC (.str "gap")))) (tSeq (tAsg (tSl (cSl g.K) (cV 1) (cPart (tC (.int 1))) (tNoPart)) (gName 4))
  (tRet (tOp cSub (tCB (cLen g j) (tCons (cV 4) (tNil))) (tCB (cLen g j) (tCons (cStrM mLstrip (cV 4) (tCons (tC (.str "0")) (tNil))) (tNil)))))) (tNext))
  (tRet (cV 3)))))
theorem dv__fact {g : Wd} (T : Top g) {j : Nat} {f : Addr} {cdv : Value} {A : Around} {outer : List Env} {s : Shared} {H : Hp} {E : XK} (hr : Room (j + 1) (A.deeper (envOfC "_fact" (defScope (top 42)) s.heap.objs.size f cdv))) :
    PSs (cxOf (L2.CX g.P g.w) g.P g.w g.K g.mg g.base ["name", "word", "places", "budget", "behind"] "_fact" (defScope (top 42)) f cdv A outer s H E) (defBody (top 42)) (rd__fact g j E) := by
  unfold rd__fact
  exact (pss_cons (ps_if (ptc (op_cEq hr.units) (cv 0) pe_str (nomark _)) (pss_one (ps_ret (pe_op op_cSub (cv 2) (pe_callB (call_cLen hr) (by rfl) (bl_len T) bt_len (pa_cons (cv 1) pa_nil))))) pss_nil)
  (pss_cons (ps_if (ptc (op_cEq hr.units) (cv 0) pe_str (nomark _)) (pss_one (ps_ret (pe_cCall (takes_of rfl rfl rfl rfl) (hr.mono (Nat.le_succ _)) (gf_living T) (by rfl) (pa_cons (cv 1) pa_nil)))) pss_nil)
  (pss_cons (ps_if (ptc (op_cEq hr.units) (cv 0) pe_str (nomark _)) (pss_one (ps_ret (pe_op op_cSub (pe_callB (call_cLen hr) (by rfl) (bl_len T) bt_len (pa_cons (cv 1) pa_nil)) (pe_cCall (takes_of rfl rfl rfl rfl) (hr.mono (Nat.le_succ _)) (gf_living T) (by rfl) (pa_cons (cv 1) pa_nil))))) pss_nil)
  (pss_cons (ps_if (ptc (op_cEq hr.units) (cv 0) pe_str (nomark _)) (pss_cons (ps_set (i := 4) sc__fact.nd rfl (Or.inl rfl) (pe_slice sl_c (cv 1) (po_c pe_int) po_none))
  (pss_one (ps_ret (pe_op op_cSub (pe_callB (call_cLen hr) (by rfl) (bl_len T) bt_len (pa_cons (cv 4) pa_nil)) (pe_callB (call_cLen hr) (by rfl) (bl_len T) bt_len (pa_cons (pe_sm PySem.F.slot_str_lstrip PySem.F.type_str_lstrip m_lstrip (cv 4) (pa_cons pe_str pa_nil)) pa_nil)))))) pss_nil)
  (pss_one (ps_ret (cv 3)))))))
theorem ok__fact {g : Wd} (T : Top g) {fd : FuncData} (F : FunD g.K "_fact" "_fact" (defArgs (top 42)) (defBody (top 42)) (defScope (top 42)) [] [] (gad g.K "_fact") fd) {j : Nat} {sp : Sp} (h : ∀ vs H Q E, sp vs H Q E → vs.length = 4 ∧ rd__fact g j E { nx := fun _ H1 => Q .non H1, rt := Q } (L2.start ["name", "word", "places", "budget", "behind"] vs) H) : FnOk g.P g.w g.K g.mg g.base (L2.CX g.P g.w) (j + 2) (gad g.K "_fact") fd ["name", "word", "places", "budget"] sp :=
  FunD.ok F sc__fact (fun vs H Q E hh => (h vs H Q E hh).1) fun cdv A outer s H vs Q E hr hh => ⟨rd__fact g j E, dv__fact T hr, (h vs H Q E hh).2⟩
theorem fk__fact {g : Wd} (T : Top g) (j : Nat) {sp : Sp} (h : ∀ vs H Q E, sp vs H Q E → vs.length = 4 ∧ rd__fact g j E { nx := fun _ H1 => Q .non H1, rt := Q } (L2.start ["name", "word", "places", "budget", "behind"] vs) H) : FnG g (j + 2) (gad g.K "_fact") sp := by
  obtain ⟨fd, F⟩ := fd__fact T
  exact fnG_of (ok__fact T F h) (FunD.bindsN F fun _ _ _ _ _ _ us hl => match us, hl with | [_, _, _, _], _ => rfl)
theorem sc__applies : FnScope ["condition", "word", "places", "budget", "name", "sign", "number", "fact"] ["condition", "word", "places", "budget"] (defScope (top 43)) := ⟨rfl, rfl, rfl, by decide +kernel, rfl, by decide +kernel, by decide +kernel⟩
def rd__applies (g : Wd) (j : Nat) (E : XK) : TS :=
  tSeq (tIfS (cTest (tOp (cEqN g.K false) (cV 0) (tTup (tNil)))) (tRet (tC (.bl true))) (tNext))
  (tSeq (tAsg (cV 0) (cgTup g.K 3 (cgCons (gName 4) (cgCons (gName 5) (cgCons (gName 6) (cgNil))))))
  (tSeq (tAsg (cCall g j (fun cls d _ H => E cls d H) (gad g.K "_fact") (tCons (cV 4) (tCons (cV 1) (tCons (cV 2) (tCons (cV 3) (tNil)))))) (gName 7))
  (tSeq (tIfS (cTest (tOp (cEqN g.K false) (cV 5) (tC (.str "<=")))) (tRet (tOp cLe (cV 7) (cV 6))) (tNext))
  (tSeq (tIfS (cTest (tOp (cEqN g.K false) (cV 5) (tC (.str ">=")))) (tRet (tOp cGe (cV 7) (cV 6))) (tNext))
  (tRet (tOp (cEqN g.K false) (cV 7) (cV 6)))))))
theorem dv__applies {g : Wd} (T : Top g) {j : Nat} {f : Addr} {cdv : Value} {A : Around} {outer : List Env} {s : Shared} {H : Hp} {E : XK} (hr : Room (j + 1) (A.deeper (envOfC "_applies" (defScope (top 43)) s.heap.objs.size f cdv))) :
    PSs (cxOf (L2.CX g.P g.w) g.P g.w g.K g.mg g.base ["condition", "word", "places", "budget", "name", "sign", "number", "fact"] "_applies" (defScope (top 43)) f cdv A outer s H E) (defBody (top 43)) (rd__applies g j E) := by
  unfold rd__applies
  exact (pss_cons (ps_if (ptc (op_cEq hr.units) (cv 0) (pe_tup pa_nil) (nomark _)) (pss_one (ps_ret pe_bl)) pss_nil)
  (pss_cons (ps_asg (cv 0) (pg_ctup rfl (pgs_ccons (pg_name sc__applies.nd rfl (Or.inl rfl)) (pgs_ccons (pg_name sc__applies.nd rfl (Or.inl rfl)) (pgs_ccons (pg_name sc__applies.nd rfl (Or.inl rfl)) pgs_cnil)))))
  (pss_cons (ps_set (i := 7) sc__applies.nd rfl (Or.inl rfl) (pe_cCall (takes_of rfl rfl rfl rfl) (hr.mono (Nat.le_succ _)) (gf__fact T) (by rfl) (pa_cons (cv 4) (pa_cons (cv 1) (pa_cons (cv 2) (pa_cons (cv 3) pa_nil))))))
  (pss_cons (ps_if (ptc (op_cEq hr.units) (cv 5) pe_str (nomark _)) (pss_one (ps_ret (pe_cmpR op_cLe (cv 7) (cv 6) (nomark _)))) pss_nil)
  (pss_cons (ps_if (ptc (op_cEq hr.units) (cv 5) pe_str (nomark _)) (pss_one (ps_ret (pe_cmpR op_cGe (cv 7) (cv 6) (nomark _)))) pss_nil)
  (pss_one (ps_ret (pe_cmpR (op_cEq hr.units) (cv 7) (cv 6) (nomark _)))))))))
theorem ok__applies {g : Wd} (T : Top g) {fd : FuncData} (F : FunD g.K "_applies" "_applies" (defArgs (top 43)) (defBody (top 43)) (defScope (top 43)) [] [] (gad g.K "_applies") fd) {j : Nat} {sp : Sp} (h : ∀ vs H Q E, sp vs H Q E → vs.length = 4 ∧ rd__applies g j E { nx := fun _ H1 => Q .non H1, rt := Q } (L2.start ["condition", "word", "places", "budget", "name", "sign", "number", "fact"] vs) H) : FnOk g.P g.w g.K g.mg g.base (L2.CX g.P g.w) (j + 2) (gad g.K "_applies") fd ["condition", "word", "places", "budget"] sp :=
  FunD.ok F sc__applies (fun vs H Q E hh => (h vs H Q E hh).1) fun cdv A outer s H vs Q E hr hh => ⟨rd__applies g j E, dv__applies T hr, (h vs H Q E hh).2⟩
theorem fk__applies {g : Wd} (T : Top g) (j : Nat) {sp : Sp} (h : ∀ vs H Q E, sp vs H Q E → vs.length = 4 ∧ rd__applies g j E { nx := fun _ H1 => Q .non H1, rt := Q } (L2.start ["condition", "word", "places", "budget", "name", "sign", "number", "fact"] vs) H) : FnG g (j + 2) (gad g.K "_applies") sp := by
  obtain ⟨fd, F⟩ := fd__applies T
  exact fnG_of (ok__applies T F h) (FunD.bindsN F fun _ _ _ _ _ _ us hl => match us, hl with | [_, _, _, _], _ => rfl)
theorem sc_Keeper_choose : FnScope ["self", "word", "places", "budgets", "phase"] ["self", "word", "places", "budgets", "phase"] (defScope (inClass (top 44) 0)) := ⟨rfl, rfl, rfl, by decide +kernel, rfl, by decide +kernel, by decide +kernel⟩
def rd_Keeper_choose (g : Wd) (j : Nat) (E : XK) : TS :=
  tSeq (tDrop (cCall g j (fun cls d _ H => E cls d H) (gad g.K "_check_moment") (tCons (cV 1) (tCons (cV 2) (tCons (cV 4) (tNil))))))
  (tRet (tC (.int 0)))
theorem dv_Keeper_choose {g : Wd} (T : Top g) {j : Nat} {f : Addr} {cdv : Value} {A : Around} {outer : List Env} {s : Shared} {H : Hp} {E : XK} (hr : Room (j + 1) (A.deeper (envOfC "Keeper.choose" (defScope (inClass (top 44) 0)) s.heap.objs.size f cdv))) :
    PSs (cxOf (L2.CX g.P g.w) g.P g.w g.K g.mg g.base ["self", "word", "places", "budgets", "phase"] "Keeper.choose" (defScope (inClass (top 44) 0)) f cdv A outer s H E) (defBody (inClass (top 44) 0)) (rd_Keeper_choose g j E) := by
  unfold rd_Keeper_choose
  exact (pss_cons (ps_expr (pe_cCall (takes_of rfl rfl rfl rfl) (hr.mono (Nat.le_succ _)) (gf__check_moment T) (by rfl) (pa_cons (cv 1) (pa_cons (cv 2) (pa_cons (cv 4) pa_nil)))))
  (pss_one (ps_ret pe_int)))
theorem ok_Keeper_choose {g : Wd} (T : Top g) {fd : FuncData} (F : FunD g.K "choose" "Keeper.choose" (defArgs (inClass (top 44) 0)) (defBody (inClass (top 44) 0)) (defScope (inClass (top 44) 0)) [] [] (mad g.K (gad g.K "Keeper") "choose") fd) {j : Nat} {sp : Sp} (h : ∀ vs H Q E, sp vs H Q E → vs.length = 5 ∧ rd_Keeper_choose g j E { nx := fun _ H1 => Q .non H1, rt := Q } (L2.start ["self", "word", "places", "budgets", "phase"] vs) H) : FnOk g.P g.w g.K g.mg g.base (L2.CX g.P g.w) (j + 2) (mad g.K (gad g.K "Keeper") "choose") fd ["self", "word", "places", "budgets", "phase"] sp :=
  FunD.ok F sc_Keeper_choose (fun vs H Q E hh => (h vs H Q E hh).1) fun cdv A outer s H vs Q E hr hh => ⟨rd_Keeper_choose g j E, dv_Keeper_choose T hr, (h vs H Q E hh).2⟩
theorem fk_Keeper_choose {g : Wd} (T : Top g) (j : Nat) {sp : Sp} (h : ∀ vs H Q E, sp vs H Q E → vs.length = 5 ∧ rd_Keeper_choose g j E { nx := fun _ H1 => Q .non H1, rt := Q } (L2.start ["self", "word", "places", "budgets", "phase"] vs) H) : FnG g (j + 2) (mad g.K (gad g.K "Keeper") "choose") sp := by
  obtain ⟨fd, F⟩ := fd_Keeper_choose T
  exact fnG_of (ok_Keeper_choose T F h) (FunD.bindsN F fun _ _ _ _ _ _ us hl => match us, hl with | [_, _, _, _, _], _ => rfl)
theorem sc_Keeper_label : FnScope ["self"] ["self"] (defScope (inClass (top 44) 1)) := ⟨rfl, rfl, rfl, by decide +kernel, rfl, by decide +kernel, by decide +kernel⟩
def rd_Keeper_label (g : Wd) (j : Nat) (E : XK) : TS :=
  tRet (tC (.str "rest"))
theorem dv_Keeper_label {g : Wd} (T : Top g) {j : Nat} {f : Addr} {cdv : Value} {A : Around} {outer : List Env} {s : Shared} {H : Hp} {E : XK} (hr : Room (j + 1) (A.deeper (envOfC "Keeper.label" (defScope (inClass (top 44) 1)) s.heap.objs.size f cdv))) :
    PSs (cxOf (L2.CX g.P g.w) g.P g.w g.K g.mg g.base ["self"] "Keeper.label" (defScope (inClass (top 44) 1)) f cdv A outer s H E) (defBody (inClass (top 44) 1)) (rd_Keeper_label g j E) := by
  unfold rd_Keeper_label
  exact (pss_one (ps_ret pe_str))
theorem ok_Keeper_label {g : Wd} (T : Top g) {fd : FuncData} (F : FunD g.K "label" "Keeper.label" (defArgs (inClass (top 44) 1)) (defBody (inClass (top 44) 1)) (defScope (inClass (top 44) 1)) [] [] (mad g.K (gad g.K "Keeper") "label") fd) {j : Nat} {sp : Sp} (h : ∀ vs H Q E, sp vs H Q E → vs.length = 1 ∧ rd_Keeper_label g j E { nx := fun _ H1 => Q .non H1, rt := Q } (L2.start ["self"] vs) H) : FnOk g.P g.w g.K g.mg g.base (L2.CX g.P g.w) (j + 2) (mad g.K (gad g.K "Keeper") "label") fd ["self"] sp :=
  FunD.ok F sc_Keeper_label (fun vs H Q E hh => (h vs H Q E hh).1) fun cdv A outer s H vs Q E hr hh => ⟨rd_Keeper_label g j E, dv_Keeper_label T hr, (h vs H Q E hh).2⟩
theorem fk_Keeper_label {g : Wd} (T : Top g) (j : Nat) {sp : Sp} (h : ∀ vs H Q E, sp vs H Q E → vs.length = 1 ∧ rd_Keeper_label g j E { nx := fun _ H1 => Q .non H1, rt := Q } (L2.start ["self"] vs) H) : FnG g (j + 2) (mad g.K (gad g.K "Keeper") "label") sp := by
  obtain ⟨fd, F⟩ := fd_Keeper_label T
  exact fnG_of (ok_Keeper_label T F h) (FunD.bindsN F fun _ _ _ _ _ _ us hl => match us, hl with | [_], _ => rfl)
theorem sc_Greedy_choose : FnScope ["self", "word", "places", "budgets", "phase"] ["self", "word", "places", "budgets", "phase"] (defScope (inClass (top 45) 0)) := ⟨rfl, rfl, rfl, by decide +kernel, rfl, by decide +kernel, by decide +kernel⟩
def rd_Greedy_choose (g : Wd) (j : Nat) (E : XK) : TS :=
  tSeq (tDrop (cCall g j (fun cls d _ H => E cls d H) (gad g.K "_check_moment") (tCons (cV 1) (tCons (cV 2) (tCons (cV 4) (tNil))))))
  (tRet (cCall g j (fun cls d _ H => E cls d H) (gad g.K "_most_allowed") (tCons (cV 1) (tCons (cV 2) (tCons (cV 3) (tCons (cV 4) (tNil)))))))
theorem dv_Greedy_choose {g : Wd} (T : Top g) {j : Nat} {f : Addr} {cdv : Value} {A : Around} {outer : List Env} {s : Shared} {H : Hp} {E : XK} (hr : Room (j + 1) (A.deeper (envOfC "Greedy.choose" (defScope (inClass (top 45) 0)) s.heap.objs.size f cdv))) :
    PSs (cxOf (L2.CX g.P g.w) g.P g.w g.K g.mg g.base ["self", "word", "places", "budgets", "phase"] "Greedy.choose" (defScope (inClass (top 45) 0)) f cdv A outer s H E) (defBody (inClass (top 45) 0)) (rd_Greedy_choose g j E) := by
  unfold rd_Greedy_choose
  exact (pss_cons (ps_expr (pe_cCall (takes_of rfl rfl rfl rfl) (hr.mono (Nat.le_succ _)) (gf__check_moment T) (by rfl) (pa_cons (cv 1) (pa_cons (cv 2) (pa_cons (cv 4) pa_nil)))))
  (pss_one (ps_ret (pe_cCall (takes_of rfl rfl rfl rfl) (hr.mono (Nat.le_succ _)) (gf__most_allowed T) (by rfl) (pa_cons (cv 1) (pa_cons (cv 2) (pa_cons (cv 3) (pa_cons (cv 4) pa_nil))))))))
theorem ok_Greedy_choose {g : Wd} (T : Top g) {fd : FuncData} (F : FunD g.K "choose" "Greedy.choose" (defArgs (inClass (top 45) 0)) (defBody (inClass (top 45) 0)) (defScope (inClass (top 45) 0)) [] [] (mad g.K (gad g.K "Greedy") "choose") fd) {j : Nat} {sp : Sp} (h : ∀ vs H Q E, sp vs H Q E → vs.length = 5 ∧ rd_Greedy_choose g j E { nx := fun _ H1 => Q .non H1, rt := Q } (L2.start ["self", "word", "places", "budgets", "phase"] vs) H) : FnOk g.P g.w g.K g.mg g.base (L2.CX g.P g.w) (j + 2) (mad g.K (gad g.K "Greedy") "choose") fd ["self", "word", "places", "budgets", "phase"] sp :=
  FunD.ok F sc_Greedy_choose (fun vs H Q E hh => (h vs H Q E hh).1) fun cdv A outer s H vs Q E hr hh => ⟨rd_Greedy_choose g j E, dv_Greedy_choose T hr, (h vs H Q E hh).2⟩
theorem fk_Greedy_choose {g : Wd} (T : Top g) (j : Nat) {sp : Sp} (h : ∀ vs H Q E, sp vs H Q E → vs.length = 5 ∧ rd_Greedy_choose g j E { nx := fun _ H1 => Q .non H1, rt := Q } (L2.start ["self", "word", "places", "budgets", "phase"] vs) H) : FnG g (j + 2) (mad g.K (gad g.K "Greedy") "choose") sp := by
  obtain ⟨fd, F⟩ := fd_Greedy_choose T
  exact fnG_of (ok_Greedy_choose T F h) (FunD.bindsN F fun _ _ _ _ _ _ us hl => match us, hl with | [_, _, _, _, _], _ => rfl)
theorem sc_Greedy_label : FnScope ["self"] ["self"] (defScope (inClass (top 45) 1)) := ⟨rfl, rfl, rfl, by decide +kernel, rfl, by decide +kernel, by decide +kernel⟩
def rd_Greedy_label (g : Wd) (j : Nat) (E : XK) : TS :=
  tRet (tC (.str "greedy"))
theorem dv_Greedy_label {g : Wd} (T : Top g) {j : Nat} {f : Addr} {cdv : Value} {A : Around} {outer : List Env} {s : Shared} {H : Hp} {E : XK} (hr : Room (j + 1) (A.deeper (envOfC "Greedy.label" (defScope (inClass (top 45) 1)) s.heap.objs.size f cdv))) :
    PSs (cxOf (L2.CX g.P g.w) g.P g.w g.K g.mg g.base ["self"] "Greedy.label" (defScope (inClass (top 45) 1)) f cdv A outer s H E) (defBody (inClass (top 45) 1)) (rd_Greedy_label g j E) := by
  unfold rd_Greedy_label
  exact (pss_one (ps_ret pe_str))
theorem ok_Greedy_label {g : Wd} (T : Top g) {fd : FuncData} (F : FunD g.K "label" "Greedy.label" (defArgs (inClass (top 45) 1)) (defBody (inClass (top 45) 1)) (defScope (inClass (top 45) 1)) [] [] (mad g.K (gad g.K "Greedy") "label") fd) {j : Nat} {sp : Sp} (h : ∀ vs H Q E, sp vs H Q E → vs.length = 1 ∧ rd_Greedy_label g j E { nx := fun _ H1 => Q .non H1, rt := Q } (L2.start ["self"] vs) H) : FnOk g.P g.w g.K g.mg g.base (L2.CX g.P g.w) (j + 2) (mad g.K (gad g.K "Greedy") "label") fd ["self"] sp :=
  FunD.ok F sc_Greedy_label (fun vs H Q E hh => (h vs H Q E hh).1) fun cdv A outer s H vs Q E hr hh => ⟨rd_Greedy_label g j E, dv_Greedy_label T hr, (h vs H Q E hh).2⟩
theorem fk_Greedy_label {g : Wd} (T : Top g) (j : Nat) {sp : Sp} (h : ∀ vs H Q E, sp vs H Q E → vs.length = 1 ∧ rd_Greedy_label g j E { nx := fun _ H1 => Q .non H1, rt := Q } (L2.start ["self"] vs) H) : FnG g (j + 2) (mad g.K (gad g.K "Greedy") "label") sp := by
  obtain ⟨fd, F⟩ := fd_Greedy_label T
  exact fnG_of (ok_Greedy_label T F h) (FunD.bindsN F fun _ _ _ _ _ _ us hl => match us, hl with | [_], _ => rfl)
theorem sc_Lazy_init_ : FnScope ["self", "mark"] ["self", "mark"] (defScope (inClass (top 46) 0)) := ⟨rfl, rfl, rfl, by decide +kernel, rfl, by decide +kernel, by decide +kernel⟩
def rd_Lazy_init_ (g : Wd) (j : Nat) (E : XK) : TS :=
  tSeq (tDrop (cCall g j (fun cls d _ H => E cls d H) (gad g.K "at_least") (tCons (cV 1) (tCons (tC (.int 0)) (tCons (tC (.str "mark")) (tNil))))))
  (cSetF g.K (cV 0) (cV 1) "_mark")
theorem dv_Lazy_init_ {g : Wd} (T : Top g) {j : Nat} {f : Addr} {cdv : Value} {A : Around} {outer : List Env} {s : Shared} {H : Hp} {E : XK} (hr : Room (j + 1) (A.deeper (envOfC "Lazy.__init__" (defScope (inClass (top 46) 0)) s.heap.objs.size f cdv))) :
    PSs (cxOf (L2.CX g.P g.w) g.P g.w g.K g.mg g.base ["self", "mark"] "Lazy.__init__" (defScope (inClass (top 46) 0)) f cdv A outer s H E) (defBody (inClass (top 46) 0)) (rd_Lazy_init_ g j E) := by
  unfold rd_Lazy_init_
  exact (pss_cons (ps_expr (pe_cCall (takes_of rfl rfl rfl rfl) (hr.mono (Nat.le_succ _)) (gf_at_least T) (by rfl) (pa_cons (cv 1) (pa_cons pe_int (pa_cons pe_str pa_nil)))))
  (pss_one (ps_cSetF (cv 0) (cv 1))))
theorem ok_Lazy_init_ {g : Wd} (T : Top g) {fd : FuncData} (F : FunD g.K "__init__" "Lazy.__init__" (defArgs (inClass (top 46) 0)) (defBody (inClass (top 46) 0)) (defScope (inClass (top 46) 0)) [] [] (mad g.K (gad g.K "Lazy") "__init__") fd) {j : Nat} {sp : Sp} (h : ∀ vs H Q E, sp vs H Q E → vs.length = 2 ∧ rd_Lazy_init_ g j E { nx := fun _ H1 => Q .non H1, rt := Q } (L2.start ["self", "mark"] vs) H) : FnOk g.P g.w g.K g.mg g.base (L2.CX g.P g.w) (j + 2) (mad g.K (gad g.K "Lazy") "__init__") fd ["self", "mark"] sp :=
  FunD.ok F sc_Lazy_init_ (fun vs H Q E hh => (h vs H Q E hh).1) fun cdv A outer s H vs Q E hr hh => ⟨rd_Lazy_init_ g j E, dv_Lazy_init_ T hr, (h vs H Q E hh).2⟩
theorem fk_Lazy_init_ {g : Wd} (T : Top g) (j : Nat) {sp : Sp} (h : ∀ vs H Q E, sp vs H Q E → vs.length = 2 ∧ rd_Lazy_init_ g j E { nx := fun _ H1 => Q .non H1, rt := Q } (L2.start ["self", "mark"] vs) H) : FnG g (j + 2) (mad g.K (gad g.K "Lazy") "__init__") sp := by
  obtain ⟨fd, F⟩ := fd_Lazy_init_ T
  exact fnG_of (ok_Lazy_init_ T F h) (FunD.bindsN F fun _ _ _ _ _ _ us hl => match us, hl with | [_, _], _ => rfl)
theorem sc_Lazy_mark : FnScope ["self"] ["self"] (defScope (inClass (top 46) 1)) := ⟨rfl, rfl, rfl, by decide +kernel, rfl, by decide +kernel, by decide +kernel⟩
def rd_Lazy_mark (g : Wd) (j : Nat) (E : XK) : TS :=
  tRet (cFld g.K (cV 0) "_mark")
theorem dv_Lazy_mark {g : Wd} (T : Top g) {j : Nat} {f : Addr} {cdv : Value} {A : Around} {outer : List Env} {s : Shared} {H : Hp} {E : XK} (hr : Room (j + 1) (A.deeper (envOfC "Lazy.mark" (defScope (inClass (top 46) 1)) s.heap.objs.size f cdv))) :
    PSs (cxOf (L2.CX g.P g.w) g.P g.w g.K g.mg g.base ["self"] "Lazy.mark" (defScope (inClass (top 46) 1)) f cdv A outer s H E) (defBody (inClass (top 46) 1)) (rd_Lazy_mark g j E) := by
  unfold rd_Lazy_mark
  exact (pss_one (ps_ret (pe_cFld (cv 0))))
theorem ok_Lazy_mark {g : Wd} (T : Top g) {fd : FuncData} (F : FunD g.K "mark" "Lazy.mark" (defArgs (inClass (top 46) 1)) (defBody (inClass (top 46) 1)) (defScope (inClass (top 46) 1)) [] [] (pgt g.K "Lazy" "mark") fd) {j : Nat} {sp : Sp} (h : ∀ vs H Q E, sp vs H Q E → vs.length = 1 ∧ rd_Lazy_mark g j E { nx := fun _ H1 => Q .non H1, rt := Q } (L2.start ["self"] vs) H) : FnOk g.P g.w g.K g.mg g.base (L2.CX g.P g.w) (j + 2) (pgt g.K "Lazy" "mark") fd ["self"] sp :=
  FunD.ok F sc_Lazy_mark (fun vs H Q E hh => (h vs H Q E hh).1) fun cdv A outer s H vs Q E hr hh => ⟨rd_Lazy_mark g j E, dv_Lazy_mark T hr, (h vs H Q E hh).2⟩
theorem fk_Lazy_mark {g : Wd} (T : Top g) (j : Nat) {sp : Sp} (h : ∀ vs H Q E, sp vs H Q E → vs.length = 1 ∧ rd_Lazy_mark g j E { nx := fun _ H1 => Q .non H1, rt := Q } (L2.start ["self"] vs) H) : FnG g (j + 2) (pgt g.K "Lazy" "mark") sp := by
  obtain ⟨fd, F⟩ := fd_Lazy_mark T
  exact fnG_of (ok_Lazy_mark T F h) (FunD.bindsN F fun _ _ _ _ _ _ us hl => match us, hl with | [_], _ => rfl)
theorem sc_Lazy_set_mark : FnScope ["self", "mark"] ["self", "mark"] (defScope (inClass (top 46) 3)) := ⟨rfl, rfl, rfl, by decide +kernel, rfl, by decide +kernel, by decide +kernel⟩
def rd_Lazy_set_mark (g : Wd) (j : Nat) (E : XK) : TS :=
  tSeq (tDrop (cCall g j (fun cls d _ H => E cls d H) (gad g.K "at_least") (tCons (cV 1) (tCons (tC (.int 0)) (tCons (tC (.str "mark")) (tNil))))))
  (cSetF g.K (cV 0) (cV 1) "_mark")
theorem dv_Lazy_set_mark {g : Wd} (T : Top g) {j : Nat} {f : Addr} {cdv : Value} {A : Around} {outer : List Env} {s : Shared} {H : Hp} {E : XK} (hr : Room (j + 1) (A.deeper (envOfC "Lazy.set_mark" (defScope (inClass (top 46) 3)) s.heap.objs.size f cdv))) :
    PSs (cxOf (L2.CX g.P g.w) g.P g.w g.K g.mg g.base ["self", "mark"] "Lazy.set_mark" (defScope (inClass (top 46) 3)) f cdv A outer s H E) (defBody (inClass (top 46) 3)) (rd_Lazy_set_mark g j E) := by
  unfold rd_Lazy_set_mark
  exact (pss_cons (ps_expr (pe_cCall (takes_of rfl rfl rfl rfl) (hr.mono (Nat.le_succ _)) (gf_at_least T) (by rfl) (pa_cons (cv 1) (pa_cons pe_int (pa_cons pe_str pa_nil)))))
  (pss_one (ps_cSetF (cv 0) (cv 1))))
theorem ok_Lazy_set_mark {g : Wd} (T : Top g) {fd : FuncData} (F : FunD g.K "set_mark" "Lazy.set_mark" (defArgs (inClass (top 46) 3)) (defBody (inClass (top 46) 3)) (defScope (inClass (top 46) 3)) [] [] (mad g.K (gad g.K "Lazy") "set_mark") fd) {j : Nat} {sp : Sp} (h : ∀ vs H Q E, sp vs H Q E → vs.length = 2 ∧ rd_Lazy_set_mark g j E { nx := fun _ H1 => Q .non H1, rt := Q } (L2.start ["self", "mark"] vs) H) : FnOk g.P g.w g.K g.mg g.base (L2.CX g.P g.w) (j + 2) (mad g.K (gad g.K "Lazy") "set_mark") fd ["self", "mark"] sp :=
  FunD.ok F sc_Lazy_set_mark (fun vs H Q E hh => (h vs H Q E hh).1) fun cdv A outer s H vs Q E hr hh => ⟨rd_Lazy_set_mark g j E, dv_Lazy_set_mark T hr, (h vs H Q E hh).2⟩
theorem fk_Lazy_set_mark {g : Wd} (T : Top g) (j : Nat) {sp : Sp} (h : ∀ vs H Q E, sp vs H Q E → vs.length = 2 ∧ rd_Lazy_set_mark g j E { nx := fun _ H1 => Q .non H1, rt := Q } (L2.start ["self", "mark"] vs) H) : FnG g (j + 2) (mad g.K (gad g.K "Lazy") "set_mark") sp := by
  obtain ⟨fd, F⟩ := fd_Lazy_set_mark T
  exact fnG_of (ok_Lazy_set_mark T F h) (FunD.bindsN F fun _ _ _ _ _ _ us hl => match us, hl with | [_, _], _ => rfl)
theorem sc_Lazy_choose : FnScope ["self", "word", "places", "budgets", "phase"] ["self", "word", "places", "budgets", "phase"] (defScope (inClass (top 46) 4)) := ⟨rfl, rfl, rfl, by decide +kernel, rfl, by decide +kernel, by decide +kernel⟩
def rd_Lazy_choose (g : Wd) (j : Nat) (E : XK) : TS :=
  tSeq (tDrop (cCall g j (fun cls d _ H => E cls d H) (gad g.K "_check_moment") (tCons (cV 1) (tCons (cV 2) (tCons (cV 4) (tNil))))))
  (tSeq (tIfS (cTest (tOp cGt (tOp cSub (cV 2) (tCB (cLen g j) (tCons (cV 1) (tNil)))) (cFld g.K (cV 0) "_mark"))) (tRet (tC (.int 0))) (tNext))
  (tRet (cCall g j (fun cls d _ H => E cls d H) (gad g.K "_most_allowed") (tCons (cV 1) (tCons (cV 2) (tCons (cV 3) (tCons (cV 4) (tNil))))))))
theorem dv_Lazy_choose {g : Wd} (T : Top g) {j : Nat} {f : Addr} {cdv : Value} {A : Around} {outer : List Env} {s : Shared} {H : Hp} {E : XK} (hr : Room (j + 1) (A.deeper (envOfC "Lazy.choose" (defScope (inClass (top 46) 4)) s.heap.objs.size f cdv))) :
    PSs (cxOf (L2.CX g.P g.w) g.P g.w g.K g.mg g.base ["self", "word", "places", "budgets", "phase"] "Lazy.choose" (defScope (inClass (top 46) 4)) f cdv A outer s H E) (defBody (inClass (top 46) 4)) (rd_Lazy_choose g j E) := by
  unfold rd_Lazy_choose
  exact (pss_cons (ps_expr (pe_cCall (takes_of rfl rfl rfl rfl) (hr.mono (Nat.le_succ _)) (gf__check_moment T) (by rfl) (pa_cons (cv 1) (pa_cons (cv 2) (pa_cons (cv 4) pa_nil)))))
  (pss_cons (ps_if (ptc op_cGt (pe_op op_cSub (cv 2) (pe_callB (call_cLen hr) (by rfl) (bl_len T) bt_len (pa_cons (cv 1) pa_nil))) (pe_cFld (cv 0)) (nomark _)) (pss_one (ps_ret pe_int)) pss_nil)
  (pss_one (ps_ret (pe_cCall (takes_of rfl rfl rfl rfl) (hr.mono (Nat.le_succ _)) (gf__most_allowed T) (by rfl) (pa_cons (cv 1) (pa_cons (cv 2) (pa_cons (cv 3) (pa_cons (cv 4) pa_nil)))))))))
theorem ok_Lazy_choose {g : Wd} (T : Top g) {fd : FuncData} (F : FunD g.K "choose" "Lazy.choose" (defArgs (inClass (top 46) 4)) (defBody (inClass (top 46) 4)) (defScope (inClass (top 46) 4)) [] [] (mad g.K (gad g.K "Lazy") "choose") fd) {j : Nat} {sp : Sp} (h : ∀ vs H Q E, sp vs H Q E → vs.length = 5 ∧ rd_Lazy_choose g j E { nx := fun _ H1 => Q .non H1, rt := Q } (L2.start ["self", "word", "places", "budgets", "phase"] vs) H) : FnOk g.P g.w g.K g.mg g.base (L2.CX g.P g.w) (j + 2) (mad g.K (gad g.K "Lazy") "choose") fd ["self", "word", "places", "budgets", "phase"] sp :=
  FunD.ok F sc_Lazy_choose (fun vs H Q E hh => (h vs H Q E hh).1) fun cdv A outer s H vs Q E hr hh => ⟨rd_Lazy_choose g j E, dv_Lazy_choose T hr, (h vs H Q E hh).2⟩
theorem fk_Lazy_choose {g : Wd} (T : Top g) (j : Nat) {sp : Sp} (h : ∀ vs H Q E, sp vs H Q E → vs.length = 5 ∧ rd_Lazy_choose g j E { nx := fun _ H1 => Q .non H1, rt := Q } (L2.start ["self", "word", "places", "budgets", "phase"] vs) H) : FnG g (j + 2) (mad g.K (gad g.K "Lazy") "choose") sp := by
  obtain ⟨fd, F⟩ := fd_Lazy_choose T
  exact fnG_of (ok_Lazy_choose T F h) (FunD.bindsN F fun _ _ _ _ _ _ us hl => match us, hl with | [_, _, _, _, _], _ => rfl)
theorem sc_Lazy_label : FnScope ["self"] ["self"] (defScope (inClass (top 46) 5)) := ⟨rfl, rfl, rfl, by decide +kernel, rfl, by decide +kernel, by decide +kernel⟩
def rd_Lazy_label (g : Wd) (j : Nat) (E : XK) : TS :=
  tRet (cJoin [tC (.str "lazy "), cFmt (cFld g.K (cV 0) "_mark")])
theorem dv_Lazy_label {g : Wd} (T : Top g) {j : Nat} {f : Addr} {cdv : Value} {A : Around} {outer : List Env} {s : Shared} {H : Hp} {E : XK} (hr : Room (j + 1) (A.deeper (envOfC "Lazy.label" (defScope (inClass (top 46) 5)) s.heap.objs.size f cdv))) :
    PSs (cxOf (L2.CX g.P g.w) g.P g.w g.K g.mg g.base ["self"] "Lazy.label" (defScope (inClass (top 46) 5)) f cdv A outer s H E) (defBody (inClass (top 46) 5)) (rd_Lazy_label g j E) := by
  unfold rd_Lazy_label
  exact (pss_one (ps_ret (pe_cJoin (.cons pe_str (.cons (pe_cFmt (pe_cFld (cv 0))) .nil)))))
theorem ok_Lazy_label {g : Wd} (T : Top g) {fd : FuncData} (F : FunD g.K "label" "Lazy.label" (defArgs (inClass (top 46) 5)) (defBody (inClass (top 46) 5)) (defScope (inClass (top 46) 5)) [] [] (mad g.K (gad g.K "Lazy") "label") fd) {j : Nat} {sp : Sp} (h : ∀ vs H Q E, sp vs H Q E → vs.length = 1 ∧ rd_Lazy_label g j E { nx := fun _ H1 => Q .non H1, rt := Q } (L2.start ["self"] vs) H) : FnOk g.P g.w g.K g.mg g.base (L2.CX g.P g.w) (j + 2) (mad g.K (gad g.K "Lazy") "label") fd ["self"] sp :=
  FunD.ok F sc_Lazy_label (fun vs H Q E hh => (h vs H Q E hh).1) fun cdv A outer s H vs Q E hr hh => ⟨rd_Lazy_label g j E, dv_Lazy_label T hr, (h vs H Q E hh).2⟩
theorem fk_Lazy_label {g : Wd} (T : Top g) (j : Nat) {sp : Sp} (h : ∀ vs H Q E, sp vs H Q E → vs.length = 1 ∧ rd_Lazy_label g j E { nx := fun _ H1 => Q .non H1, rt := Q } (L2.start ["self"] vs) H) : FnG g (j + 2) (mad g.K (gad g.K "Lazy") "label") sp := by
  obtain ⟨fd, F⟩ := fd_Lazy_label T
  exact fnG_of (ok_Lazy_label T F h) (FunD.bindsN F fun _ _ _ _ _ _ us hl => match us, hl with | [_], _ => rfl)
theorem sc_Thrifty_init_ : FnScope ["self", "limit"] ["self", "limit"] (defScope (inClass (top 47) 0)) := ⟨rfl, rfl, rfl, by decide +kernel, rfl, by decide +kernel, by decide +kernel⟩
def rd_Thrifty_init_ (g : Wd) (j : Nat) (E : XK) : TS :=
  tSeq (tDrop (cCall g j (fun cls d _ H => E cls d H) (gad g.K "at_least") (tCons (cV 1) (tCons (tC (.int 1)) (tCons (tC (.str "limit")) (tNil))))))
  (cSetF g.K (cV 0) (cV 1) "_limit")
theorem dv_Thrifty_init_ {g : Wd} (T : Top g) {j : Nat} {f : Addr} {cdv : Value} {A : Around} {outer : List Env} {s : Shared} {H : Hp} {E : XK} (hr : Room (j + 1) (A.deeper (envOfC "Thrifty.__init__" (defScope (inClass (top 47) 0)) s.heap.objs.size f cdv))) :
    PSs (cxOf (L2.CX g.P g.w) g.P g.w g.K g.mg g.base ["self", "limit"] "Thrifty.__init__" (defScope (inClass (top 47) 0)) f cdv A outer s H E) (defBody (inClass (top 47) 0)) (rd_Thrifty_init_ g j E) := by
  unfold rd_Thrifty_init_
  exact (pss_cons (ps_expr (pe_cCall (takes_of rfl rfl rfl rfl) (hr.mono (Nat.le_succ _)) (gf_at_least T) (by rfl) (pa_cons (cv 1) (pa_cons pe_int (pa_cons pe_str pa_nil)))))
  (pss_one (ps_cSetF (cv 0) (cv 1))))
theorem ok_Thrifty_init_ {g : Wd} (T : Top g) {fd : FuncData} (F : FunD g.K "__init__" "Thrifty.__init__" (defArgs (inClass (top 47) 0)) (defBody (inClass (top 47) 0)) (defScope (inClass (top 47) 0)) [] [] (mad g.K (gad g.K "Thrifty") "__init__") fd) {j : Nat} {sp : Sp} (h : ∀ vs H Q E, sp vs H Q E → vs.length = 2 ∧ rd_Thrifty_init_ g j E { nx := fun _ H1 => Q .non H1, rt := Q } (L2.start ["self", "limit"] vs) H) : FnOk g.P g.w g.K g.mg g.base (L2.CX g.P g.w) (j + 2) (mad g.K (gad g.K "Thrifty") "__init__") fd ["self", "limit"] sp :=
  FunD.ok F sc_Thrifty_init_ (fun vs H Q E hh => (h vs H Q E hh).1) fun cdv A outer s H vs Q E hr hh => ⟨rd_Thrifty_init_ g j E, dv_Thrifty_init_ T hr, (h vs H Q E hh).2⟩
theorem fk_Thrifty_init_ {g : Wd} (T : Top g) (j : Nat) {sp : Sp} (h : ∀ vs H Q E, sp vs H Q E → vs.length = 2 ∧ rd_Thrifty_init_ g j E { nx := fun _ H1 => Q .non H1, rt := Q } (L2.start ["self", "limit"] vs) H) : FnG g (j + 2) (mad g.K (gad g.K "Thrifty") "__init__") sp := by
  obtain ⟨fd, F⟩ := fd_Thrifty_init_ T
  exact fnG_of (ok_Thrifty_init_ T F h) (FunD.bindsN F fun _ _ _ _ _ _ us hl => match us, hl with | [_, _], _ => rfl)
theorem sc_Thrifty_choose : FnScope ["self", "word", "places", "budgets", "phase", "most", "next_phase", "carried_word", "count"] ["self", "word", "places", "budgets", "phase"] (defScope (inClass (top 47) 1)) := ⟨rfl, rfl, rfl, by decide +kernel, rfl, by decide +kernel, by decide +kernel⟩
def rd_Thrifty_choose (g : Wd) (j : Nat) (E : XK) : TS :=
  tSeq (tDrop (cCall g j (fun cls d _ H => E cls d H) (gad g.K "_check_moment") (tCons (cV 1) (tCons (cV 2) (tCons (cV 4) (tNil))))))
  (tSeq (tAsg (cCall g j (fun cls d _ H => E cls d H) (gad g.K "_most_allowed") (tCons (cV 1) (tCons (cV 2) (tCons (cV 3) (tCons (cV 4) (tNil)))))) (gName 5))
  (tSeq (tAsg (tOp cMod (tOp (cAdd g.K noOw) (cV 4) (tC (.int 1))) (tCB (cLen g j) (tCons (cV 3) (tNil)))) (gName 6))
  (tSeq (tAsg (cV 1) (gName 7))
  (tSeq (tFor (iRng1 (tCons (cV 5) (tNil))) (gName 8) (tSeq (tIfS (cTru g.K (cMeth g j (fun cls d _ H => E cls d H) "_leaves_safe" (cV 0) (tCons (cV 7) (tCons (cV 2) (tCons (cV 3) (tCons (cV 6) (tNil))))))) (tRet (cV 8)) (tNext))
  (tAsg (cCall g j (fun cls d _ H => E cls d H) (gad g.K "carry") (tCons (cV 7) (tCons (cV 2) (tNil)))) (gName 7))))
  (tRet (cV 5))))))
theorem dv_Thrifty_choose {g : Wd} (T : Top g) {j : Nat} {f : Addr} {cdv : Value} {A : Around} {outer : List Env} {s : Shared} {H : Hp} {E : XK} (hr : Room (j + 1) (A.deeper (envOfC "Thrifty.choose" (defScope (inClass (top 47) 1)) s.heap.objs.size f cdv))) :
    PSs (cxOf (L2.CX g.P g.w) g.P g.w g.K g.mg g.base ["self", "word", "places", "budgets", "phase", "most", "next_phase", "carried_word", "count"] "Thrifty.choose" (defScope (inClass (top 47) 1)) f cdv A outer s H E) (defBody (inClass (top 47) 1)) (rd_Thrifty_choose g j E) := by
  unfold rd_Thrifty_choose
  exact (pss_cons (ps_expr (pe_cCall (takes_of rfl rfl rfl rfl) (hr.mono (Nat.le_succ _)) (gf__check_moment T) (by rfl) (pa_cons (cv 1) (pa_cons (cv 2) (pa_cons (cv 4) pa_nil)))))
  (pss_cons (ps_set (i := 5) sc_Thrifty_choose.nd rfl (Or.inl rfl) (pe_cCall (takes_of rfl rfl rfl rfl) (hr.mono (Nat.le_succ _)) (gf__most_allowed T) (by rfl) (pa_cons (cv 1) (pa_cons (cv 2) (pa_cons (cv 3) (pa_cons (cv 4) pa_nil))))))
  (pss_cons (ps_set (i := 6) sc_Thrifty_choose.nd rfl (Or.inl rfl) (pe_op op_cMod (pe_op (op_cAdd noOw_ok) (cv 4) pe_int) (pe_callB (call_cLen hr) (by rfl) (bl_len T) bt_len (pa_cons (cv 3) pa_nil))))
  (pss_cons (ps_set (i := 7) sc_Thrifty_choose.nd rfl (Or.inl rfl) (cv 1))
  (pss_cons (ps_for (passes_of rfl) rfl (pi_range1 (by rfl) (bl_range T) (pa_cons (cv 5) pa_nil)) (pg_name sc_Thrifty_choose.nd rfl (Or.inl rfl)) (pss_cons (ps_if (ptv (pe_cMeth (takes_of rfl rfl rfl rfl) (hr.mono (Nat.le_succ _)) (cv 0) (pa_cons (cv 7) (pa_cons (cv 2) (pa_cons (cv 3) (pa_cons (cv 6) pa_nil)))))) (pss_one (ps_ret (cv 8))) pss_nil)
  (pss_one (ps_set (i := 7) sc_Thrifty_choose.nd rfl (Or.inl rfl) (pe_cCall (takes_of rfl rfl rfl rfl) (hr.mono (Nat.le_succ _)) (gf_carry T) (by rfl) (pa_cons (cv 7) (pa_cons (cv 2) pa_nil)))))))
  (pss_one (ps_ret (cv 5))))))))
theorem ok_Thrifty_choose {g : Wd} (T : Top g) {fd : FuncData} (F : FunD g.K "choose" "Thrifty.choose" (defArgs (inClass (top 47) 1)) (defBody (inClass (top 47) 1)) (defScope (inClass (top 47) 1)) [] [] (mad g.K (gad g.K "Thrifty") "choose") fd) {j : Nat} {sp : Sp} (h : ∀ vs H Q E, sp vs H Q E → vs.length = 5 ∧ rd_Thrifty_choose g j E { nx := fun _ H1 => Q .non H1, rt := Q } (L2.start ["self", "word", "places", "budgets", "phase", "most", "next_phase", "carried_word", "count"] vs) H) : FnOk g.P g.w g.K g.mg g.base (L2.CX g.P g.w) (j + 2) (mad g.K (gad g.K "Thrifty") "choose") fd ["self", "word", "places", "budgets", "phase"] sp :=
  FunD.ok F sc_Thrifty_choose (fun vs H Q E hh => (h vs H Q E hh).1) fun cdv A outer s H vs Q E hr hh => ⟨rd_Thrifty_choose g j E, dv_Thrifty_choose T hr, (h vs H Q E hh).2⟩
theorem fk_Thrifty_choose {g : Wd} (T : Top g) (j : Nat) {sp : Sp} (h : ∀ vs H Q E, sp vs H Q E → vs.length = 5 ∧ rd_Thrifty_choose g j E { nx := fun _ H1 => Q .non H1, rt := Q } (L2.start ["self", "word", "places", "budgets", "phase", "most", "next_phase", "carried_word", "count"] vs) H) : FnG g (j + 2) (mad g.K (gad g.K "Thrifty") "choose") sp := by
  obtain ⟨fd, F⟩ := fd_Thrifty_choose T
  exact fnG_of (ok_Thrifty_choose T F h) (FunD.bindsN F fun _ _ _ _ _ _ us hl => match us, hl with | [_, _, _, _, _], _ => rfl)
theorem sc_Thrifty__leaves_safe : FnScope ["self", "word", "places", "budgets", "phase"] ["self", "word", "places", "budgets", "phase"] (defScope (inClass (top 47) 2)) := ⟨rfl, rfl, rfl, by decide +kernel, rfl, by decide +kernel, by decide +kernel⟩
def rd_Thrifty__leaves_safe (g : Wd) (j : Nat) (E : XK) : TS :=
  tSeq (tIfS (tOr (cTest (tOp cGe (cCall g j (fun cls d _ H => E cls d H) (gad g.K "living") (tCons (cV 1) (tNil))) (cFld g.K (cV 0) "_limit"))) (cTest (tOp cGt (cFld g.K (cV 0) "_limit") (cV 2)))) (tRet (tC (.bl false))) (tNext))
  (tRet (cCall g j (fun cls d _ H => E cls d H) (gad g.K "safe") (tCons (cCall g j (fun cls d _ H => E cls d H) (gad g.K "append_record") (tCons (cV 1) (tCons (cV 2) (tNil)))) (tCons (cV 2) (tCons (cFld g.K (cV 0) "_limit") (tCons (cV 3) (tCons (cV 4) (tNil))))))))
theorem dv_Thrifty__leaves_safe {g : Wd} (T : Top g) {j : Nat} {f : Addr} {cdv : Value} {A : Around} {outer : List Env} {s : Shared} {H : Hp} {E : XK} (hr : Room (j + 1) (A.deeper (envOfC "Thrifty._leaves_safe" (defScope (inClass (top 47) 2)) s.heap.objs.size f cdv))) :
    PSs (cxOf (L2.CX g.P g.w) g.P g.w g.K g.mg g.base ["self", "word", "places", "budgets", "phase"] "Thrifty._leaves_safe" (defScope (inClass (top 47) 2)) f cdv A outer s H E) (defBody (inClass (top 47) 2)) (rd_Thrifty__leaves_safe g j E) := by
  unfold rd_Thrifty__leaves_safe
  exact (pss_cons (ps_if (pw_or (ptc op_cGe (pe_cCall (takes_of rfl rfl rfl rfl) (hr.mono (Nat.le_succ _)) (gf_living T) (by rfl) (pa_cons (cv 1) pa_nil)) (pe_cFld (cv 0)) (nomark _)) (pw_or1 (ptc op_cGt (pe_cFld (cv 0)) (cv 2) (nomark _)))).pt (pss_one (ps_ret pe_bl)) pss_nil)
  (pss_one (ps_ret (pe_cCall (takes_of rfl rfl rfl rfl) (hr.mono (Nat.le_succ _)) (gf_safe T) (by rfl) (pa_cons (pe_cCall (takes_of rfl rfl rfl rfl) (hr.mono (Nat.le_succ _)) (gf_append_record T) (by rfl) (pa_cons (cv 1) (pa_cons (cv 2) pa_nil))) (pa_cons (cv 2) (pa_cons (pe_cFld (cv 0)) (pa_cons (cv 3) (pa_cons (cv 4) pa_nil)))))))))
theorem ok_Thrifty__leaves_safe {g : Wd} (T : Top g) {fd : FuncData} (F : FunD g.K "_leaves_safe" "Thrifty._leaves_safe" (defArgs (inClass (top 47) 2)) (defBody (inClass (top 47) 2)) (defScope (inClass (top 47) 2)) [] [] (mad g.K (gad g.K "Thrifty") "_leaves_safe") fd) {j : Nat} {sp : Sp} (h : ∀ vs H Q E, sp vs H Q E → vs.length = 5 ∧ rd_Thrifty__leaves_safe g j E { nx := fun _ H1 => Q .non H1, rt := Q } (L2.start ["self", "word", "places", "budgets", "phase"] vs) H) : FnOk g.P g.w g.K g.mg g.base (L2.CX g.P g.w) (j + 2) (mad g.K (gad g.K "Thrifty") "_leaves_safe") fd ["self", "word", "places", "budgets", "phase"] sp :=
  FunD.ok F sc_Thrifty__leaves_safe (fun vs H Q E hh => (h vs H Q E hh).1) fun cdv A outer s H vs Q E hr hh => ⟨rd_Thrifty__leaves_safe g j E, dv_Thrifty__leaves_safe T hr, (h vs H Q E hh).2⟩
theorem fk_Thrifty__leaves_safe {g : Wd} (T : Top g) (j : Nat) {sp : Sp} (h : ∀ vs H Q E, sp vs H Q E → vs.length = 5 ∧ rd_Thrifty__leaves_safe g j E { nx := fun _ H1 => Q .non H1, rt := Q } (L2.start ["self", "word", "places", "budgets", "phase"] vs) H) : FnG g (j + 2) (mad g.K (gad g.K "Thrifty") "_leaves_safe") sp := by
  obtain ⟨fd, F⟩ := fd_Thrifty__leaves_safe T
  exact fnG_of (ok_Thrifty__leaves_safe T F h) (FunD.bindsN F fun _ _ _ _ _ _ us hl => match us, hl with | [_, _, _, _, _], _ => rfl)
theorem sc_Thrifty_label : FnScope ["self"] ["self"] (defScope (inClass (top 47) 3)) := ⟨rfl, rfl, rfl, by decide +kernel, rfl, by decide +kernel, by decide +kernel⟩
def rd_Thrifty_label (g : Wd) (j : Nat) (E : XK) : TS :=
  tRet (cJoin [tC (.str "thrifty "), cFmt (cFld g.K (cV 0) "_limit")])
theorem dv_Thrifty_label {g : Wd} (T : Top g) {j : Nat} {f : Addr} {cdv : Value} {A : Around} {outer : List Env} {s : Shared} {H : Hp} {E : XK} (hr : Room (j + 1) (A.deeper (envOfC "Thrifty.label" (defScope (inClass (top 47) 3)) s.heap.objs.size f cdv))) :
    PSs (cxOf (L2.CX g.P g.w) g.P g.w g.K g.mg g.base ["self"] "Thrifty.label" (defScope (inClass (top 47) 3)) f cdv A outer s H E) (defBody (inClass (top 47) 3)) (rd_Thrifty_label g j E) := by
  unfold rd_Thrifty_label
  exact (pss_one (ps_ret (pe_cJoin (.cons pe_str (.cons (pe_cFmt (pe_cFld (cv 0))) .nil)))))
theorem ok_Thrifty_label {g : Wd} (T : Top g) {fd : FuncData} (F : FunD g.K "label" "Thrifty.label" (defArgs (inClass (top 47) 3)) (defBody (inClass (top 47) 3)) (defScope (inClass (top 47) 3)) [] [] (mad g.K (gad g.K "Thrifty") "label") fd) {j : Nat} {sp : Sp} (h : ∀ vs H Q E, sp vs H Q E → vs.length = 1 ∧ rd_Thrifty_label g j E { nx := fun _ H1 => Q .non H1, rt := Q } (L2.start ["self"] vs) H) : FnOk g.P g.w g.K g.mg g.base (L2.CX g.P g.w) (j + 2) (mad g.K (gad g.K "Thrifty") "label") fd ["self"] sp :=
  FunD.ok F sc_Thrifty_label (fun vs H Q E hh => (h vs H Q E hh).1) fun cdv A outer s H vs Q E hr hh => ⟨rd_Thrifty_label g j E, dv_Thrifty_label T hr, (h vs H Q E hh).2⟩
theorem fk_Thrifty_label {g : Wd} (T : Top g) (j : Nat) {sp : Sp} (h : ∀ vs H Q E, sp vs H Q E → vs.length = 1 ∧ rd_Thrifty_label g j E { nx := fun _ H1 => Q .non H1, rt := Q } (L2.start ["self"] vs) H) : FnG g (j + 2) (mad g.K (gad g.K "Thrifty") "label") sp := by
  obtain ⟨fd, F⟩ := fd_Thrifty_label T
  exact fnG_of (ok_Thrifty_label T F h) (FunD.bindsN F fun _ _ _ _ _ _ us hl => match us, hl with | [_], _ => rfl)
theorem sc_RuleKeeper_init_ : FnScope ["self", "text"] ["self", "text"] (defScope (inClass (top 48) 0)) := ⟨rfl, rfl, rfl, by decide +kernel, rfl, by decide +kernel, by decide +kernel⟩
def rd_RuleKeeper_init_ (g : Wd) (j : Nat) (E : XK) : TS :=
  cSetF g.K (cV 0) (cCall g j (fun cls d _ H => E cls d H) (gad g.K "_read_rules") (tCons (cV 1) (tNil))) "_rules"
theorem dv_RuleKeeper_init_ {g : Wd} (T : Top g) {j : Nat} {f : Addr} {cdv : Value} {A : Around} {outer : List Env} {s : Shared} {H : Hp} {E : XK} (hr : Room (j + 1) (A.deeper (envOfC "RuleKeeper.__init__" (defScope (inClass (top 48) 0)) s.heap.objs.size f cdv))) :
    PSs (cxOf (L2.CX g.P g.w) g.P g.w g.K g.mg g.base ["self", "text"] "RuleKeeper.__init__" (defScope (inClass (top 48) 0)) f cdv A outer s H E) (defBody (inClass (top 48) 0)) (rd_RuleKeeper_init_ g j E) := by
  unfold rd_RuleKeeper_init_
  exact (pss_one (ps_cSetF (cv 0) (pe_cCall (takes_of rfl rfl rfl rfl) (hr.mono (Nat.le_succ _)) (gf__read_rules T) (by rfl) (pa_cons (cv 1) pa_nil))))
theorem ok_RuleKeeper_init_ {g : Wd} (T : Top g) {fd : FuncData} (F : FunD g.K "__init__" "RuleKeeper.__init__" (defArgs (inClass (top 48) 0)) (defBody (inClass (top 48) 0)) (defScope (inClass (top 48) 0)) [] [] (mad g.K (gad g.K "RuleKeeper") "__init__") fd) {j : Nat} {sp : Sp} (h : ∀ vs H Q E, sp vs H Q E → vs.length = 2 ∧ rd_RuleKeeper_init_ g j E { nx := fun _ H1 => Q .non H1, rt := Q } (L2.start ["self", "text"] vs) H) : FnOk g.P g.w g.K g.mg g.base (L2.CX g.P g.w) (j + 2) (mad g.K (gad g.K "RuleKeeper") "__init__") fd ["self", "text"] sp :=
  FunD.ok F sc_RuleKeeper_init_ (fun vs H Q E hh => (h vs H Q E hh).1) fun cdv A outer s H vs Q E hr hh => ⟨rd_RuleKeeper_init_ g j E, dv_RuleKeeper_init_ T hr, (h vs H Q E hh).2⟩
theorem fk_RuleKeeper_init_ {g : Wd} (T : Top g) (j : Nat) {sp : Sp} (h : ∀ vs H Q E, sp vs H Q E → vs.length = 2 ∧ rd_RuleKeeper_init_ g j E { nx := fun _ H1 => Q .non H1, rt := Q } (L2.start ["self", "text"] vs) H) : FnG g (j + 2) (mad g.K (gad g.K "RuleKeeper") "__init__") sp := by
  obtain ⟨fd, F⟩ := fd_RuleKeeper_init_ T
  exact fnG_of (ok_RuleKeeper_init_ T F h) (FunD.bindsN F fun _ _ _ _ _ _ us hl => match us, hl with | [_, _], _ => rfl)
theorem sc_RuleKeeper_choose : FnScope ["self", "word", "places", "budgets", "phase", "most", "budget", "condition", "amount"] ["self", "word", "places", "budgets", "phase"] (defScope (inClass (top 48) 1)) := ⟨rfl, rfl, rfl, by decide +kernel, rfl, by decide +kernel, by decide +kernel⟩
def rd_RuleKeeper_choose (g : Wd) (j : Nat) (E : XK) : TS :=
  tSeq (tDrop (cCall g j (fun cls d _ H => E cls d H) (gad g.K "_check_moment") (tCons (cV 1) (tCons (cV 2) (tCons (cV 4) (tNil))))))
  (tSeq (tAsg (cCall g j (fun cls d _ H => E cls d H) (gad g.K "_most_allowed") (tCons (cV 1) (tCons (cV 2) (tCons (cV 3) (tCons (cV 4) (tNil)))))) (gName 5))
  (tSeq (tAsg (cMeth g j (fun cls d _ H => E cls d H) "at" (cV 3) (tCons (cV 4) (tNil))) (gName 6))
  (tSeq (tFor (iSeq g.K (cFld g.K (cV 0) "_rules")) (cgTup g.K 2 (cgCons (gName 7) (cgCons (gName 8) (cgNil)))) (tIfS (cTru g.K (cCall g j (fun cls d _ H => E cls d H) (gad g.K "_applies") (tCons (cV 7) (tCons (cV 1) (tCons (cV 2) (tCons (cV 6) (tNil))))))) (tSeq (tIfS (cTest (tOp (cEqN g.K false) (cV 8) (tC (.str "all")))) (tRet (cV 5)) (tNext))
  (tRet (tCB (cMin g.K) (tCons (cV 5) (tCons (tCB (cInt) (tCons (cV 8) (tNil))) (tNil)))))) (tNext)))
  (tRet (tC (.int 0))))))
theorem dv_RuleKeeper_choose {g : Wd} (T : Top g) {j : Nat} {f : Addr} {cdv : Value} {A : Around} {outer : List Env} {s : Shared} {H : Hp} {E : XK} (hr : Room (j + 1) (A.deeper (envOfC "RuleKeeper.choose" (defScope (inClass (top 48) 1)) s.heap.objs.size f cdv))) :
    PSs (cxOf (L2.CX g.P g.w) g.P g.w g.K g.mg g.base ["self", "word", "places", "budgets", "phase", "most", "budget", "condition", "amount"] "RuleKeeper.choose" (defScope (inClass (top 48) 1)) f cdv A outer s H E) (defBody (inClass (top 48) 1)) (rd_RuleKeeper_choose g j E) := by
  unfold rd_RuleKeeper_choose
  exact (pss_cons (ps_expr (pe_cCall (takes_of rfl rfl rfl rfl) (hr.mono (Nat.le_succ _)) (gf__check_moment T) (by rfl) (pa_cons (cv 1) (pa_cons (cv 2) (pa_cons (cv 4) pa_nil)))))
  (pss_cons (ps_set (i := 5) sc_RuleKeeper_choose.nd rfl (Or.inl rfl) (pe_cCall (takes_of rfl rfl rfl rfl) (hr.mono (Nat.le_succ _)) (gf__most_allowed T) (by rfl) (pa_cons (cv 1) (pa_cons (cv 2) (pa_cons (cv 3) (pa_cons (cv 4) pa_nil))))))
  (pss_cons (ps_set (i := 6) sc_RuleKeeper_choose.nd rfl (Or.inl rfl) (pe_cMeth (takes_of rfl rfl rfl rfl) (hr.mono (Nat.le_succ _)) (cv 3) (pa_cons (cv 4) pa_nil)))
  (pss_cons (ps_for (passes_of rfl) rfl (pi_seq (pe_cFld (cv 0))) (pg_ctup rfl (pgs_ccons (pg_name sc_RuleKeeper_choose.nd rfl (Or.inl rfl)) (pgs_ccons (pg_name sc_RuleKeeper_choose.nd rfl (Or.inl rfl)) pgs_cnil))) (pss_one (ps_if (ptv (pe_cCall (takes_of rfl rfl rfl rfl) (hr.mono (Nat.le_succ _)) (gf__applies T) (by rfl) (pa_cons (cv 7) (pa_cons (cv 1) (pa_cons (cv 2) (pa_cons (cv 6) pa_nil)))))) (pss_cons (ps_if (ptc (op_cEq hr.units) (cv 8) pe_str (nomark _)) (pss_one (ps_ret (cv 5))) pss_nil)
  (pss_one (ps_ret (pe_callB (call_cMin rfl) (by rfl) (bl_min T) bt_min (pa_cons (cv 5) (pa_cons (pe_callTy (call_cInt) (by rfl) (bl_int T) bt_int (pa_cons (cv 8) pa_nil)) pa_nil)))))) pss_nil)))
  (pss_one (ps_ret pe_int))))))
theorem ok_RuleKeeper_choose {g : Wd} (T : Top g) {fd : FuncData} (F : FunD g.K "choose" "RuleKeeper.choose" (defArgs (inClass (top 48) 1)) (defBody (inClass (top 48) 1)) (defScope (inClass (top 48) 1)) [] [] (mad g.K (gad g.K "RuleKeeper") "choose") fd) {j : Nat} {sp : Sp} (h : ∀ vs H Q E, sp vs H Q E → vs.length = 5 ∧ rd_RuleKeeper_choose g j E { nx := fun _ H1 => Q .non H1, rt := Q } (L2.start ["self", "word", "places", "budgets", "phase", "most", "budget", "condition", "amount"] vs) H) : FnOk g.P g.w g.K g.mg g.base (L2.CX g.P g.w) (j + 2) (mad g.K (gad g.K "RuleKeeper") "choose") fd ["self", "word", "places", "budgets", "phase"] sp :=
  FunD.ok F sc_RuleKeeper_choose (fun vs H Q E hh => (h vs H Q E hh).1) fun cdv A outer s H vs Q E hr hh => ⟨rd_RuleKeeper_choose g j E, dv_RuleKeeper_choose T hr, (h vs H Q E hh).2⟩
theorem fk_RuleKeeper_choose {g : Wd} (T : Top g) (j : Nat) {sp : Sp} (h : ∀ vs H Q E, sp vs H Q E → vs.length = 5 ∧ rd_RuleKeeper_choose g j E { nx := fun _ H1 => Q .non H1, rt := Q } (L2.start ["self", "word", "places", "budgets", "phase", "most", "budget", "condition", "amount"] vs) H) : FnG g (j + 2) (mad g.K (gad g.K "RuleKeeper") "choose") sp := by
  obtain ⟨fd, F⟩ := fd_RuleKeeper_choose T
  exact fnG_of (ok_RuleKeeper_choose T F h) (FunD.bindsN F fun _ _ _ _ _ _ us hl => match us, hl with | [_, _, _, _, _], _ => rfl)
theorem sc_RuleKeeper_label : FnScope ["self"] ["self"] (defScope (inClass (top 48) 2)) := ⟨rfl, rfl, rfl, by decide +kernel, rfl, by decide +kernel, by decide +kernel⟩
def rd_RuleKeeper_label (g : Wd) (j : Nat) (E : XK) : TS :=
  tRet (cJoin [tC (.str "rule "), cFmt (tCB (cLen g j) (tCons (cFld g.K (cV 0) "_rules") (tNil)))])
theorem dv_RuleKeeper_label {g : Wd} (T : Top g) {j : Nat} {f : Addr} {cdv : Value} {A : Around} {outer : List Env} {s : Shared} {H : Hp} {E : XK} (hr : Room (j + 1) (A.deeper (envOfC "RuleKeeper.label" (defScope (inClass (top 48) 2)) s.heap.objs.size f cdv))) :
    PSs (cxOf (L2.CX g.P g.w) g.P g.w g.K g.mg g.base ["self"] "RuleKeeper.label" (defScope (inClass (top 48) 2)) f cdv A outer s H E) (defBody (inClass (top 48) 2)) (rd_RuleKeeper_label g j E) := by
  unfold rd_RuleKeeper_label
  exact (pss_one (ps_ret (pe_cJoin (.cons pe_str (.cons (pe_cFmt (pe_callB (call_cLen hr) (by rfl) (bl_len T) bt_len (pa_cons (pe_cFld (cv 0)) pa_nil))) .nil)))))
theorem ok_RuleKeeper_label {g : Wd} (T : Top g) {fd : FuncData} (F : FunD g.K "label" "RuleKeeper.label" (defArgs (inClass (top 48) 2)) (defBody (inClass (top 48) 2)) (defScope (inClass (top 48) 2)) [] [] (mad g.K (gad g.K "RuleKeeper") "label") fd) {j : Nat} {sp : Sp} (h : ∀ vs H Q E, sp vs H Q E → vs.length = 1 ∧ rd_RuleKeeper_label g j E { nx := fun _ H1 => Q .non H1, rt := Q } (L2.start ["self"] vs) H) : FnOk g.P g.w g.K g.mg g.base (L2.CX g.P g.w) (j + 2) (mad g.K (gad g.K "RuleKeeper") "label") fd ["self"] sp :=
  FunD.ok F sc_RuleKeeper_label (fun vs H Q E hh => (h vs H Q E hh).1) fun cdv A outer s H vs Q E hr hh => ⟨rd_RuleKeeper_label g j E, dv_RuleKeeper_label T hr, (h vs H Q E hh).2⟩
theorem fk_RuleKeeper_label {g : Wd} (T : Top g) (j : Nat) {sp : Sp} (h : ∀ vs H Q E, sp vs H Q E → vs.length = 1 ∧ rd_RuleKeeper_label g j E { nx := fun _ H1 => Q .non H1, rt := Q } (L2.start ["self"] vs) H) : FnG g (j + 2) (mad g.K (gad g.K "RuleKeeper") "label") sp := by
  obtain ⟨fd, F⟩ := fd_RuleKeeper_label T
  exact fnG_of (ok_RuleKeeper_label T F h) (FunD.bindsN F fun _ _ _ _ _ _ us hl => match us, hl with | [_], _ => rfl)
theorem sc_Round_init_ : FnScope ["self", "budgets", "budget"] ["self", "budgets"] (defScope (inClass (top 50) 1)) := ⟨rfl, rfl, rfl, by decide +kernel, rfl, by decide +kernel, by decide +kernel⟩
def rd_Round_init_ (g : Wd) (j : Nat) (E : XK) : TS :=
  tSeq (tIfS (tNot (cTest (cChain cLe cLe (tC (.int 1)) (tCB (cLen g j) (tCons (cV 1) (tNil))) (cCv g.K (cGv g "Round") "MOST")))) (cRaise (cRais g j (gad g.K "InvalidInput") (tCons (tC (.str "budgets")) (tNil))) (fun cls d _ H => E cls d H)) (tNext))
  (tSeq (tFor (iSeq g.K (cV 1)) (gName 2) (tSeq (tDrop (cCall g j (fun cls d _ H => E cls d H) (gad g.K "whole_number") (tCons (cV 2) (tCons (tC (.str "budgets")) (tNil)))))
  (tDrop (cCall g j (fun cls d _ H => E cls d H) (gad g.K "at_least") (tCons (cV 2) (tCons (tC (.int 0)) (tCons (tC (.str "budgets")) (tNil))))))))
  (cSetF g.K (cV 0) (tCB (cTuple g.K) (tCons (cV 1) (tNil))) "_budgets"))
theorem dv_Round_init_ {g : Wd} (T : Top g) {j : Nat} {f : Addr} {cdv : Value} {A : Around} {outer : List Env} {s : Shared} {H : Hp} {E : XK} (hr : Room (j + 1) (A.deeper (envOfC "Round.__init__" (defScope (inClass (top 50) 1)) s.heap.objs.size f cdv))) :
    PSs (cxOf (L2.CX g.P g.w) g.P g.w g.K g.mg g.base ["self", "budgets", "budget"] "Round.__init__" (defScope (inClass (top 50) 1)) f cdv A outer s H E) (defBody (inClass (top 50) 1)) (rd_Round_init_ g j E) := by
  unfold rd_Round_init_
  exact (pss_cons (ps_if (pt_not (ptc2 op_cLe op_cLe pe_int (pe_callB (call_cLen hr) (by rfl) (bl_len T) bt_len (pa_cons (cv 1) pa_nil)) (pe_cCv (pe_cGv (by rfl))))) (pss_one (ps_cRaise rfl (takes_of rfl rfl rfl rfl) (hr.mono (Nat.le_succ _)) (gf_InvalidInput T) (by rfl) (pa_cons pe_str pa_nil))) pss_nil)
  (pss_cons (ps_for (passes_of rfl) rfl (pi_seq (cv 1)) (pg_name sc_Round_init_.nd rfl (Or.inl rfl)) (pss_cons (ps_expr (pe_cCall (takes_of rfl rfl rfl rfl) (hr.mono (Nat.le_succ _)) (gf_whole_number T) (by rfl) (pa_cons (cv 2) (pa_cons pe_str pa_nil))))
  (pss_one (ps_expr (pe_cCall (takes_of rfl rfl rfl rfl) (hr.mono (Nat.le_succ _)) (gf_at_least T) (by rfl) (pa_cons (cv 2) (pa_cons pe_int (pa_cons pe_str pa_nil))))))))
  (pss_one (ps_cSetF (cv 0) (pe_callTy (call_cTuple) (by rfl) (bl_tuple T) bt_tuple (pa_cons (cv 1) pa_nil))))))
theorem sc_Round_budgets : FnScope ["self"] ["self"] (defScope (inClass (top 50) 3)) := ⟨rfl, rfl, rfl, by decide +kernel, rfl, by decide +kernel, by decide +kernel⟩
def rd_Round_budgets (g : Wd) (j : Nat) (E : XK) : TS :=
  tRet (tCB (cList g.K) (tCons (cFld g.K (cV 0) "_budgets") (tNil)))
theorem dv_Round_budgets {g : Wd} (T : Top g) {j : Nat} {f : Addr} {cdv : Value} {A : Around} {outer : List Env} {s : Shared} {H : Hp} {E : XK} (hr : Room (j + 1) (A.deeper (envOfC "Round.budgets" (defScope (inClass (top 50) 3)) s.heap.objs.size f cdv))) :
    PSs (cxOf (L2.CX g.P g.w) g.P g.w g.K g.mg g.base ["self"] "Round.budgets" (defScope (inClass (top 50) 3)) f cdv A outer s H E) (defBody (inClass (top 50) 3)) (rd_Round_budgets g j E) := by
  unfold rd_Round_budgets
  exact (pss_one (ps_ret (pe_callTy (call_cList) (by rfl) (bl_list T) bt_list (pa_cons (pe_cFld (cv 0)) pa_nil))))
theorem ok_Round_budgets {g : Wd} (T : Top g) {fd : FuncData} (F : FunD g.K "budgets" "Round.budgets" (defArgs (inClass (top 50) 3)) (defBody (inClass (top 50) 3)) (defScope (inClass (top 50) 3)) [] [] (pgt g.K "Round" "budgets") fd) {j : Nat} {sp : Sp} (h : ∀ vs H Q E, sp vs H Q E → vs.length = 1 ∧ rd_Round_budgets g j E { nx := fun _ H1 => Q .non H1, rt := Q } (L2.start ["self"] vs) H) : FnOk g.P g.w g.K g.mg g.base (L2.CX g.P g.w) (j + 2) (pgt g.K "Round" "budgets") fd ["self"] sp :=
  FunD.ok F sc_Round_budgets (fun vs H Q E hh => (h vs H Q E hh).1) fun cdv A outer s H vs Q E hr hh => ⟨rd_Round_budgets g j E, dv_Round_budgets T hr, (h vs H Q E hh).2⟩
theorem fk_Round_budgets {g : Wd} (T : Top g) (j : Nat) {sp : Sp} (h : ∀ vs H Q E, sp vs H Q E → vs.length = 1 ∧ rd_Round_budgets g j E { nx := fun _ H1 => Q .non H1, rt := Q } (L2.start ["self"] vs) H) : FnG g (j + 2) (pgt g.K "Round" "budgets") sp := by
  obtain ⟨fd, F⟩ := fd_Round_budgets T
  exact fnG_of (ok_Round_budgets T F h) (FunD.bindsN F fun _ _ _ _ _ _ us hl => match us, hl with | [_], _ => rfl)
theorem sc_Round_len_ : FnScope ["self"] ["self"] (defScope (inClass (top 50) 4)) := ⟨rfl, rfl, rfl, by decide +kernel, rfl, by decide +kernel, by decide +kernel⟩
def rd_Round_len_ (g : Wd) (j : Nat) (E : XK) : TS :=
  tRet (tCB (cLen g j) (tCons (cFld g.K (cV 0) "_budgets") (tNil)))
theorem dv_Round_len_ {g : Wd} (T : Top g) {j : Nat} {f : Addr} {cdv : Value} {A : Around} {outer : List Env} {s : Shared} {H : Hp} {E : XK} (hr : Room (j + 1) (A.deeper (envOfC "Round.__len__" (defScope (inClass (top 50) 4)) s.heap.objs.size f cdv))) :
    PSs (cxOf (L2.CX g.P g.w) g.P g.w g.K g.mg g.base ["self"] "Round.__len__" (defScope (inClass (top 50) 4)) f cdv A outer s H E) (defBody (inClass (top 50) 4)) (rd_Round_len_ g j E) := by
  unfold rd_Round_len_
  exact (pss_one (ps_ret (pe_callB (call_cLen hr) (by rfl) (bl_len T) bt_len (pa_cons (pe_cFld (cv 0)) pa_nil))))
theorem ok_Round_len_ {g : Wd} (T : Top g) {fd : FuncData} (F : FunD g.K "__len__" "Round.__len__" (defArgs (inClass (top 50) 4)) (defBody (inClass (top 50) 4)) (defScope (inClass (top 50) 4)) [] [] (mad g.K (gad g.K "Round") "__len__") fd) {j : Nat} {sp : Sp} (h : ∀ vs H Q E, sp vs H Q E → vs.length = 1 ∧ rd_Round_len_ g j E { nx := fun _ H1 => Q .non H1, rt := Q } (L2.start ["self"] vs) H) : FnOk g.P g.w g.K g.mg g.base (L2.CX g.P g.w) (j + 2) (mad g.K (gad g.K "Round") "__len__") fd ["self"] sp :=
  FunD.ok F sc_Round_len_ (fun vs H Q E hh => (h vs H Q E hh).1) fun cdv A outer s H vs Q E hr hh => ⟨rd_Round_len_ g j E, dv_Round_len_ T hr, (h vs H Q E hh).2⟩
theorem fk_Round_len_ {g : Wd} (T : Top g) (j : Nat) {sp : Sp} (h : ∀ vs H Q E, sp vs H Q E → vs.length = 1 ∧ rd_Round_len_ g j E { nx := fun _ H1 => Q .non H1, rt := Q } (L2.start ["self"] vs) H) : FnG g (j + 2) (mad g.K (gad g.K "Round") "__len__") sp := by
  obtain ⟨fd, F⟩ := fd_Round_len_ T
  exact fnG_of (ok_Round_len_ T F h) (FunD.bindsN F fun _ _ _ _ _ _ us hl => match us, hl with | [_], _ => rfl)
theorem sc_Round_eq_ : FnScope ["self", "other"] ["self", "other"] (defScope (inClass (top 50) 5)) := ⟨rfl, rfl, rfl, by decide +kernel, rfl, by decide +kernel, by decide +kernel⟩
def rd_Round_eq_ (g : Wd) (j : Nat) (E : XK) : TS :=
  tRet (cAndV (tCB (cIsi g.K) (tCons (cV 1) (tCons (cGv g "Round") (tNil)))) (tOp (cEqN g.K false) (cFld g.K (cV 0) "_budgets") (cFld g.K (cV 1) "_budgets")))
theorem dv_Round_eq_ {g : Wd} (T : Top g) {j : Nat} {f : Addr} {cdv : Value} {A : Around} {outer : List Env} {s : Shared} {H : Hp} {E : XK} (hr : Room (j + 1) (A.deeper (envOfC "Round.__eq__" (defScope (inClass (top 50) 5)) s.heap.objs.size f cdv))) :
    PSs (cxOf (L2.CX g.P g.w) g.P g.w g.K g.mg g.base ["self", "other"] "Round.__eq__" (defScope (inClass (top 50) 5)) f cdv A outer s H E) (defBody (inClass (top 50) 5)) (rd_Round_eq_ g j E) := by
  unfold rd_Round_eq_
  exact (pss_one (ps_ret (pe_cAnd (pe_callB (call_cIsi) (by rfl) (bl_isinstance T) bt_isinstance (pa_cons (cv 1) (pa_cons (pe_cGv (by rfl)) pa_nil))) (pe_one (pe_cmpR (op_cEq hr.units) (pe_cFld (cv 0)) (pe_cFld (cv 1)) (nomark _))))))
theorem ok_Round_eq_ {g : Wd} (T : Top g) {fd : FuncData} (F : FunD g.K "__eq__" "Round.__eq__" (defArgs (inClass (top 50) 5)) (defBody (inClass (top 50) 5)) (defScope (inClass (top 50) 5)) [] [] (mad g.K (gad g.K "Round") "__eq__") fd) {j : Nat} {sp : Sp} (h : ∀ vs H Q E, sp vs H Q E → vs.length = 2 ∧ rd_Round_eq_ g j E { nx := fun _ H1 => Q .non H1, rt := Q } (L2.start ["self", "other"] vs) H) : FnOk g.P g.w g.K g.mg g.base (L2.CX g.P g.w) (j + 2) (mad g.K (gad g.K "Round") "__eq__") fd ["self", "other"] sp :=
  FunD.ok F sc_Round_eq_ (fun vs H Q E hh => (h vs H Q E hh).1) fun cdv A outer s H vs Q E hr hh => ⟨rd_Round_eq_ g j E, dv_Round_eq_ T hr, (h vs H Q E hh).2⟩
theorem fk_Round_eq_ {g : Wd} (T : Top g) (j : Nat) {sp : Sp} (h : ∀ vs H Q E, sp vs H Q E → vs.length = 2 ∧ rd_Round_eq_ g j E { nx := fun _ H1 => Q .non H1, rt := Q } (L2.start ["self", "other"] vs) H) : FnG g (j + 2) (mad g.K (gad g.K "Round") "__eq__") sp := by
  obtain ⟨fd, F⟩ := fd_Round_eq_ T
  exact fnG_of (ok_Round_eq_ T F h) (FunD.bindsN F fun _ _ _ _ _ _ us hl => match us, hl with | [_, _], _ => rfl)
theorem sc_Round_add_ : FnScope ["self", "other", "joined"] ["self", "other"] (defScope (inClass (top 50) 6)) := ⟨rfl, rfl, rfl, by decide +kernel, rfl, by decide +kernel, by decide +kernel⟩
def rd_Round_add_ (g : Wd) (j : Nat) (E : XK) : TS :=
  tSeq (tIfS (tNot (cTru g.K (tCB (cIsi g.K) (tCons (cV 1) (tCons (cGv g "Round") (tNil)))))) (tNever) (tNext))
  (tSeq (tAsg (tOp (cAdd g.K noOw) (cFld g.K (cV 0) "_budgets") (cFld g.K (cV 1) "_budgets")) (gName 2))
  (tRet (cMakeS g j (fun cls d _ H => E cls d H) (gad g.K "Round") (cV 2))))
theorem dv_Round_add_ {g : Wd} (T : Top g) {j : Nat} {f : Addr} {cdv : Value} {A : Around} {outer : List Env} {s : Shared} {H : Hp} {E : XK} (hr : Room (j + 1) (A.deeper (envOfC "Round.__add__" (defScope (inClass (top 50) 6)) s.heap.objs.size f cdv))) :
    PSs (cxOf (L2.CX g.P g.w) g.P g.w g.K g.mg g.base ["self", "other", "joined"] "Round.__add__" (defScope (inClass (top 50) 6)) f cdv A outer s H E) (defBody (inClass (top 50) 6)) (rd_Round_add_ g j E) := by
  unfold rd_Round_add_
  exact (pss_cons (ps_if (pt_not (ptv (pe_callB (call_cIsi) (by rfl) (bl_isinstance T) bt_isinstance (pa_cons (cv 1) (pa_cons (pe_cGv (by rfl)) pa_nil))))) (pss_one ps_never) pss_nil)
  (pss_cons (ps_set (i := 2) sc_Round_add_.nd rfl (Or.inl rfl) (pe_op (op_cAdd noOw_ok) (pe_cFld (cv 0)) (pe_cFld (cv 1))))
  (pss_one (ps_ret (pe_cMakeS (takes_of rfl rfl rfl rfl) (hr.mono (Nat.le_succ _)) (gf_Round T) (by rfl) (cv 2))))))
theorem ok_Round_add_ {g : Wd} (T : Top g) {fd : FuncData} (F : FunD g.K "__add__" "Round.__add__" (defArgs (inClass (top 50) 6)) (defBody (inClass (top 50) 6)) (defScope (inClass (top 50) 6)) [] [] (mad g.K (gad g.K "Round") "__add__") fd) {j : Nat} {sp : Sp} (h : ∀ vs H Q E, sp vs H Q E → vs.length = 2 ∧ rd_Round_add_ g j E { nx := fun _ H1 => Q .non H1, rt := Q } (L2.start ["self", "other", "joined"] vs) H) : FnOk g.P g.w g.K g.mg g.base (L2.CX g.P g.w) (j + 2) (mad g.K (gad g.K "Round") "__add__") fd ["self", "other"] sp :=
  FunD.ok F sc_Round_add_ (fun vs H Q E hh => (h vs H Q E hh).1) fun cdv A outer s H vs Q E hr hh => ⟨rd_Round_add_ g j E, dv_Round_add_ T hr, (h vs H Q E hh).2⟩
theorem fk_Round_add_ {g : Wd} (T : Top g) (j : Nat) {sp : Sp} (h : ∀ vs H Q E, sp vs H Q E → vs.length = 2 ∧ rd_Round_add_ g j E { nx := fun _ H1 => Q .non H1, rt := Q } (L2.start ["self", "other", "joined"] vs) H) : FnG g (j + 2) (mad g.K (gad g.K "Round") "__add__") sp := by
  obtain ⟨fd, F⟩ := fd_Round_add_ T
  exact fnG_of (ok_Round_add_ T F h) (FunD.bindsN F fun _ _ _ _ _ _ us hl => match us, hl with | [_, _], _ => rfl)
theorem sc_Round_at : FnScope ["self", "t"] ["self", "t"] (defScope (inClass (top 50) 7)) := ⟨rfl, rfl, rfl, by decide +kernel, rfl, by decide +kernel, by decide +kernel⟩
def rd_Round_at (g : Wd) (j : Nat) (E : XK) : TS :=
  tSeq (tDrop (cCall g j (fun cls d _ H => E cls d H) (gad g.K "at_least") (tCons (cV 1) (tCons (tC (.int 0)) (tCons (tC (.str "t")) (tNil))))))
  (tRet (tOp (cIx g.K) (cFld g.K (cV 0) "_budgets") (tOp cMod (cV 1) (tCB (cLen g j) (tCons (cFld g.K (cV 0) "_budgets") (tNil))))))
theorem dv_Round_at {g : Wd} (T : Top g) {j : Nat} {f : Addr} {cdv : Value} {A : Around} {outer : List Env} {s : Shared} {H : Hp} {E : XK} (hr : Room (j + 1) (A.deeper (envOfC "Round.at" (defScope (inClass (top 50) 7)) s.heap.objs.size f cdv))) :
    PSs (cxOf (L2.CX g.P g.w) g.P g.w g.K g.mg g.base ["self", "t"] "Round.at" (defScope (inClass (top 50) 7)) f cdv A outer s H E) (defBody (inClass (top 50) 7)) (rd_Round_at g j E) := by
  unfold rd_Round_at
  exact (pss_cons (ps_expr (pe_cCall (takes_of rfl rfl rfl rfl) (hr.mono (Nat.le_succ _)) (gf_at_least T) (by rfl) (pa_cons (cv 1) (pa_cons pe_int (pa_cons pe_str pa_nil)))))
  (pss_one (ps_ret (pe_ix ix_c (pe_cFld (cv 0)) (pe_op op_cMod (cv 1) (pe_callB (call_cLen hr) (by rfl) (bl_len T) bt_len (pa_cons (pe_cFld (cv 0)) pa_nil))) (fun _ _ => rfl)))))
theorem ok_Round_at {g : Wd} (T : Top g) {fd : FuncData} (F : FunD g.K "at" "Round.at" (defArgs (inClass (top 50) 7)) (defBody (inClass (top 50) 7)) (defScope (inClass (top 50) 7)) [] [] (mad g.K (gad g.K "Round") "at") fd) {j : Nat} {sp : Sp} (h : ∀ vs H Q E, sp vs H Q E → vs.length = 2 ∧ rd_Round_at g j E { nx := fun _ H1 => Q .non H1, rt := Q } (L2.start ["self", "t"] vs) H) : FnOk g.P g.w g.K g.mg g.base (L2.CX g.P g.w) (j + 2) (mad g.K (gad g.K "Round") "at") fd ["self", "t"] sp :=
  FunD.ok F sc_Round_at (fun vs H Q E hh => (h vs H Q E hh).1) fun cdv A outer s H vs Q E hr hh => ⟨rd_Round_at g j E, dv_Round_at T hr, (h vs H Q E hh).2⟩
theorem fk_Round_at {g : Wd} (T : Top g) (j : Nat) {sp : Sp} (h : ∀ vs H Q E, sp vs H Q E → vs.length = 2 ∧ rd_Round_at g j E { nx := fun _ H1 => Q .non H1, rt := Q } (L2.start ["self", "t"] vs) H) : FnG g (j + 2) (mad g.K (gad g.K "Round") "at") sp := by
  obtain ⟨fd, F⟩ := fd_Round_at T
  exact fnG_of (ok_Round_at T F h) (FunD.bindsN F fun _ _ _ _ _ _ us hl => match us, hl with | [_, _], _ => rfl)
theorem sc_Round_total : FnScope ["self", "start", "count"] ["self", "start", "count"] (defScope (inClass (top 50) 9)) := ⟨rfl, rfl, rfl, by decide +kernel, rfl, by decide +kernel, by decide +kernel⟩
def rd_Round_total (g : Wd) (j : Nat) (E : XK) : TS :=
  tSeq (tDrop (cCall g j (fun cls d _ H => E cls d H) (gad g.K "at_least") (tCons (cV 1) (tCons (tC (.int 0)) (tCons (tC (.str "start")) (tNil))))))
  (tSeq (tDrop (cCall g j (fun cls d _ H => E cls d H) (gad g.K "at_least") (tCons (cV 2) (tCons (tC (.int 0)) (tCons (tC (.str "count")) (tNil))))))
  (tRet (cMeth g j (fun cls d _ H => E cls d H) "_window" (cV 0) (tCons (cV 1) (tCons (cV 2) (tNil))))))
theorem dv_Round_total {g : Wd} (T : Top g) {j : Nat} {f : Addr} {cdv : Value} {A : Around} {outer : List Env} {s : Shared} {H : Hp} {E : XK} (hr : Room (j + 1) (A.deeper (envOfC "Round.total" (defScope (inClass (top 50) 9)) s.heap.objs.size f cdv))) :
    PSs (cxOf (L2.CX g.P g.w) g.P g.w g.K g.mg g.base ["self", "start", "count"] "Round.total" (defScope (inClass (top 50) 9)) f cdv A outer s H E) (defBody (inClass (top 50) 9)) (rd_Round_total g j E) := by
  unfold rd_Round_total
  exact (pss_cons (ps_expr (pe_cCall (takes_of rfl rfl rfl rfl) (hr.mono (Nat.le_succ _)) (gf_at_least T) (by rfl) (pa_cons (cv 1) (pa_cons pe_int (pa_cons pe_str pa_nil)))))
  (pss_cons (ps_expr (pe_cCall (takes_of rfl rfl rfl rfl) (hr.mono (Nat.le_succ _)) (gf_at_least T) (by rfl) (pa_cons (cv 2) (pa_cons pe_int (pa_cons pe_str pa_nil)))))
  (pss_one (ps_ret (pe_cMeth (takes_of rfl rfl rfl rfl) (hr.mono (Nat.le_succ _)) (cv 0) (pa_cons (cv 1) (pa_cons (cv 2) pa_nil)))))))
theorem ok_Round_total {g : Wd} (T : Top g) {fd : FuncData} (F : FunD g.K "total" "Round.total" (defArgs (inClass (top 50) 9)) (defBody (inClass (top 50) 9)) (defScope (inClass (top 50) 9)) [] [] (mad g.K (gad g.K "Round") "total") fd) {j : Nat} {sp : Sp} (h : ∀ vs H Q E, sp vs H Q E → vs.length = 3 ∧ rd_Round_total g j E { nx := fun _ H1 => Q .non H1, rt := Q } (L2.start ["self", "start", "count"] vs) H) : FnOk g.P g.w g.K g.mg g.base (L2.CX g.P g.w) (j + 2) (mad g.K (gad g.K "Round") "total") fd ["self", "start", "count"] sp :=
  FunD.ok F sc_Round_total (fun vs H Q E hh => (h vs H Q E hh).1) fun cdv A outer s H vs Q E hr hh => ⟨rd_Round_total g j E, dv_Round_total T hr, (h vs H Q E hh).2⟩
theorem fk_Round_total {g : Wd} (T : Top g) (j : Nat) {sp : Sp} (h : ∀ vs H Q E, sp vs H Q E → vs.length = 3 ∧ rd_Round_total g j E { nx := fun _ H1 => Q .non H1, rt := Q } (L2.start ["self", "start", "count"] vs) H) : FnG g (j + 2) (mad g.K (gad g.K "Round") "total") sp := by
  obtain ⟨fd, F⟩ := fd_Round_total T
  exact fnG_of (ok_Round_total T F h) (FunD.bindsN F fun _ _ _ _ _ _ us hl => match us, hl with | [_, _, _], _ => rfl)
theorem sc_Round_least : FnScope ["self", "count"] ["self", "count"] (defScope (inClass (top 50) 10)) := ⟨rfl, rfl, rfl, by decide +kernel, rfl, by decide +kernel, by decide +kernel⟩
def rd_Round_least (g : Wd) (j : Nat) (E : XK) : TS :=
  tSeq (tDrop (cCall g j (fun cls d _ H => E cls d H) (gad g.K "at_least") (tCons (cV 1) (tCons (tC (.int 0)) (tCons (tC (.str "count")) (tNil))))))
  (tRet (tCB (cMin g.K) (tCons (cMeth g j (fun cls d _ H => E cls d H) "_windows" (cV 0) (tCons (cV 1) (tNil))) (tNil))))
theorem dv_Round_least {g : Wd} (T : Top g) {j : Nat} {f : Addr} {cdv : Value} {A : Around} {outer : List Env} {s : Shared} {H : Hp} {E : XK} (hr : Room (j + 1) (A.deeper (envOfC "Round.least" (defScope (inClass (top 50) 10)) s.heap.objs.size f cdv))) :
    PSs (cxOf (L2.CX g.P g.w) g.P g.w g.K g.mg g.base ["self", "count"] "Round.least" (defScope (inClass (top 50) 10)) f cdv A outer s H E) (defBody (inClass (top 50) 10)) (rd_Round_least g j E) := by
  unfold rd_Round_least
  exact (pss_cons (ps_expr (pe_cCall (takes_of rfl rfl rfl rfl) (hr.mono (Nat.le_succ _)) (gf_at_least T) (by rfl) (pa_cons (cv 1) (pa_cons pe_int (pa_cons pe_str pa_nil)))))
  (pss_one (ps_ret (pe_callB (call_cMin rfl) (by rfl) (bl_min T) bt_min (pa_cons (pe_cMeth (takes_of rfl rfl rfl rfl) (hr.mono (Nat.le_succ _)) (cv 0) (pa_cons (cv 1) pa_nil)) pa_nil)))))
theorem ok_Round_least {g : Wd} (T : Top g) {fd : FuncData} (F : FunD g.K "least" "Round.least" (defArgs (inClass (top 50) 10)) (defBody (inClass (top 50) 10)) (defScope (inClass (top 50) 10)) [] [] (mad g.K (gad g.K "Round") "least") fd) {j : Nat} {sp : Sp} (h : ∀ vs H Q E, sp vs H Q E → vs.length = 2 ∧ rd_Round_least g j E { nx := fun _ H1 => Q .non H1, rt := Q } (L2.start ["self", "count"] vs) H) : FnOk g.P g.w g.K g.mg g.base (L2.CX g.P g.w) (j + 2) (mad g.K (gad g.K "Round") "least") fd ["self", "count"] sp :=
  FunD.ok F sc_Round_least (fun vs H Q E hh => (h vs H Q E hh).1) fun cdv A outer s H vs Q E hr hh => ⟨rd_Round_least g j E, dv_Round_least T hr, (h vs H Q E hh).2⟩
theorem fk_Round_least {g : Wd} (T : Top g) (j : Nat) {sp : Sp} (h : ∀ vs H Q E, sp vs H Q E → vs.length = 2 ∧ rd_Round_least g j E { nx := fun _ H1 => Q .non H1, rt := Q } (L2.start ["self", "count"] vs) H) : FnG g (j + 2) (mad g.K (gad g.K "Round") "least") sp := by
  obtain ⟨fd, F⟩ := fd_Round_least T
  exact fnG_of (ok_Round_least T F h) (FunD.bindsN F fun _ _ _ _ _ _ us hl => match us, hl with | [_, _], _ => rfl)
theorem sc_Round__window : FnScope ["self", "start", "count", "turns", "rest", "first", "twice"] ["self", "start", "count"] (defScope (inClass (top 50) 13)) := ⟨rfl, rfl, rfl, by decide +kernel, rfl, by decide +kernel, by decide +kernel⟩
def rd_Round__window (g : Wd) (j : Nat) (E : XK) : TS :=
  tSeq (tAsg (tCB (cDivmod) (tCons (cV 2) (tCons (tCB (cLen g j) (tCons (cFld g.K (cV 0) "_budgets") (tNil))) (tNil)))) (cgTup g.K 2 (cgCons (gName 3) (cgCons (gName 4) (cgNil)))))
  (tSeq (tAsg (tOp cMod (cV 1) (tCB (cLen g j) (tCons (cFld g.K (cV 0) "_budgets") (tNil)))) (gName 5))
  (tSeq (tAsg (tOp (cAdd g.K noOw) (cFld g.K (cV 0) "_budgets") (cFld g.K (cV 0) "_budgets")) (gName 6))
  (tRet (tOp (cAdd g.K noOw) (tOp cMul (cV 3) (tCB (cSum g.K) (tCons (cFld g.K (cV 0) "_budgets") (tNil)))) (tCB (cSum g.K) (tCons (tSl (cSl g.K) (cV 6) (cPart (cV 5)) (cPart (tOp (cAdd g.K noOw) (cV 5) (cV 4)))) (tNil)))))))
theorem dv_Round__window {g : Wd} (T : Top g) {j : Nat} {f : Addr} {cdv : Value} {A : Around} {outer : List Env} {s : Shared} {H : Hp} {E : XK} (hr : Room (j + 1) (A.deeper (envOfC "Round._window" (defScope (inClass (top 50) 13)) s.heap.objs.size f cdv))) :
    PSs (cxOf (L2.CX g.P g.w) g.P g.w g.K g.mg g.base ["self", "start", "count", "turns", "rest", "first", "twice"] "Round._window" (defScope (inClass (top 50) 13)) f cdv A outer s H E) (defBody (inClass (top 50) 13)) (rd_Round__window g j E) := by
  unfold rd_Round__window
  exact (pss_cons (ps_asg (pe_callB (call_cDivmod) (by rfl) (bl_divmod T) bt_divmod (pa_cons (cv 2) (pa_cons (pe_callB (call_cLen hr) (by rfl) (bl_len T) bt_len (pa_cons (pe_cFld (cv 0)) pa_nil)) pa_nil))) (pg_ctup rfl (pgs_ccons (pg_name sc_Round__window.nd rfl (Or.inl rfl)) (pgs_ccons (pg_name sc_Round__window.nd rfl (Or.inl rfl)) pgs_cnil))))
  (pss_cons (ps_set (i := 5) sc_Round__window.nd rfl (Or.inl rfl) (pe_op op_cMod (cv 1) (pe_callB (call_cLen hr) (by rfl) (bl_len T) bt_len (pa_cons (pe_cFld (cv 0)) pa_nil))))
  (pss_cons (ps_set (i := 6) sc_Round__window.nd rfl (Or.inl rfl) (pe_op (op_cAdd noOw_ok) (pe_cFld (cv 0)) (pe_cFld (cv 0))))
  (pss_one (ps_ret (pe_op (op_cAdd noOw_ok) (pe_op op_cMul (cv 3) (pe_callB (call_cSum rfl) (by rfl) (bl_sum T) bt_sum (pa_cons (pe_cFld (cv 0)) pa_nil))) (pe_callB (call_cSum rfl) (by rfl) (bl_sum T) bt_sum (pa_cons (pe_slice sl_c (cv 6) (po_c (cv 5)) (po_c (pe_op (op_cAdd noOw_ok) (cv 5) (cv 4)))) pa_nil))))))))
theorem ok_Round__window {g : Wd} (T : Top g) {fd : FuncData} (F : FunD g.K "_window" "Round._window" (defArgs (inClass (top 50) 13)) (defBody (inClass (top 50) 13)) (defScope (inClass (top 50) 13)) [] [] (mad g.K (gad g.K "Round") "_window") fd) {j : Nat} {sp : Sp} (h : ∀ vs H Q E, sp vs H Q E → vs.length = 3 ∧ rd_Round__window g j E { nx := fun _ H1 => Q .non H1, rt := Q } (L2.start ["self", "start", "count", "turns", "rest", "first", "twice"] vs) H) : FnOk g.P g.w g.K g.mg g.base (L2.CX g.P g.w) (j + 2) (mad g.K (gad g.K "Round") "_window") fd ["self", "start", "count"] sp :=
  FunD.ok F sc_Round__window (fun vs H Q E hh => (h vs H Q E hh).1) fun cdv A outer s H vs Q E hr hh => ⟨rd_Round__window g j E, dv_Round__window T hr, (h vs H Q E hh).2⟩
theorem fk_Round__window {g : Wd} (T : Top g) (j : Nat) {sp : Sp} (h : ∀ vs H Q E, sp vs H Q E → vs.length = 3 ∧ rd_Round__window g j E { nx := fun _ H1 => Q .non H1, rt := Q } (L2.start ["self", "start", "count", "turns", "rest", "first", "twice"] vs) H) : FnG g (j + 2) (mad g.K (gad g.K "Round") "_window") sp := by
  obtain ⟨fd, F⟩ := fd_Round__window T
  exact fnG_of (ok_Round__window T F h) (FunD.bindsN F fun _ _ _ _ _ _ us hl => match us, hl with | [_, _, _], _ => rfl)
theorem sc_Round__windows : FnScope ["self", "count", "start"] ["self", "count"] (defScope (inClass (top 50) 14)) := ⟨rfl, rfl, rfl, by decide +kernel, rfl, by decide +kernel, by decide +kernel⟩
def rd_Round__windows (g : Wd) (j : Nat) (E : XK) : TS :=
  tRet (tLc (iRng1 (tCons (tCB (cLen g j) (tCons (cFld g.K (cV 0) "_budgets") (tNil))) (tNil))) (gName 2) (tYes) (cMeth g j (fun _ _ _ _ => False) "_window" (cV 0) (tCons (cV 2) (tCons (cV 1) (tNil)))) [2])
theorem dv_Round__windows {g : Wd} (T : Top g) {j : Nat} {f : Addr} {cdv : Value} {A : Around} {outer : List Env} {s : Shared} {H : Hp} {E : XK} (hr : Room (j + 1) (A.deeper (envOfC "Round._windows" (defScope (inClass (top 50) 14)) s.heap.objs.size f cdv))) :
    PSs (cxOf (L2.CX g.P g.w) g.P g.w g.K g.mg g.base ["self", "count", "start"] "Round._windows" (defScope (inClass (top 50) 14)) f cdv A outer s H E) (defBody (inClass (top 50) 14)) (rd_Round__windows g j E) := by
  unfold rd_Round__windows
  exact (pss_one (ps_ret (pe_lc rfl sc_Round__windows.nd (pi_range1 (by rfl) (bl_range T) (pa_cons (pe_callB (call_cLen hr) (by rfl) (bl_len T) bt_len (pa_cons (pe_cFld (cv 0)) pa_nil)) pa_nil)) (blkOk_by (own := [("start", 2)]) (by change blkC ["self", "count", "start"] (defScope (inClass (top 50) 14)) _ _ = true; decide +kernel)) (fun s H C cl fp => (pg_name sc_Round__windows.nd rfl (Or.inl rfl))) (fun s H C cl fp => pts_nil) (fun s H C cl fp => (pe_cMeth takes0 (hr.mono (Nat.le_succ _)) (cv 0) (pa_cons (cv 2) (pa_cons (cv 1) pa_nil)))))))
theorem ok_Round__windows {g : Wd} (T : Top g) {fd : FuncData} (F : FunD g.K "_windows" "Round._windows" (defArgs (inClass (top 50) 14)) (defBody (inClass (top 50) 14)) (defScope (inClass (top 50) 14)) [] [] (mad g.K (gad g.K "Round") "_windows") fd) {j : Nat} {sp : Sp} (h : ∀ vs H Q E, sp vs H Q E → vs.length = 2 ∧ rd_Round__windows g j E { nx := fun _ H1 => Q .non H1, rt := Q } (L2.start ["self", "count", "start"] vs) H) : FnOk g.P g.w g.K g.mg g.base (L2.CX g.P g.w) (j + 2) (mad g.K (gad g.K "Round") "_windows") fd ["self", "count"] sp :=
  FunD.ok F sc_Round__windows (fun vs H Q E hh => (h vs H Q E hh).1) fun cdv A outer s H vs Q E hr hh => ⟨rd_Round__windows g j E, dv_Round__windows T hr, (h vs H Q E hh).2⟩
theorem fk_Round__windows {g : Wd} (T : Top g) (j : Nat) {sp : Sp} (h : ∀ vs H Q E, sp vs H Q E → vs.length = 2 ∧ rd_Round__windows g j E { nx := fun _ H1 => Q .non H1, rt := Q } (L2.start ["self", "count", "start"] vs) H) : FnG g (j + 2) (mad g.K (gad g.K "Round") "_windows") sp := by
  obtain ⟨fd, F⟩ := fd_Round__windows T
  exact fnG_of (ok_Round__windows T F h) (FunD.bindsN F fun _ _ _ _ _ _ us hl => match us, hl with | [_, _], _ => rfl)
theorem sc__law_is_count : FnScope ["_law_thing"] ["_law_thing"] (defScope (top 52)) := ⟨rfl, rfl, rfl, by decide +kernel, rfl, by decide +kernel, by decide +kernel⟩
def rd__law_is_count (g : Wd) (j : Nat) (E : XK) : TS :=
  tRet (cAndV (tCB (cIsi g.K) (tCons (cV 0) (tCons (tC (.ty "int")) (tNil)))) (cNotV (tCB (cIsi g.K) (tCons (cV 0) (tCons (tC (.ty "bool")) (tNil))))))
theorem dv__law_is_count {g : Wd} (T : Top g) {j : Nat} {f : Addr} {cdv : Value} {A : Around} {outer : List Env} {s : Shared} {H : Hp} {E : XK} (hr : Room (j + 1) (A.deeper (envOfC "_law_is_count" (defScope (top 52)) s.heap.objs.size f cdv))) :
    PSs (cxOf (L2.CX g.P g.w) g.P g.w g.K g.mg g.base ["_law_thing"] "_law_is_count" (defScope (top 52)) f cdv A outer s H E) (defBody (top 52)) (rd__law_is_count g j E) := by
  unfold rd__law_is_count
  exact (pss_one (ps_ret (pe_cAnd (pe_callB (call_cIsi) (by rfl) (bl_isinstance T) bt_isinstance (pa_cons (cv 0) (pa_cons (pe_bltn (v := .ty "int") (by rfl) (bl_int T) bt_int (by rfl)) pa_nil))) (pe_one (pe_cNot (pe_callB (call_cIsi) (by rfl) (bl_isinstance T) bt_isinstance (pa_cons (cv 0) (pa_cons (pe_bltn (v := .ty "bool") (by rfl) (bl_bool T) bt_bool (by rfl)) pa_nil))))))))
theorem ok__law_is_count {g : Wd} (T : Top g) {fd : FuncData} (F : FunD g.K "_law_is_count" "_law_is_count" (defArgs (top 52)) (defBody (top 52)) (defScope (top 52)) [] [] (gad g.K "_law_is_count") fd) {j : Nat} {sp : Sp} (h : ∀ vs H Q E, sp vs H Q E → vs.length = 1 ∧ rd__law_is_count g j E { nx := fun _ H1 => Q .non H1, rt := Q } (L2.start ["_law_thing"] vs) H) : FnOk g.P g.w g.K g.mg g.base (L2.CX g.P g.w) (j + 2) (gad g.K "_law_is_count") fd ["_law_thing"] sp :=
  FunD.ok F sc__law_is_count (fun vs H Q E hh => (h vs H Q E hh).1) fun cdv A outer s H vs Q E hr hh => ⟨rd__law_is_count g j E, dv__law_is_count T hr, (h vs H Q E hh).2⟩
theorem fk__law_is_count {g : Wd} (T : Top g) (j : Nat) {sp : Sp} (h : ∀ vs H Q E, sp vs H Q E → vs.length = 1 ∧ rd__law_is_count g j E { nx := fun _ H1 => Q .non H1, rt := Q } (L2.start ["_law_thing"] vs) H) : FnG g (j + 2) (gad g.K "_law_is_count") sp := by
  obtain ⟨fd, F⟩ := fd__law_is_count T
  exact fnG_of (ok__law_is_count T F h) (FunD.bindsN F fun _ _ _ _ _ _ us hl => match us, hl with | [_], _ => rfl)
theorem sc__law_box : FnScope ["_law_script", "_law_at", "_law_seed", "_law_cell"] ["_law_script", "_law_at"] (defScope (top 53)) := ⟨rfl, rfl, rfl, by decide +kernel, rfl, by decide +kernel, by decide +kernel⟩
def rd__law_box (g : Wd) (j : Nat) (E : XK) : TS :=
  tSeq (tAsg (tCB (cSum g.K) (tCons (tLc (iSeq g.K (tSl (cSl g.K) (cV 0) (tNoPart) (cPart (tC (.int 63))))) (gName 3) (tYes) (tOp cMod (tCB (cInt) (tCons (cV 3) (tNil))) (tC (.int 1000003))) [3]) (tNil))) (gName 2))
  (tRet (tLst (tCons (tC (.int 0)) (tCons (tOp cMod (tCB (cInt) (tCons (tOp (cAdd g.K noOw) (tOp (cAdd g.K noOw) (cV 2) (tOp cMul (tC (.int 7919)) (cV 1))) (tC (.int 101))) (tNil))) (tC (.int 2147483647))) (tCons (tC (.int 0)) (tCons (cV 1) (tNil)))))))
theorem dv__law_box {g : Wd} (T : Top g) {j : Nat} {f : Addr} {cdv : Value} {A : Around} {outer : List Env} {s : Shared} {H : Hp} {E : XK} (hr : Room (j + 1) (A.deeper (envOfC "_law_box" (defScope (top 53)) s.heap.objs.size f cdv))) :
    PSs (cxOf (L2.CX g.P g.w) g.P g.w g.K g.mg g.base ["_law_script", "_law_at", "_law_seed", "_law_cell"] "_law_box" (defScope (top 53)) f cdv A outer s H E) (defBody (top 53)) (rd__law_box g j E) := by
  unfold rd__law_box
  exact (pss_cons (ps_set (i := 2) sc__law_box.nd rfl (Or.inl rfl) (pe_callB (call_cSum rfl) (by rfl) (bl_sum T) bt_sum (pa_cons (pe_lc rfl sc__law_box.nd (pi_seq (pe_slice sl_c (cv 0) po_none (po_c pe_int))) (blkOk_by (own := [("_law_cell", 3)]) (by change blkC ["_law_script", "_law_at", "_law_seed", "_law_cell"] (defScope (top 53)) _ _ = true; decide +kernel)) (fun s H C cl fp => (pg_name sc__law_box.nd rfl (Or.inl rfl))) (fun s H C cl fp => pts_nil) (fun s H C cl fp => (pe_op op_cMod (pe_callTy (call_cInt) (by rfl) (bl_int T) bt_int (pa_cons (cv 3) pa_nil)) pe_int))) pa_nil)))
  (pss_one (ps_ret (pe_lst (pa_cons pe_int (pa_cons (pe_op op_cMod (pe_callTy (call_cInt) (by rfl) (bl_int T) bt_int (pa_cons (pe_op (op_cAdd noOw_ok) (pe_op (op_cAdd noOw_ok) (cv 2) (pe_op op_cMul pe_int (cv 1))) pe_int) pa_nil)) pe_int) (pa_cons pe_int (pa_cons (cv 1) pa_nil))))))))
theorem ok__law_box {g : Wd} (T : Top g) {fd : FuncData} (F : FunD g.K "_law_box" "_law_box" (defArgs (top 53)) (defBody (top 53)) (defScope (top 53)) [] [] (gad g.K "_law_box") fd) {j : Nat} {sp : Sp} (h : ∀ vs H Q E, sp vs H Q E → vs.length = 2 ∧ rd__law_box g j E { nx := fun _ H1 => Q .non H1, rt := Q } (L2.start ["_law_script", "_law_at", "_law_seed", "_law_cell"] vs) H) : FnOk g.P g.w g.K g.mg g.base (L2.CX g.P g.w) (j + 2) (gad g.K "_law_box") fd ["_law_script", "_law_at"] sp :=
  FunD.ok F sc__law_box (fun vs H Q E hh => (h vs H Q E hh).1) fun cdv A outer s H vs Q E hr hh => ⟨rd__law_box g j E, dv__law_box T hr, (h vs H Q E hh).2⟩
theorem fk__law_box {g : Wd} (T : Top g) (j : Nat) {sp : Sp} (h : ∀ vs H Q E, sp vs H Q E → vs.length = 2 ∧ rd__law_box g j E { nx := fun _ H1 => Q .non H1, rt := Q } (L2.start ["_law_script", "_law_at", "_law_seed", "_law_cell"] vs) H) : FnG g (j + 2) (gad g.K "_law_box") sp := by
  obtain ⟨fd, F⟩ := fd__law_box T
  exact fnG_of (ok__law_box T F h) (FunD.bindsN F fun _ _ _ _ _ _ us hl => match us, hl with | [_, _], _ => rfl)
theorem sc__law_take : FnScope ["_law_script", "_law_box_here", "_law_many", "_law_cell", "_law_digit"] ["_law_script", "_law_box_here", "_law_many"] (defScope (top 54)) := ⟨rfl, rfl, rfl, by decide +kernel, rfl, by decide +kernel, by decide +kernel⟩
def rd__law_take (g : Wd) (j : Nat) (E : XK) : TS :=
  tSeq (tIfS (tAnd (cTest (tOp (cEqN g.K false) (tOp (cIx g.K) (cV 1) (tC (.int 0))) (tC (.int 0)))) (cTest (tOp cLt (tOp (cIx g.K) (cV 1) (tC (.int 3))) (tCB (cMin g.K) (tCons (tC (.int 63)) (tCons (tCB (cLen g j) (tCons (cV 0) (tNil))) (tNil))))))) (tSeq (tAsg (tCB (cInt) (tCons (tOp (cIx g.K) (cV 0) (tOp (cIx g.K) (cV 1) (tC (.int 3)))) (tNil))) (gName 3))
  (tSeq (tAsg (tOp (cAdd g.K noOw) (tOp (cIx g.K) (cV 1) (tC (.int 3))) (tC (.int 5))) (gSub (cV 1) (tC (.int 3)) cSetIx))
  (tSeq (tAsg (tOp cMod (tCB (cInt) (tCons (tOp (cAdd g.K noOw) (tOp (cAdd g.K noOw) (tOp cMul (tOp (cIx g.K) (cV 1) (tC (.int 1))) (tC (.int 31))) (cV 3)) (tC (.int 17))) (tNil))) (tC (.int 2147483647))) (gSub (cV 1) (tC (.int 1)) cSetIx))
  (tIfS (cTest (tOp cGe (tCB (cAbs) (tCons (cV 3) (tNil))) (tOp cPow (tC (.int 10)) (tC (.int 18))))) (tAsg (tCB (cAbs) (tCons (cV 3) (tNil))) (gSub (cV 1) (tC (.int 0)) cSetIx)) (tNext))))) (tNext))
  (tSeq (tIfS (cTest (tOp cGt (tOp (cIx g.K) (cV 1) (tC (.int 0))) (tC (.int 0)))) (tSeq (tAsg (tOp cMod (tCB (cInt) (tCons (tOp (cIx g.K) (cV 1) (tC (.int 0))) (tNil))) (cV 2)) (gName 4))
  (tSeq (tAsg (tOp cDiv (tOp (cIx g.K) (cV 1) (tC (.int 0))) (cV 2)) (gSub (cV 1) (tC (.int 0)) cSetIx))
  (tRet (cV 4)))) (tNext))
  (tSeq (tAsg (tOp (cAdd g.K noOw) (tOp (cIx g.K) (cV 1) (tC (.int 2))) (tC (.int 1))) (gSub (cV 1) (tC (.int 2)) cSetIx))
  (tSeq (tAsg (tOp cMod (tCB (cInt) (tCons (tOp (cAdd g.K noOw) (tOp (cAdd g.K noOw) (tOp cMul (tOp (cIx g.K) (cV 1) (tC (.int 1))) (tC (.int 48271))) (tOp cMul (tOp (cIx g.K) (cV 1) (tC (.int 2))) (tC (.int 69621)))) (tC (.int 12345))) (tNil))) (tC (.int 2147483647))) (gSub (cV 1) (tC (.int 1)) cSetIx))
  (tRet (tOp cMod (tOp cDiv (tOp cMod (tCB (cInt) (tCons (tOp (cAdd g.K noOw) (tOp cMul (tOp cDiv (tOp (cIx g.K) (cV 1) (tC (.int 1))) (tC (.int 16))) (tC (.int 40692))) (tOp cMul (tOp (cIx g.K) (cV 1) (tC (.int 2))) (tC (.int 7)))) (tNil))) (tC (.int 2147483399))) (tC (.int 8))) (cV 2))))))
theorem dv__law_take {g : Wd} (T : Top g) {j : Nat} {f : Addr} {cdv : Value} {A : Around} {outer : List Env} {s : Shared} {H : Hp} {E : XK} (hr : Room (j + 1) (A.deeper (envOfC "_law_take" (defScope (top 54)) s.heap.objs.size f cdv))) :
    PSs (cxOf (L2.CX g.P g.w) g.P g.w g.K g.mg g.base ["_law_script", "_law_box_here", "_law_many", "_law_cell", "_law_digit"] "_law_take" (defScope (top 54)) f cdv A outer s H E) (defBody (top 54)) (rd__law_take g j E) := by
  unfold rd__law_take
  exact (pss_cons (ps_if (pw_and (ptc (op_cEq hr.units) (pe_ix ix_c (cv 1) pe_int (fun _ _ => rfl)) pe_int (nomark _)) (pw_and1 (ptc op_cLt (pe_ix ix_c (cv 1) pe_int (fun _ _ => rfl)) (pe_callB (call_cMin rfl) (by rfl) (bl_min T) bt_min (pa_cons pe_int (pa_cons (pe_callB (call_cLen hr) (by rfl) (bl_len T) bt_len (pa_cons (cv 0) pa_nil)) pa_nil))) (nomark _)))).pt (pss_cons (ps_set (i := 3) sc__law_take.nd rfl (Or.inl rfl) (pe_callTy (call_cInt) (by rfl) (bl_int T) bt_int (pa_cons (pe_ix ix_c (cv 0) (pe_ix ix_c (cv 1) pe_int (fun _ _ => rfl)) (fun _ _ => rfl)) pa_nil)))
  (pss_cons (ps_asg (pe_op (op_cAdd noOw_ok) (pe_ix ix_c (cv 1) pe_int (fun _ _ => rfl)) pe_int) (pg_sub (cv 1) pe_int set_c))
  (pss_cons (ps_asg (pe_op op_cMod (pe_callTy (call_cInt) (by rfl) (bl_int T) bt_int (pa_cons (pe_op (op_cAdd noOw_ok) (pe_op (op_cAdd noOw_ok) (pe_op op_cMul (pe_ix ix_c (cv 1) pe_int (fun _ _ => rfl)) pe_int) (cv 3)) pe_int) pa_nil)) pe_int) (pg_sub (cv 1) pe_int set_c))
  (pss_one (ps_if (ptc op_cGe (pe_callB (call_cAbs) (by rfl) (bl_abs T) bt_abs (pa_cons (cv 3) pa_nil)) (pe_op op_cPow pe_int pe_int) (nomark _)) (pss_one (ps_asg (pe_callB (call_cAbs) (by rfl) (bl_abs T) bt_abs (pa_cons (cv 3) pa_nil)) (pg_sub (cv 1) pe_int set_c))) pss_nil))))) pss_nil)
  (pss_cons (ps_if (ptc op_cGt (pe_ix ix_c (cv 1) pe_int (fun _ _ => rfl)) pe_int (nomark _)) (pss_cons (ps_set (i := 4) sc__law_take.nd rfl (Or.inl rfl) (pe_op op_cMod (pe_callTy (call_cInt) (by rfl) (bl_int T) bt_int (pa_cons (pe_ix ix_c (cv 1) pe_int (fun _ _ => rfl)) pa_nil)) (cv 2)))
  (pss_cons (ps_asg (pe_op op_cDiv (pe_ix ix_c (cv 1) pe_int (fun _ _ => rfl)) (cv 2)) (pg_sub (cv 1) pe_int set_c))
  (pss_one (ps_ret (cv 4))))) pss_nil)
  (pss_cons (ps_asg (pe_op (op_cAdd noOw_ok) (pe_ix ix_c (cv 1) pe_int (fun _ _ => rfl)) pe_int) (pg_sub (cv 1) pe_int set_c))
  (pss_cons (ps_asg (pe_op op_cMod (pe_callTy (call_cInt) (by rfl) (bl_int T) bt_int (pa_cons (pe_op (op_cAdd noOw_ok) (pe_op (op_cAdd noOw_ok) (pe_op op_cMul (pe_ix ix_c (cv 1) pe_int (fun _ _ => rfl)) pe_int) (pe_op op_cMul (pe_ix ix_c (cv 1) pe_int (fun _ _ => rfl)) pe_int)) pe_int) pa_nil)) pe_int) (pg_sub (cv 1) pe_int set_c))
  (pss_one (ps_ret (pe_op op_cMod (pe_op op_cDiv (pe_op op_cMod (pe_callTy (call_cInt) (by rfl) (bl_int T) bt_int (pa_cons (pe_op (op_cAdd noOw_ok) (pe_op op_cMul (pe_op op_cDiv (pe_ix ix_c (cv 1) pe_int (fun _ _ => rfl)) pe_int) pe_int) (pe_op op_cMul (pe_ix ix_c (cv 1) pe_int (fun _ _ => rfl)) pe_int)) pa_nil)) pe_int) pe_int) (cv 2))))))))
theorem ok__law_take {g : Wd} (T : Top g) {fd : FuncData} (F : FunD g.K "_law_take" "_law_take" (defArgs (top 54)) (defBody (top 54)) (defScope (top 54)) [] [] (gad g.K "_law_take") fd) {j : Nat} {sp : Sp} (h : ∀ vs H Q E, sp vs H Q E → vs.length = 3 ∧ rd__law_take g j E { nx := fun _ H1 => Q .non H1, rt := Q } (L2.start ["_law_script", "_law_box_here", "_law_many", "_law_cell", "_law_digit"] vs) H) : FnOk g.P g.w g.K g.mg g.base (L2.CX g.P g.w) (j + 2) (gad g.K "_law_take") fd ["_law_script", "_law_box_here", "_law_many"] sp :=
  FunD.ok F sc__law_take (fun vs H Q E hh => (h vs H Q E hh).1) fun cdv A outer s H vs Q E hr hh => ⟨rd__law_take g j E, dv__law_take T hr, (h vs H Q E hh).2⟩
theorem fk__law_take {g : Wd} (T : Top g) (j : Nat) {sp : Sp} (h : ∀ vs H Q E, sp vs H Q E → vs.length = 3 ∧ rd__law_take g j E { nx := fun _ H1 => Q .non H1, rt := Q } (L2.start ["_law_script", "_law_box_here", "_law_many", "_law_cell", "_law_digit"] vs) H) : FnG g (j + 2) (gad g.K "_law_take") sp := by
  obtain ⟨fd, F⟩ := fd__law_take T
  exact fnG_of (ok__law_take T F h) (FunD.bindsN F fun _ _ _ _ _ _ us hl => match us, hl with | [_, _, _], _ => rfl)
theorem sc__law_round : FnScope ["_law_pays_here", "_law_made", "_law_pay"] ["_law_pays_here"] (defScope (top 55)) := ⟨rfl, rfl, rfl, by decide +kernel, rfl, by decide +kernel, by decide +kernel⟩
def rd__law_round (g : Wd) (j : Nat) (E : XK) : TS :=
  tSeq (tAsg (cMake g j (fun cls d _ H => E cls d H) (gad g.K "Round") (tCons (tOp (cIx g.K) (cV 0) (tC (.int 0))) (tNil))) (gName 1))
  (tSeq (tFor (iSeq g.K (tSl (cSl g.K) (cV 0) (cPart (tC (.int 1))) (tNoPart))) (gName 2) (tAsg (tOp (cAdd g.K (OwAdd g j)) (cV 1) (cMake g j (fun cls d _ H => E cls d H) (gad g.K "Round") (tCons (cV 2) (tNil)))) (gName 1)))
  (tRet (cV 1)))
theorem dv__law_round {g : Wd} (T : Top g) {j : Nat} {f : Addr} {cdv : Value} {A : Around} {outer : List Env} {s : Shared} {H : Hp} {E : XK} (hr : Room (j + 1) (A.deeper (envOfC "_law_round" (defScope (top 55)) s.heap.objs.size f cdv))) :
    PSs (cxOf (L2.CX g.P g.w) g.P g.w g.K g.mg g.base ["_law_pays_here", "_law_made", "_law_pay"] "_law_round" (defScope (top 55)) f cdv A outer s H E) (defBody (top 55)) (rd__law_round g j E) := by
  unfold rd__law_round
  exact (pss_cons (ps_set (i := 1) sc__law_round.nd rfl (Or.inl rfl) (pe_cMake (takes_of rfl rfl rfl rfl) (hr.mono (Nat.le_succ _)) (gf_Round T) (by rfl) (pa_cons (pe_ix ix_c (cv 0) pe_int (fun _ _ => rfl)) pa_nil)))
  (pss_cons (ps_for (passes_of rfl) rfl (pi_seq (pe_slice sl_c (cv 0) (po_c pe_int) po_none)) (pg_name sc__law_round.nd rfl (Or.inl rfl)) (pss_one (ps_set (i := 1) sc__law_round.nd rfl (Or.inl rfl) (pe_op (op_cAdd (owAdd_ok (hr.mono (Nat.le_succ _)))) (cv 1) (pe_cMake (takes_of rfl rfl rfl rfl) (hr.mono (Nat.le_succ _)) (gf_Round T) (by rfl) (pa_cons (cv 2) pa_nil))))))
  (pss_one (ps_ret (cv 1)))))
theorem ok__law_round {g : Wd} (T : Top g) {fd : FuncData} (F : FunD g.K "_law_round" "_law_round" (defArgs (top 55)) (defBody (top 55)) (defScope (top 55)) [] [] (gad g.K "_law_round") fd) {j : Nat} {sp : Sp} (h : ∀ vs H Q E, sp vs H Q E → vs.length = 1 ∧ rd__law_round g j E { nx := fun _ H1 => Q .non H1, rt := Q } (L2.start ["_law_pays_here", "_law_made", "_law_pay"] vs) H) : FnOk g.P g.w g.K g.mg g.base (L2.CX g.P g.w) (j + 2) (gad g.K "_law_round") fd ["_law_pays_here"] sp :=
  FunD.ok F sc__law_round (fun vs H Q E hh => (h vs H Q E hh).1) fun cdv A outer s H vs Q E hr hh => ⟨rd__law_round g j E, dv__law_round T hr, (h vs H Q E hh).2⟩
theorem fk__law_round {g : Wd} (T : Top g) (j : Nat) {sp : Sp} (h : ∀ vs H Q E, sp vs H Q E → vs.length = 1 ∧ rd__law_round g j E { nx := fun _ H1 => Q .non H1, rt := Q } (L2.start ["_law_pays_here", "_law_made", "_law_pay"] vs) H) : FnG g (j + 2) (gad g.K "_law_round") sp := by
  obtain ⟨fd, F⟩ := fd__law_round T
  exact fnG_of (ok__law_round T F h) (FunD.bindsN F fun _ _ _ _ _ _ us hl => match us, hl with | [_], _ => rfl)
theorem sc__law_pays : FnScope ["_law_script", "_law_box_here", "_law_pays_here", "_law_k", "_law_top"] ["_law_script", "_law_box_here"] (defScope (top 56)) := ⟨rfl, rfl, rfl, by decide +kernel, rfl, by decide +kernel, by decide +kernel⟩
def rd__law_pays (g : Wd) (j : Nat) (E : XK) : TS :=
  tSeq (tAsg (tLst (tNil)) (gName 2))
  (tSeq (tFor (iRng1 (tCons (tOp (cAdd g.K noOw) (tC (.int 1)) (cCall g j (fun cls d _ H => E cls d H) (gad g.K "_law_take") (tCons (cV 0) (tCons (cV 1) (tCons (tC (.int 12)) (tNil)))))) (tNil))) (gName 3) (tSeq (tAsg (tOp (cIx g.K) (tLst (tCons (tC (.int 2)) (tCons (tC (.int 4)) (tCons (tC (.int 9)) (tCons (tC (.int 70)) (tCons (tC (.int 70)) (tCons (tOp (cAdd g.K noOw) (tOp cPow (tC (.int 10)) (tC (.int 30))) (tC (.int 1))) (tNil)))))))) (cCall g j (fun cls d _ H => E cls d H) (gad g.K "_law_take") (tCons (cV 0) (tCons (cV 1) (tCons (tC (.int 6)) (tNil)))))) (gName 4))
  (tDrop (cApp g.K (cV 2) (tCons (cCall g j (fun cls d _ H => E cls d H) (gad g.K "_law_take") (tCons (cV 0) (tCons (cV 1) (tCons (cV 4) (tNil))))) (tNil))))))
  (tRet (cV 2)))
theorem dv__law_pays {g : Wd} (T : Top g) {j : Nat} {f : Addr} {cdv : Value} {A : Around} {outer : List Env} {s : Shared} {H : Hp} {E : XK} (hr : Room (j + 1) (A.deeper (envOfC "_law_pays" (defScope (top 56)) s.heap.objs.size f cdv))) :
    PSs (cxOf (L2.CX g.P g.w) g.P g.w g.K g.mg g.base ["_law_script", "_law_box_here", "_law_pays_here", "_law_k", "_law_top"] "_law_pays" (defScope (top 56)) f cdv A outer s H E) (defBody (top 56)) (rd__law_pays g j E) := by
  unfold rd__law_pays
  exact (pss_cons (ps_set (i := 2) sc__law_pays.nd rfl (Or.inl rfl) (pe_lst pa_nil))
  (pss_cons (ps_for (passes_of rfl) rfl (pi_range1 (by rfl) (bl_range T) (pa_cons (pe_op (op_cAdd noOw_ok) pe_int (pe_cCall (takes_of rfl rfl rfl rfl) (hr.mono (Nat.le_succ _)) (gf__law_take T) (by rfl) (pa_cons (cv 0) (pa_cons (cv 1) (pa_cons pe_int pa_nil))))) pa_nil)) (pg_name sc__law_pays.nd rfl (Or.inl rfl)) (pss_cons (ps_set (i := 4) sc__law_pays.nd rfl (Or.inl rfl) (pe_ix ix_c (pe_lst (pa_cons pe_int (pa_cons pe_int (pa_cons pe_int (pa_cons pe_int (pa_cons pe_int (pa_cons (pe_op (op_cAdd noOw_ok) (pe_op op_cPow pe_int pe_int) pe_int) pa_nil))))))) (pe_cCall (takes_of rfl rfl rfl rfl) (hr.mono (Nat.le_succ _)) (gf__law_take T) (by rfl) (pa_cons (cv 0) (pa_cons (cv 1) (pa_cons pe_int pa_nil)))) (fun _ _ => rfl)))
  (pss_one (ps_expr (pe_cApp (cv 2) (pa_cons (pe_cCall (takes_of rfl rfl rfl rfl) (hr.mono (Nat.le_succ _)) (gf__law_take T) (by rfl) (pa_cons (cv 0) (pa_cons (cv 1) (pa_cons (cv 4) pa_nil)))) pa_nil))))))
  (pss_one (ps_ret (cv 2)))))
theorem ok__law_pays {g : Wd} (T : Top g) {fd : FuncData} (F : FunD g.K "_law_pays" "_law_pays" (defArgs (top 56)) (defBody (top 56)) (defScope (top 56)) [] [] (gad g.K "_law_pays") fd) {j : Nat} {sp : Sp} (h : ∀ vs H Q E, sp vs H Q E → vs.length = 2 ∧ rd__law_pays g j E { nx := fun _ H1 => Q .non H1, rt := Q } (L2.start ["_law_script", "_law_box_here", "_law_pays_here", "_law_k", "_law_top"] vs) H) : FnOk g.P g.w g.K g.mg g.base (L2.CX g.P g.w) (j + 2) (gad g.K "_law_pays") fd ["_law_script", "_law_box_here"] sp :=
  FunD.ok F sc__law_pays (fun vs H Q E hh => (h vs H Q E hh).1) fun cdv A outer s H vs Q E hr hh => ⟨rd__law_pays g j E, dv__law_pays T hr, (h vs H Q E hh).2⟩
theorem fk__law_pays {g : Wd} (T : Top g) (j : Nat) {sp : Sp} (h : ∀ vs H Q E, sp vs H Q E → vs.length = 2 ∧ rd__law_pays g j E { nx := fun _ H1 => Q .non H1, rt := Q } (L2.start ["_law_script", "_law_box_here", "_law_pays_here", "_law_k", "_law_top"] vs) H) : FnG g (j + 2) (gad g.K "_law_pays") sp := by
  obtain ⟨fd, F⟩ := fd__law_pays T
  exact fnG_of (ok__law_pays T F h) (FunD.bindsN F fun _ _ _ _ _ _ us hl => match us, hl with | [_, _], _ => rfl)
theorem sc__law_word : FnScope ["_law_script", "_law_box_here", "_law_wide", "_law_size", "_law_way", "_law_kind", "_law_text", "_law_k", "_law_digit"] ["_law_script", "_law_box_here", "_law_wide"] (defScope (top 57)) := ⟨rfl, rfl, rfl, by decide +kernel, rfl, by decide +kernel, by decide +kernel⟩
def rd__law_word (g : Wd) (j : Nat) (E : XK) : TS :=
  tSeq (tAsg (cCall g j (fun cls d _ H => E cls d H) (gad g.K "_law_take") (tCons (cV 0) (tCons (cV 1) (tCons (tOp (cAdd g.K noOw) (cV 2) (tC (.int 1))) (tNil))))) (gName 3))
  (tSeq (tAsg (cCall g j (fun cls d _ H => E cls d H) (gad g.K "_law_take") (tCons (cV 0) (tCons (cV 1) (tCons (tC (.int 5)) (tNil))))) (gName 4))
  (tSeq (tIfS (cTest (tOp (cEqN g.K false) (cV 4) (tC (.int 0)))) (tAsg (cV 2) (gName 3)) (tNext))
  (tSeq (tIfS (tOr (cTest (tOp (cEqN g.K false) (cV 4) (tC (.int 1)))) (cTest (tOp (cEqN g.K false) (cV 4) (tC (.int 2))))) (tAsg (tCB (cMax g.K) (tCons (tC (.int 0)) (tCons (tOp cSub (tOp cSub (cV 2) (tC (.int 1))) (tOp cDiv (cV 3) (tC (.int 4)))) (tNil)))) (gName 3)) (tNext))
  (tSeq (tIfS (cTest (tOp (cEqN g.K false) (cV 3) (tC (.int 0)))) (tRet (tC (.str ""))) (tNext))
  (tSeq (tAsg (cCall g j (fun cls d _ H => E cls d H) (gad g.K "_law_take") (tCons (cV 0) (tCons (cV 1) (tCons (tC (.int 3)) (tNil))))) (gName 5))
  (tSeq (tAsg (tC (.str "1")) (gName 6))
  (tSeq (tFor (iRng1 (tCons (tOp cSub (cV 3) (tC (.int 1))) (tNil))) (gName 7) (tSeq (tAsg (cCall g j (fun cls d _ H => E cls d H) (gad g.K "_law_take") (tCons (cV 0) (tCons (cV 1) (tCons (tOp (cIx g.K) (tLst (tCons (tC (.int 2)) (tCons (tC (.int 5)) (tCons (tC (.int 5)) (tNil))))) (cV 5)) (tNil))))) (gName 8))
  (tAsg (tOp (cAdd g.K noOw) (cV 6) (tOp (cIx g.K) (tC (.str "01")) (tCB (cInt) (tCons (cOrV (tOp (cEqN g.K false) (cV 8) (tC (.int 1))) (cAndV (tOp (cEqN g.K false) (cV 5) (tC (.int 2))) (tOp cGt (cV 8) (tC (.int 0))))) (tNil))))) (gName 6))))
  (tRet (cV 6)))))))))
theorem dv__law_word {g : Wd} (T : Top g) {j : Nat} {f : Addr} {cdv : Value} {A : Around} {outer : List Env} {s : Shared} {H : Hp} {E : XK} (hr : Room (j + 1) (A.deeper (envOfC "_law_word" (defScope (top 57)) s.heap.objs.size f cdv))) :
    PSs (cxOf (L2.CX g.P g.w) g.P g.w g.K g.mg g.base ["_law_script", "_law_box_here", "_law_wide", "_law_size", "_law_way", "_law_kind", "_law_text", "_law_k", "_law_digit"] "_law_word" (defScope (top 57)) f cdv A outer s H E) (defBody (top 57)) (rd__law_word g j E) := by
  unfold rd__law_word
  exact (pss_cons (ps_set (i := 3) sc__law_word.nd rfl (Or.inl rfl) (pe_cCall (takes_of rfl rfl rfl rfl) (hr.mono (Nat.le_succ _)) (gf__law_take T) (by rfl) (pa_cons (cv 0) (pa_cons (cv 1) (pa_cons (pe_op (op_cAdd noOw_ok) (cv 2) pe_int) pa_nil)))))
  (pss_cons (ps_set (i := 4) sc__law_word.nd rfl (Or.inl rfl) (pe_cCall (takes_of rfl rfl rfl rfl) (hr.mono (Nat.le_succ _)) (gf__law_take T) (by rfl) (pa_cons (cv 0) (pa_cons (cv 1) (pa_cons pe_int pa_nil)))))
  (pss_cons (ps_if (ptc (op_cEq hr.units) (cv 4) pe_int (nomark _)) (pss_one (ps_set (i := 3) sc__law_word.nd rfl (Or.inl rfl) (cv 2))) pss_nil)
  (pss_cons (ps_if (pw_or (ptc (op_cEq hr.units) (cv 4) pe_int (nomark _)) (pw_or1 (ptc (op_cEq hr.units) (cv 4) pe_int (nomark _)))).pt (pss_one (ps_set (i := 3) sc__law_word.nd rfl (Or.inl rfl) (pe_callB (call_cMax rfl) (by rfl) (bl_max T) bt_max (pa_cons pe_int (pa_cons (pe_op op_cSub (pe_op op_cSub (cv 2) pe_int) (pe_op op_cDiv (cv 3) pe_int)) pa_nil))))) pss_nil)
  (pss_cons (ps_if (ptc (op_cEq hr.units) (cv 3) pe_int (nomark _)) (pss_one (ps_ret pe_str)) pss_nil)
  (pss_cons (ps_set (i := 5) sc__law_word.nd rfl (Or.inl rfl) (pe_cCall (takes_of rfl rfl rfl rfl) (hr.mono (Nat.le_succ _)) (gf__law_take T) (by rfl) (pa_cons (cv 0) (pa_cons (cv 1) (pa_cons pe_int pa_nil)))))
  (pss_cons (ps_set (i := 6) sc__law_word.nd rfl (Or.inl rfl) pe_str)
  (pss_cons (ps_for (passes_of rfl) rfl (pi_range1 (by rfl) (bl_range T) (pa_cons (pe_op op_cSub (cv 3) pe_int) pa_nil)) (pg_name sc__law_word.nd rfl (Or.inl rfl)) (pss_cons (ps_set (i := 8) sc__law_word.nd rfl (Or.inl rfl) (pe_cCall (takes_of rfl rfl rfl rfl) (hr.mono (Nat.le_succ _)) (gf__law_take T) (by rfl) (pa_cons (cv 0) (pa_cons (cv 1) (pa_cons (pe_ix ix_c (pe_lst (pa_cons pe_int (pa_cons pe_int (pa_cons pe_int pa_nil)))) (cv 5) (fun _ _ => rfl)) pa_nil)))))
  (pss_one (ps_set (i := 6) sc__law_word.nd rfl (Or.inl rfl) (pe_op (op_cAdd noOw_ok) (cv 6) (pe_ix ix_c pe_str (pe_callTy (call_cInt) (by rfl) (bl_int T) bt_int (pa_cons (pe_cOr (pe_cmpR (op_cEq hr.units) (cv 8) pe_int (nomark _)) (pe_one (pe_cAnd (pe_cmpR (op_cEq hr.units) (cv 5) pe_int (nomark _)) (pe_one (pe_cmpR op_cGt (cv 8) pe_int (nomark _)))))) pa_nil)) (fun _ _ => rfl)))))))
  (pss_one (ps_ret (cv 6)))))))))))
theorem ok__law_word {g : Wd} (T : Top g) {fd : FuncData} (F : FunD g.K "_law_word" "_law_word" (defArgs (top 57)) (defBody (top 57)) (defScope (top 57)) [] [] (gad g.K "_law_word") fd) {j : Nat} {sp : Sp} (h : ∀ vs H Q E, sp vs H Q E → vs.length = 3 ∧ rd__law_word g j E { nx := fun _ H1 => Q .non H1, rt := Q } (L2.start ["_law_script", "_law_box_here", "_law_wide", "_law_size", "_law_way", "_law_kind", "_law_text", "_law_k", "_law_digit"] vs) H) : FnOk g.P g.w g.K g.mg g.base (L2.CX g.P g.w) (j + 2) (gad g.K "_law_word") fd ["_law_script", "_law_box_here", "_law_wide"] sp :=
  FunD.ok F sc__law_word (fun vs H Q E hh => (h vs H Q E hh).1) fun cdv A outer s H vs Q E hr hh => ⟨rd__law_word g j E, dv__law_word T hr, (h vs H Q E hh).2⟩
theorem fk__law_word {g : Wd} (T : Top g) (j : Nat) {sp : Sp} (h : ∀ vs H Q E, sp vs H Q E → vs.length = 3 ∧ rd__law_word g j E { nx := fun _ H1 => Q .non H1, rt := Q } (L2.start ["_law_script", "_law_box_here", "_law_wide", "_law_size", "_law_way", "_law_kind", "_law_text", "_law_k", "_law_digit"] vs) H) : FnG g (j + 2) (gad g.K "_law_word") sp := by
  obtain ⟨fd, F⟩ := fd__law_word T
  exact fnG_of (ok__law_word T F h) (FunD.bindsN F fun _ _ _ _ _ _ us hl => match us, hl with | [_, _, _], _ => rfl)
theorem sc__law_stand : FnScope ["_law_script", "_law_box_here", "_law_wide", "_law_beat"] ["_law_script", "_law_box_here"] (defScope (top 58)) := ⟨rfl, rfl, rfl, by decide +kernel, rfl, by decide +kernel, by decide +kernel⟩
def rd__law_stand (g : Wd) (j : Nat) (E : XK) : TS :=
  tSeq (tAsg (tOp (cAdd g.K noOw) (tC (.int 1)) (cCall g j (fun cls d _ H => E cls d H) (gad g.K "_law_take") (tCons (cV 0) (tCons (cV 1) (tCons (tOp (cIx g.K) (tLst (tCons (tC (.int 6)) (tCons (tC (.int 64)) (tCons (tC (.int 64)) (tNil))))) (cCall g j (fun cls d _ H => E cls d H) (gad g.K "_law_take") (tCons (cV 0) (tCons (cV 1) (tCons (tC (.int 3)) (tNil)))))) (tNil)))))) (gName 2))
  (tSeq (tAsg (cCall g j (fun cls d _ H => E cls d H) (gad g.K "_law_take") (tCons (cV 0) (tCons (cV 1) (tCons (tOp (cIx g.K) (tLst (tCons (tC (.int 12)) (tCons (tC (.int 12)) (tCons (tOp cPow (tC (.int 10)) (tC (.int 6))) (tNil))))) (cCall g j (fun cls d _ H => E cls d H) (gad g.K "_law_take") (tCons (cV 0) (tCons (cV 1) (tCons (tC (.int 3)) (tNil)))))) (tNil))))) (gName 3))
  (tRet (tLst (tCons (cCall g j (fun cls d _ H => E cls d H) (gad g.K "_law_word") (tCons (cV 0) (tCons (cV 1) (tCons (cV 2) (tNil))))) (tCons (cV 2) (tCons (cV 3) (tNil)))))))
theorem dv__law_stand {g : Wd} (T : Top g) {j : Nat} {f : Addr} {cdv : Value} {A : Around} {outer : List Env} {s : Shared} {H : Hp} {E : XK} (hr : Room (j + 1) (A.deeper (envOfC "_law_stand" (defScope (top 58)) s.heap.objs.size f cdv))) :
    PSs (cxOf (L2.CX g.P g.w) g.P g.w g.K g.mg g.base ["_law_script", "_law_box_here", "_law_wide", "_law_beat"] "_law_stand" (defScope (top 58)) f cdv A outer s H E) (defBody (top 58)) (rd__law_stand g j E) := by
  unfold rd__law_stand
  exact (pss_cons (ps_set (i := 2) sc__law_stand.nd rfl (Or.inl rfl) (pe_op (op_cAdd noOw_ok) pe_int (pe_cCall (takes_of rfl rfl rfl rfl) (hr.mono (Nat.le_succ _)) (gf__law_take T) (by rfl) (pa_cons (cv 0) (pa_cons (cv 1) (pa_cons (pe_ix ix_c (pe_lst (pa_cons pe_int (pa_cons pe_int (pa_cons pe_int pa_nil)))) (pe_cCall (takes_of rfl rfl rfl rfl) (hr.mono (Nat.le_succ _)) (gf__law_take T) (by rfl) (pa_cons (cv 0) (pa_cons (cv 1) (pa_cons pe_int pa_nil)))) (fun _ _ => rfl)) pa_nil))))))
  (pss_cons (ps_set (i := 3) sc__law_stand.nd rfl (Or.inl rfl) (pe_cCall (takes_of rfl rfl rfl rfl) (hr.mono (Nat.le_succ _)) (gf__law_take T) (by rfl) (pa_cons (cv 0) (pa_cons (cv 1) (pa_cons (pe_ix ix_c (pe_lst (pa_cons pe_int (pa_cons pe_int (pa_cons (pe_op op_cPow pe_int pe_int) pa_nil)))) (pe_cCall (takes_of rfl rfl rfl rfl) (hr.mono (Nat.le_succ _)) (gf__law_take T) (by rfl) (pa_cons (cv 0) (pa_cons (cv 1) (pa_cons pe_int pa_nil)))) (fun _ _ => rfl)) pa_nil)))))
  (pss_one (ps_ret (pe_lst (pa_cons (pe_cCall (takes_of rfl rfl rfl rfl) (hr.mono (Nat.le_succ _)) (gf__law_word T) (by rfl) (pa_cons (cv 0) (pa_cons (cv 1) (pa_cons (cv 2) pa_nil)))) (pa_cons (cv 2) (pa_cons (cv 3) pa_nil))))))))
theorem ok__law_stand {g : Wd} (T : Top g) {fd : FuncData} (F : FunD g.K "_law_stand" "_law_stand" (defArgs (top 58)) (defBody (top 58)) (defScope (top 58)) [] [] (gad g.K "_law_stand") fd) {j : Nat} {sp : Sp} (h : ∀ vs H Q E, sp vs H Q E → vs.length = 2 ∧ rd__law_stand g j E { nx := fun _ H1 => Q .non H1, rt := Q } (L2.start ["_law_script", "_law_box_here", "_law_wide", "_law_beat"] vs) H) : FnOk g.P g.w g.K g.mg g.base (L2.CX g.P g.w) (j + 2) (gad g.K "_law_stand") fd ["_law_script", "_law_box_here"] sp :=
  FunD.ok F sc__law_stand (fun vs H Q E hh => (h vs H Q E hh).1) fun cdv A outer s H vs Q E hr hh => ⟨rd__law_stand g j E, dv__law_stand T hr, (h vs H Q E hh).2⟩
theorem fk__law_stand {g : Wd} (T : Top g) (j : Nat) {sp : Sp} (h : ∀ vs H Q E, sp vs H Q E → vs.length = 2 ∧ rd__law_stand g j E { nx := fun _ H1 => Q .non H1, rt := Q } (L2.start ["_law_script", "_law_box_here", "_law_wide", "_law_beat"] vs) H) : FnG g (j + 2) (gad g.K "_law_stand") sp := by
  obtain ⟨fd, F⟩ := fd__law_stand T
  exact fnG_of (ok__law_stand T F h) (FunD.bindsN F fun _ _ _ _ _ _ us hl => match us, hl with | [_, _], _ => rfl)
theorem sc__law_marks : FnScope ["_law_script", "_law_box_here", "_law_stands", "_law_marks_here", "_law_k", "_law_way", "_law_stand_here", "_law_number"] ["_law_script", "_law_box_here", "_law_stands"] (defScope (top 59)) := ⟨rfl, rfl, rfl, by decide +kernel, rfl, by decide +kernel, by decide +kernel⟩
def rd__law_marks (g : Wd) (j : Nat) (E : XK) : TS :=
  tSeq (tAsg (tLst (tNil)) (gName 3))
  (tSeq (tFor (iRng1 (tCons (tC (.int 3)) (tNil))) (gName 4) (tSeq (tAsg (cCall g j (fun cls d _ H => E cls d H) (gad g.K "_law_take") (tCons (cV 0) (tCons (cV 1) (tCons (tC (.int 4)) (tNil))))) (gName 5))
  (tSeq (tAsg (tOp (cIx g.K) (cV 2) (cCall g j (fun cls d _ H => E cls d H) (gad g.K "_law_take") (tCons (cV 0) (tCons (cV 1) (tCons (tC (.int 2)) (tNil)))))) (gName 6))
  (tSeq (tAsg (cCall g j (fun cls d _ H => E cls d H) (gad g.K "_law_take") (tCons (cV 0) (tCons (cV 1) (tCons (tOp (cIx g.K) (tLst (tCons (tC (.int 71)) (tCons (tOp (cAdd g.K noOw) (tOp cPow (tC (.int 10)) (tC (.int 30))) (tC (.int 1))) (tCons (tC (.int 3)) (tCons (tC (.int 3)) (tNil)))))) (cV 5)) (tNil))))) (gName 7))
  (tSeq (tIfS (cTest (tOp cGt (cV 5) (tC (.int 1)))) (tAsg (tCB (cMax g.K) (tCons (tC (.int 0)) (tCons (tOp cSub (tOp (cAdd g.K noOw) (tOp cSub (tOp (cIx g.K) (cV 6) (tC (.int 1))) (tCB (cLen g j) (tCons (tOp (cIx g.K) (cV 6) (tC (.int 0))) (tNil)))) (cV 7)) (tC (.int 1))) (tNil)))) (gName 7)) (tNext))
  (tDrop (cApp g.K (cV 3) (tCons (cV 7) (tNil)))))))))
  (tRet (cV 3)))
theorem dv__law_marks {g : Wd} (T : Top g) {j : Nat} {f : Addr} {cdv : Value} {A : Around} {outer : List Env} {s : Shared} {H : Hp} {E : XK} (hr : Room (j + 1) (A.deeper (envOfC "_law_marks" (defScope (top 59)) s.heap.objs.size f cdv))) :
    PSs (cxOf (L2.CX g.P g.w) g.P g.w g.K g.mg g.base ["_law_script", "_law_box_here", "_law_stands", "_law_marks_here", "_law_k", "_law_way", "_law_stand_here", "_law_number"] "_law_marks" (defScope (top 59)) f cdv A outer s H E) (defBody (top 59)) (rd__law_marks g j E) := by
  unfold rd__law_marks
  exact (pss_cons (ps_set (i := 3) sc__law_marks.nd rfl (Or.inl rfl) (pe_lst pa_nil))
  (pss_cons (ps_for (passes_of rfl) rfl (pi_range1 (by rfl) (bl_range T) (pa_cons pe_int pa_nil)) (pg_name sc__law_marks.nd rfl (Or.inl rfl)) (pss_cons (ps_set (i := 5) sc__law_marks.nd rfl (Or.inl rfl) (pe_cCall (takes_of rfl rfl rfl rfl) (hr.mono (Nat.le_succ _)) (gf__law_take T) (by rfl) (pa_cons (cv 0) (pa_cons (cv 1) (pa_cons pe_int pa_nil)))))
  (pss_cons (ps_set (i := 6) sc__law_marks.nd rfl (Or.inl rfl) (pe_ix ix_c (cv 2) (pe_cCall (takes_of rfl rfl rfl rfl) (hr.mono (Nat.le_succ _)) (gf__law_take T) (by rfl) (pa_cons (cv 0) (pa_cons (cv 1) (pa_cons pe_int pa_nil)))) (fun _ _ => rfl)))
  (pss_cons (ps_set (i := 7) sc__law_marks.nd rfl (Or.inl rfl) (pe_cCall (takes_of rfl rfl rfl rfl) (hr.mono (Nat.le_succ _)) (gf__law_take T) (by rfl) (pa_cons (cv 0) (pa_cons (cv 1) (pa_cons (pe_ix ix_c (pe_lst (pa_cons pe_int (pa_cons (pe_op (op_cAdd noOw_ok) (pe_op op_cPow pe_int pe_int) pe_int) (pa_cons pe_int (pa_cons pe_int pa_nil))))) (cv 5) (fun _ _ => rfl)) pa_nil)))))
  (pss_cons (ps_if (ptc op_cGt (cv 5) pe_int (nomark _)) (pss_one (ps_set (i := 7) sc__law_marks.nd rfl (Or.inl rfl) (pe_callB (call_cMax rfl) (by rfl) (bl_max T) bt_max (pa_cons pe_int (pa_cons (pe_op op_cSub (pe_op (op_cAdd noOw_ok) (pe_op op_cSub (pe_ix ix_c (cv 6) pe_int (fun _ _ => rfl)) (pe_callB (call_cLen hr) (by rfl) (bl_len T) bt_len (pa_cons (pe_ix ix_c (cv 6) pe_int (fun _ _ => rfl)) pa_nil))) (cv 7)) pe_int) pa_nil))))) pss_nil)
  (pss_one (ps_expr (pe_cApp (cv 3) (pa_cons (cv 7) pa_nil)))))))))
  (pss_one (ps_ret (cv 3)))))
theorem ok__law_marks {g : Wd} (T : Top g) {fd : FuncData} (F : FunD g.K "_law_marks" "_law_marks" (defArgs (top 59)) (defBody (top 59)) (defScope (top 59)) [] [] (gad g.K "_law_marks") fd) {j : Nat} {sp : Sp} (h : ∀ vs H Q E, sp vs H Q E → vs.length = 3 ∧ rd__law_marks g j E { nx := fun _ H1 => Q .non H1, rt := Q } (L2.start ["_law_script", "_law_box_here", "_law_stands", "_law_marks_here", "_law_k", "_law_way", "_law_stand_here", "_law_number"] vs) H) : FnOk g.P g.w g.K g.mg g.base (L2.CX g.P g.w) (j + 2) (gad g.K "_law_marks") fd ["_law_script", "_law_box_here", "_law_stands"] sp :=
  FunD.ok F sc__law_marks (fun vs H Q E hh => (h vs H Q E hh).1) fun cdv A outer s H vs Q E hr hh => ⟨rd__law_marks g j E, dv__law_marks T hr, (h vs H Q E hh).2⟩
theorem fk__law_marks {g : Wd} (T : Top g) (j : Nat) {sp : Sp} (h : ∀ vs H Q E, sp vs H Q E → vs.length = 3 ∧ rd__law_marks g j E { nx := fun _ H1 => Q .non H1, rt := Q } (L2.start ["_law_script", "_law_box_here", "_law_stands", "_law_marks_here", "_law_k", "_law_way", "_law_stand_here", "_law_number"] vs) H) : FnG g (j + 2) (gad g.K "_law_marks") sp := by
  obtain ⟨fd, F⟩ := fd__law_marks T
  exact fnG_of (ok__law_marks T F h) (FunD.bindsN F fun _ _ _ _ _ _ us hl => match us, hl with | [_, _, _], _ => rfl)
theorem sc__law_due : FnScope ["_law_plan", "_law_stand_here", "_law_pays_here", "_law_word_here", "_law_most"] ["_law_plan", "_law_stand_here", "_law_pays_here"] (defScope (top 60)) := ⟨rfl, rfl, rfl, by decide +kernel, rfl, by decide +kernel, by decide +kernel⟩
def rd__law_due (g : Wd) (j : Nat) (E : XK) : TS :=
  tSeq (tAsg (tOp (cIx g.K) (cV 1) (tC (.int 0))) (gName 3))
  (tSeq (tAsg (tCB (cMin g.K) (tCons (tOp (cIx g.K) (cV 2) (tOp cMod (tCB (cInt) (tCons (tOp (cIx g.K) (cV 1) (tC (.int 2))) (tNil))) (tCB (cLen g j) (tCons (cV 2) (tNil))))) (tCons (cStrM mCount (cV 3) (tCons (tC (.str "1")) (tNil))) (tNil)))) (gName 4))
  (tSeq (tIfS (tOr (cTest (tOp (cEqN g.K false) (tCB (cLen g j) (tCons (cV 3) (tNil))) (tOp (cIx g.K) (cV 1) (tC (.int 1))))) (cTest (tOp (cEqN g.K false) (tOp (cIx g.K) (cV 0) (tC (.int 0))) (tC (.str "rest"))))) (tRet (tC (.int 0))) (tNext))
  (tSeq (tIfS (tAnd (cTest (tOp (cEqN g.K false) (tOp (cIx g.K) (cV 0) (tC (.int 0))) (tC (.str "lazy")))) (cTest (tOp cGt (tOp cSub (tOp (cIx g.K) (cV 1) (tC (.int 1))) (tCB (cLen g j) (tCons (cV 3) (tNil)))) (tOp (cIx g.K) (cV 0) (tC (.int 1)))))) (tRet (tC (.int 0))) (tNext))
  (tRet (cV 4)))))
theorem dv__law_due {g : Wd} (T : Top g) {j : Nat} {f : Addr} {cdv : Value} {A : Around} {outer : List Env} {s : Shared} {H : Hp} {E : XK} (hr : Room (j + 1) (A.deeper (envOfC "_law_due" (defScope (top 60)) s.heap.objs.size f cdv))) :
    PSs (cxOf (L2.CX g.P g.w) g.P g.w g.K g.mg g.base ["_law_plan", "_law_stand_here", "_law_pays_here", "_law_word_here", "_law_most"] "_law_due" (defScope (top 60)) f cdv A outer s H E) (defBody (top 60)) (rd__law_due g j E) := by
  unfold rd__law_due
  exact (pss_cons (ps_set (i := 3) sc__law_due.nd rfl (Or.inl rfl) (pe_ix ix_c (cv 1) pe_int (fun _ _ => rfl)))
  (pss_cons (ps_set (i := 4) sc__law_due.nd rfl (Or.inl rfl) (pe_callB (call_cMin rfl) (by rfl) (bl_min T) bt_min (pa_cons (pe_ix ix_c (cv 2) (pe_op op_cMod (pe_callTy (call_cInt) (by rfl) (bl_int T) bt_int (pa_cons (pe_ix ix_c (cv 1) pe_int (fun _ _ => rfl)) pa_nil)) (pe_callB (call_cLen hr) (by rfl) (bl_len T) bt_len (pa_cons (cv 2) pa_nil))) (fun _ _ => rfl)) (pa_cons (pe_sm PySem.F.slot_str_count PySem.F.type_str_count m_count (cv 3) (pa_cons pe_str pa_nil)) pa_nil))))
  (pss_cons (ps_if (pw_or (ptc (op_cEq hr.units) (pe_callB (call_cLen hr) (by rfl) (bl_len T) bt_len (pa_cons (cv 3) pa_nil)) (pe_ix ix_c (cv 1) pe_int (fun _ _ => rfl)) (nomark _)) (pw_or1 (ptc (op_cEq hr.units) (pe_ix ix_c (cv 0) pe_int (fun _ _ => rfl)) pe_str (nomark _)))).pt (pss_one (ps_ret pe_int)) pss_nil)
  (pss_cons (ps_if (pw_and (ptc (op_cEq hr.units) (pe_ix ix_c (cv 0) pe_int (fun _ _ => rfl)) pe_str (nomark _)) (pw_and1 (ptc op_cGt (pe_op op_cSub (pe_ix ix_c (cv 1) pe_int (fun _ _ => rfl)) (pe_callB (call_cLen hr) (by rfl) (bl_len T) bt_len (pa_cons (cv 3) pa_nil))) (pe_ix ix_c (cv 0) pe_int (fun _ _ => rfl)) (nomark _)))).pt (pss_one (ps_ret pe_int)) pss_nil)
  (pss_one (ps_ret (cv 4)))))))
theorem ok__law_due {g : Wd} (T : Top g) {fd : FuncData} (F : FunD g.K "_law_due" "_law_due" (defArgs (top 60)) (defBody (top 60)) (defScope (top 60)) [] [] (gad g.K "_law_due") fd) {j : Nat} {sp : Sp} (h : ∀ vs H Q E, sp vs H Q E → vs.length = 3 ∧ rd__law_due g j E { nx := fun _ H1 => Q .non H1, rt := Q } (L2.start ["_law_plan", "_law_stand_here", "_law_pays_here", "_law_word_here", "_law_most"] vs) H) : FnOk g.P g.w g.K g.mg g.base (L2.CX g.P g.w) (j + 2) (gad g.K "_law_due") fd ["_law_plan", "_law_stand_here", "_law_pays_here"] sp :=
  FunD.ok F sc__law_due (fun vs H Q E hh => (h vs H Q E hh).1) fun cdv A outer s H vs Q E hr hh => ⟨rd__law_due g j E, dv__law_due T hr, (h vs H Q E hh).2⟩
theorem fk__law_due {g : Wd} (T : Top g) (j : Nat) {sp : Sp} (h : ∀ vs H Q E, sp vs H Q E → vs.length = 3 ∧ rd__law_due g j E { nx := fun _ H1 => Q .non H1, rt := Q } (L2.start ["_law_plan", "_law_stand_here", "_law_pays_here", "_law_word_here", "_law_most"] vs) H) : FnG g (j + 2) (gad g.K "_law_due") sp := by
  obtain ⟨fd, F⟩ := fd__law_due T
  exact fnG_of (ok__law_due T F h) (FunD.bindsN F fun _ _ _ _ _ _ us hl => match us, hl with | [_, _, _], _ => rfl)
theorem sc__law_looks : FnScope ["_law_keeper", "_law_plan", "_law_stands", "_law_pays_here", "_law_made", "_law_stand_here", "_law_told", "_law_text"] ["_law_keeper", "_law_plan", "_law_stands", "_law_pays_here", "_law_made"] (defScope (top 61)) := ⟨rfl, rfl, rfl, by decide +kernel, rfl, by decide +kernel, by decide +kernel⟩
def rd__law_looks (g : Wd) (j : Nat) (E : XK) : TS :=
  tSeq (tIfS (tNot (cTru g.K (tCB (cIsi g.K) (tCons (cV 0) (tCons (cGv g "Keeper") (tNil)))))) (tRet (tC (.bl false))) (tNext))
  (tSeq (tFor (iSeq g.K (tOp (cAdd g.K noOw) (cV 2) (tSl (cSl g.K) (cV 2) (tNoPart) (cPart (tC (.int 1)))))) (gName 5) (tSeq (tAsg (cMeth g j (fun cls d _ H => E cls d H) "choose" (cV 0) (tCons (tOp (cIx g.K) (cV 5) (tC (.int 0))) (tCons (tOp (cIx g.K) (cV 5) (tC (.int 1))) (tCons (cV 4) (tCons (tOp (cIx g.K) (cV 5) (tC (.int 2))) (tNil)))))) (gName 6))
  (tIfS (tOr (tNot (cTru g.K (cCall g j (fun cls d _ H => E cls d H) (gad g.K "_law_is_count") (tCons (cV 6) (tNil))))) (cTest (tOp (cEqN g.K true) (cV 6) (cCall g j (fun cls d _ H => E cls d H) (gad g.K "_law_due") (tCons (cV 1) (tCons (cV 5) (tCons (cV 3) (tNil)))))))) (tRet (tC (.bl false))) (tNext))))
  (tSeq (tAsg (tOp (cIx g.K) (cV 1) (tC (.int 0))) (gName 7))
  (tSeq (tIfS (cTest (tOp (cEqN g.K false) (tOp (cIx g.K) (cV 1) (tC (.int 0))) (tC (.str "lazy")))) (tSeq (tAsg (tOp (cAdd g.K noOw) (tC (.str "lazy ")) (tCB (cStr) (tCons (tOp (cIx g.K) (cV 1) (tC (.int 1))) (tNil)))) (gName 7))
  (tIfS (tOr (tNot (cTru g.K (cCall g j (fun cls d _ H => E cls d H) (gad g.K "_law_is_count") (tCons (cProp g j (cV 0) "mark") (tNil))))) (cTest (tOp (cEqN g.K true) (cProp g j (cV 0) "mark") (tOp (cIx g.K) (cV 1) (tC (.int 1)))))) (tRet (tC (.bl false))) (tNext))) (tNext))
  (tRet (tOp (cEqN g.K false) (cMeth g j (fun cls d _ H => E cls d H) "label" (cV 0) tNil) (cV 7))))))
theorem dv__law_looks {g : Wd} (T : Top g) {j : Nat} {f : Addr} {cdv : Value} {A : Around} {outer : List Env} {s : Shared} {H : Hp} {E : XK} (hr : Room (j + 1) (A.deeper (envOfC "_law_looks" (defScope (top 61)) s.heap.objs.size f cdv))) :
    PSs (cxOf (L2.CX g.P g.w) g.P g.w g.K g.mg g.base ["_law_keeper", "_law_plan", "_law_stands", "_law_pays_here", "_law_made", "_law_stand_here", "_law_told", "_law_text"] "_law_looks" (defScope (top 61)) f cdv A outer s H E) (defBody (top 61)) (rd__law_looks g j E) := by
  unfold rd__law_looks
  exact (pss_cons (ps_if (pt_not (ptv (pe_callB (call_cIsi) (by rfl) (bl_isinstance T) bt_isinstance (pa_cons (cv 0) (pa_cons (pe_cGv (by rfl)) pa_nil))))) (pss_one (ps_ret pe_bl)) pss_nil)
  (pss_cons (ps_for (passes_of rfl) rfl (pi_seq (pe_op (op_cAdd noOw_ok) (cv 2) (pe_slice sl_c (cv 2) po_none (po_c pe_int)))) (pg_name sc__law_looks.nd rfl (Or.inl rfl)) (pss_cons (ps_set (i := 6) sc__law_looks.nd rfl (Or.inl rfl) (pe_cMeth (takes_of rfl rfl rfl rfl) (hr.mono (Nat.le_succ _)) (cv 0) (pa_cons (pe_ix ix_c (cv 5) pe_int (fun _ _ => rfl)) (pa_cons (pe_ix ix_c (cv 5) pe_int (fun _ _ => rfl)) (pa_cons (cv 4) (pa_cons (pe_ix ix_c (cv 5) pe_int (fun _ _ => rfl)) pa_nil))))))
  (pss_one (ps_if (pw_or (pt_not (ptv (pe_cCall (takes_of rfl rfl rfl rfl) (hr.mono (Nat.le_succ _)) (gf__law_is_count T) (by rfl) (pa_cons (cv 6) pa_nil)))) (pw_or1 (ptc (op_cNe hr.units) (cv 6) (pe_cCall (takes_of rfl rfl rfl rfl) (hr.mono (Nat.le_succ _)) (gf__law_due T) (by rfl) (pa_cons (cv 1) (pa_cons (cv 5) (pa_cons (cv 3) pa_nil)))) (nomark _)))).pt (pss_one (ps_ret pe_bl)) pss_nil))))
  (pss_cons (ps_set (i := 7) sc__law_looks.nd rfl (Or.inl rfl) (pe_ix ix_c (cv 1) pe_int (fun _ _ => rfl)))
  (pss_cons (ps_if (ptc (op_cEq hr.units) (pe_ix ix_c (cv 1) pe_int (fun _ _ => rfl)) pe_str (nomark _)) (pss_cons (ps_set (i := 7) sc__law_looks.nd rfl (Or.inl rfl) (pe_op (op_cAdd noOw_ok) pe_str (pe_callTy (call_cStr) (by rfl) (bl_str T) bt_str (pa_cons (pe_ix ix_c (cv 1) pe_int (fun _ _ => rfl)) pa_nil))))
  (pss_one (ps_if (pw_or (pt_not (ptv (pe_cCall (takes_of rfl rfl rfl rfl) (hr.mono (Nat.le_succ _)) (gf__law_is_count T) (by rfl) (pa_cons (pe_cProp hr (cv 0)) pa_nil)))) (pw_or1 (ptc (op_cNe hr.units) (pe_cProp hr (cv 0)) (pe_ix ix_c (cv 1) pe_int (fun _ _ => rfl)) (nomark _)))).pt (pss_one (ps_ret pe_bl)) pss_nil))) pss_nil)
  (pss_one (ps_ret (pe_cmpR (op_cEq hr.units) (pe_cMeth0 (takes_of rfl rfl rfl rfl) (hr.mono (Nat.le_succ _)) (cv 0)) (cv 7) (nomark _))))))))
theorem ok__law_looks {g : Wd} (T : Top g) {fd : FuncData} (F : FunD g.K "_law_looks" "_law_looks" (defArgs (top 61)) (defBody (top 61)) (defScope (top 61)) [] [] (gad g.K "_law_looks") fd) {j : Nat} {sp : Sp} (h : ∀ vs H Q E, sp vs H Q E → vs.length = 5 ∧ rd__law_looks g j E { nx := fun _ H1 => Q .non H1, rt := Q } (L2.start ["_law_keeper", "_law_plan", "_law_stands", "_law_pays_here", "_law_made", "_law_stand_here", "_law_told", "_law_text"] vs) H) : FnOk g.P g.w g.K g.mg g.base (L2.CX g.P g.w) (j + 2) (gad g.K "_law_looks") fd ["_law_keeper", "_law_plan", "_law_stands", "_law_pays_here", "_law_made"] sp :=
  FunD.ok F sc__law_looks (fun vs H Q E hh => (h vs H Q E hh).1) fun cdv A outer s H vs Q E hr hh => ⟨rd__law_looks g j E, dv__law_looks T hr, (h vs H Q E hh).2⟩
theorem fk__law_looks {g : Wd} (T : Top g) (j : Nat) {sp : Sp} (h : ∀ vs H Q E, sp vs H Q E → vs.length = 5 ∧ rd__law_looks g j E { nx := fun _ H1 => Q .non H1, rt := Q } (L2.start ["_law_keeper", "_law_plan", "_law_stands", "_law_pays_here", "_law_made", "_law_stand_here", "_law_told", "_law_text"] vs) H) : FnG g (j + 2) (gad g.K "_law_looks") sp := by
  obtain ⟨fd, F⟩ := fd__law_looks T
  exact fnG_of (ok__law_looks T F h) (FunD.bindsN F fun _ _ _ _ _ _ us hl => match us, hl with | [_, _, _, _, _], _ => rfl)
theorem sc__law_family : FnScope ["_law_marks_here", "_law_stands", "_law_pays_here", "_law_made", "_law_lazy", "_law_other", "_law_told"] ["_law_marks_here", "_law_stands", "_law_pays_here", "_law_made"] (defScope (top 62)) := ⟨rfl, rfl, rfl, by decide +kernel, rfl, by decide +kernel, by decide +kernel⟩
def rd__law_family (g : Wd) (j : Nat) (E : XK) : TS :=
  tSeq (tAsg (cMake g j (fun cls d _ H => E cls d H) (gad g.K "Lazy") (tCons (tOp (cIx g.K) (cV 0) (tC (.int 0))) (tNil))) (gName 4))
  (tSeq (tAsg (cMake g j (fun cls d _ H => E cls d H) (gad g.K "Lazy") (tCons (tOp (cIx g.K) (cV 0) (tC (.int 1))) (tNil))) (gName 5))
  (tSeq (tIfS (tNot (cTru g.K (cCall g j (fun cls d _ H => E cls d H) (gad g.K "_law_looks") (tCons (cNew0 g j (fun cls d _ H => E cls d H) (gad g.K "Keeper")) (tCons (tLst (tCons (tC (.str "rest")) (tCons (tC (.int 0)) (tNil)))) (tCons (cV 1) (tCons (cV 2) (tCons (cV 3) (tNil))))))))) (tRet (tC (.bl false))) (tNext))
  (tSeq (tIfS (tNot (cTru g.K (cCall g j (fun cls d _ H => E cls d H) (gad g.K "_law_looks") (tCons (cNew0 g j (fun cls d _ H => E cls d H) (gad g.K "Greedy")) (tCons (tLst (tCons (tC (.str "greedy")) (tCons (tC (.int 0)) (tNil)))) (tCons (cV 1) (tCons (cV 2) (tCons (cV 3) (tNil))))))))) (tRet (tC (.bl false))) (tNext))
  (tSeq (tIfS (tNot (cTru g.K (cCall g j (fun cls d _ H => E cls d H) (gad g.K "_law_looks") (tCons (cV 4) (tCons (tLst (tCons (tC (.str "lazy")) (tCons (tOp (cIx g.K) (cV 0) (tC (.int 0))) (tNil)))) (tCons (cV 1) (tCons (cV 2) (tCons (cV 3) (tNil))))))))) (tRet (tC (.bl false))) (tNext))
  (tSeq (tIfS (tNot (cTru g.K (cCall g j (fun cls d _ H => E cls d H) (gad g.K "_law_looks") (tCons (cV 5) (tCons (tLst (tCons (tC (.str "lazy")) (tCons (tOp (cIx g.K) (cV 0) (tC (.int 1))) (tNil)))) (tCons (cV 1) (tCons (cV 2) (tCons (cV 3) (tNil))))))))) (tRet (tC (.bl false))) (tNext))
  (tSeq (tAsg (cMeth g j (fun cls d _ H => E cls d H) "set_mark" (cV 4) (tCons (tOp (cIx g.K) (cV 0) (tC (.int 2))) (tNil))) (gName 6))
  (tSeq (tIfS (tOr (cTest (tOp (cIsN true) (cV 6) (tC .non))) (tNot (cTru g.K (cCall g j (fun cls d _ H => E cls d H) (gad g.K "_law_looks") (tCons (cV 4) (tCons (tLst (tCons (tC (.str "lazy")) (tCons (tOp (cIx g.K) (cV 0) (tC (.int 2))) (tNil)))) (tCons (cV 1) (tCons (cV 2) (tCons (cV 3) (tNil)))))))))) (tRet (tC (.bl false))) (tNext))
  (tSeq (tIfS (tNot (cTru g.K (cCall g j (fun cls d _ H => E cls d H) (gad g.K "_law_looks") (tCons (cV 5) (tCons (tLst (tCons (tC (.str "lazy")) (tCons (tOp (cIx g.K) (cV 0) (tC (.int 1))) (tNil)))) (tCons (cV 1) (tCons (cV 2) (tCons (cV 3) (tNil))))))))) (tRet (tC (.bl false))) (tNext))
  (tSeq (tAsg (cMeth g j (fun cls d _ H => E cls d H) "set_mark" (cV 4) (tCons (tC (.int 0)) (tNil))) (gName 6))
  (tRet (cAndV (tOp (cIsN false) (cV 6) (tC .non)) (cCall g j (fun cls d _ H => E cls d H) (gad g.K "_law_looks") (tCons (cV 4) (tCons (tLst (tCons (tC (.str "lazy")) (tCons (tC (.int 0)) (tNil)))) (tCons (cV 1) (tCons (cV 2) (tCons (cV 3) (tNil))))))))))))))))))
theorem dv__law_family {g : Wd} (T : Top g) {j : Nat} {f : Addr} {cdv : Value} {A : Around} {outer : List Env} {s : Shared} {H : Hp} {E : XK} (hr : Room (j + 1) (A.deeper (envOfC "_law_family" (defScope (top 62)) s.heap.objs.size f cdv))) :
    PSs (cxOf (L2.CX g.P g.w) g.P g.w g.K g.mg g.base ["_law_marks_here", "_law_stands", "_law_pays_here", "_law_made", "_law_lazy", "_law_other", "_law_told"] "_law_family" (defScope (top 62)) f cdv A outer s H E) (defBody (top 62)) (rd__law_family g j E) := by
  unfold rd__law_family
  exact (pss_cons (ps_set (i := 4) sc__law_family.nd rfl (Or.inl rfl) (pe_cMake (takes_of rfl rfl rfl rfl) (hr.mono (Nat.le_succ _)) (gf_Lazy T) (by rfl) (pa_cons (pe_ix ix_c (cv 0) pe_int (fun _ _ => rfl)) pa_nil)))
  (pss_cons (ps_set (i := 5) sc__law_family.nd rfl (Or.inl rfl) (pe_cMake (takes_of rfl rfl rfl rfl) (hr.mono (Nat.le_succ _)) (gf_Lazy T) (by rfl) (pa_cons (pe_ix ix_c (cv 0) pe_int (fun _ _ => rfl)) pa_nil)))
  (pss_cons (ps_if (pt_not (ptv (pe_cCall (takes_of rfl rfl rfl rfl) (hr.mono (Nat.le_succ _)) (gf__law_looks T) (by rfl) (pa_cons (pe_cNew0 (takes_of rfl rfl rfl rfl) (hr.mono (Nat.le_succ _)) (gf_Keeper T) (by rfl)) (pa_cons (pe_lst (pa_cons pe_str (pa_cons pe_int pa_nil))) (pa_cons (cv 1) (pa_cons (cv 2) (pa_cons (cv 3) pa_nil)))))))) (pss_one (ps_ret pe_bl)) pss_nil)
  (pss_cons (ps_if (pt_not (ptv (pe_cCall (takes_of rfl rfl rfl rfl) (hr.mono (Nat.le_succ _)) (gf__law_looks T) (by rfl) (pa_cons (pe_cNew0 (takes_of rfl rfl rfl rfl) (hr.mono (Nat.le_succ _)) (gf_Greedy T) (by rfl)) (pa_cons (pe_lst (pa_cons pe_str (pa_cons pe_int pa_nil))) (pa_cons (cv 1) (pa_cons (cv 2) (pa_cons (cv 3) pa_nil)))))))) (pss_one (ps_ret pe_bl)) pss_nil)
  (pss_cons (ps_if (pt_not (ptv (pe_cCall (takes_of rfl rfl rfl rfl) (hr.mono (Nat.le_succ _)) (gf__law_looks T) (by rfl) (pa_cons (cv 4) (pa_cons (pe_lst (pa_cons pe_str (pa_cons (pe_ix ix_c (cv 0) pe_int (fun _ _ => rfl)) pa_nil))) (pa_cons (cv 1) (pa_cons (cv 2) (pa_cons (cv 3) pa_nil)))))))) (pss_one (ps_ret pe_bl)) pss_nil)
  (pss_cons (ps_if (pt_not (ptv (pe_cCall (takes_of rfl rfl rfl rfl) (hr.mono (Nat.le_succ _)) (gf__law_looks T) (by rfl) (pa_cons (cv 5) (pa_cons (pe_lst (pa_cons pe_str (pa_cons (pe_ix ix_c (cv 0) pe_int (fun _ _ => rfl)) pa_nil))) (pa_cons (cv 1) (pa_cons (cv 2) (pa_cons (cv 3) pa_nil)))))))) (pss_one (ps_ret pe_bl)) pss_nil)
  (pss_cons (ps_set (i := 6) sc__law_family.nd rfl (Or.inl rfl) (pe_cMeth (takes_of rfl rfl rfl rfl) (hr.mono (Nat.le_succ _)) (cv 4) (pa_cons (pe_ix ix_c (cv 0) pe_int (fun _ _ => rfl)) pa_nil)))
  (pss_cons (ps_if (pw_or (ptc op_cIsNot (cv 6) pe_non (nomark _)) (pw_or1 (pt_not (ptv (pe_cCall (takes_of rfl rfl rfl rfl) (hr.mono (Nat.le_succ _)) (gf__law_looks T) (by rfl) (pa_cons (cv 4) (pa_cons (pe_lst (pa_cons pe_str (pa_cons (pe_ix ix_c (cv 0) pe_int (fun _ _ => rfl)) pa_nil))) (pa_cons (cv 1) (pa_cons (cv 2) (pa_cons (cv 3) pa_nil)))))))))).pt (pss_one (ps_ret pe_bl)) pss_nil)
  (pss_cons (ps_if (pt_not (ptv (pe_cCall (takes_of rfl rfl rfl rfl) (hr.mono (Nat.le_succ _)) (gf__law_looks T) (by rfl) (pa_cons (cv 5) (pa_cons (pe_lst (pa_cons pe_str (pa_cons (pe_ix ix_c (cv 0) pe_int (fun _ _ => rfl)) pa_nil))) (pa_cons (cv 1) (pa_cons (cv 2) (pa_cons (cv 3) pa_nil)))))))) (pss_one (ps_ret pe_bl)) pss_nil)
  (pss_cons (ps_set (i := 6) sc__law_family.nd rfl (Or.inl rfl) (pe_cMeth (takes_of rfl rfl rfl rfl) (hr.mono (Nat.le_succ _)) (cv 4) (pa_cons pe_int pa_nil)))
  (pss_one (ps_ret (pe_cAnd (pe_cmpR op_cIs (cv 6) pe_non (nomark _)) (pe_one (pe_cCall (takes_of rfl rfl rfl rfl) (hr.mono (Nat.le_succ _)) (gf__law_looks T) (by rfl) (pa_cons (cv 4) (pa_cons (pe_lst (pa_cons pe_str (pa_cons pe_int pa_nil))) (pa_cons (cv 1) (pa_cons (cv 2) (pa_cons (cv 3) pa_nil))))))))))))))))))))
theorem ok__law_family {g : Wd} (T : Top g) {fd : FuncData} (F : FunD g.K "_law_family" "_law_family" (defArgs (top 62)) (defBody (top 62)) (defScope (top 62)) [] [] (gad g.K "_law_family") fd) {j : Nat} {sp : Sp} (h : ∀ vs H Q E, sp vs H Q E → vs.length = 4 ∧ rd__law_family g j E { nx := fun _ H1 => Q .non H1, rt := Q } (L2.start ["_law_marks_here", "_law_stands", "_law_pays_here", "_law_made", "_law_lazy", "_law_other", "_law_told"] vs) H) : FnOk g.P g.w g.K g.mg g.base (L2.CX g.P g.w) (j + 2) (gad g.K "_law_family") fd ["_law_marks_here", "_law_stands", "_law_pays_here", "_law_made"] sp :=
  FunD.ok F sc__law_family (fun vs H Q E hh => (h vs H Q E hh).1) fun cdv A outer s H vs Q E hr hh => ⟨rd__law_family g j E, dv__law_family T hr, (h vs H Q E hh).2⟩
theorem fk__law_family {g : Wd} (T : Top g) (j : Nat) {sp : Sp} (h : ∀ vs H Q E, sp vs H Q E → vs.length = 4 ∧ rd__law_family g j E { nx := fun _ H1 => Q .non H1, rt := Q } (L2.start ["_law_marks_here", "_law_stands", "_law_pays_here", "_law_made", "_law_lazy", "_law_other", "_law_told"] vs) H) : FnG g (j + 2) (gad g.K "_law_family") sp := by
  obtain ⟨fd, F⟩ := fd__law_family T
  exact fnG_of (ok__law_family T F h) (FunD.bindsN F fun _ _ _ _ _ _ us hl => match us, hl with | [_, _, _, _], _ => rfl)
theorem sc__law_is_field : FnScope ["_law_raised", "_law_due_here"] ["_law_raised", "_law_due_here"] (defScope (top 63)) := ⟨rfl, rfl, rfl, by decide +kernel, rfl, by decide +kernel, by decide +kernel⟩
def rd__law_is_field (g : Wd) (j : Nat) (a : Addr) (cls : Value) (d : Option Addr) : TS :=
  tRet (cAndV (tOp (cEqN g.K false) (cXf g.K a cls d (cV 0) "field") (cV 1)) (cAndV (tCB (cIsx g.K a cls d) (tCons (cV 0) (tCons (cGv g "StoreError") (tNil)))) (tCB (cIsx g.K a cls d) (tCons (cV 0) (tCons (tC (.ty "ValueError")) (tNil))))))
theorem dv__law_is_field {g : Wd} (T : Top g) {j : Nat} {f : Addr} {cdv cls : Value} {d : Option Addr} {A : Around} {outer : List Env} {s : Shared} {H : Hp} {p : Addr × Obj} (hr : L2H.RoomH (j + 1) (A.deeper (envOfC "_law_is_field" (defScope (top 63)) s.heap.objs.size f cdv))) (hz : Zc cls d p.2) (hv : ∃ fv, p.2.data = .fields fv) :
    PSs (L2H.cxH (L2.CX g.P g.w) g.P g.w g.K g.mg g.base ["_law_raised", "_law_due_here"] "_law_is_field" (defScope (top 63)) f cdv A outer s H E0 p) (defBody (top 63)) (rd__law_is_field g j p.1 cls d) := by
  unfold rd__law_is_field
  exact (pss_one (ps_ret (pe_cAnd (pe_cmpR (op_cEq (roomH_units hr)) (pe_cXf (p := p) List.mem_cons_self hz hv (cv 0)) (cv 1) (nomark _)) (pe_cAnd (pe_callB (call_cIsx (p := p) List.mem_cons_self hz hv) (by rfl) (bl_isinstance T) bt_isinstance (pa_cons (cv 0) (pa_cons (pe_cGv (by rfl)) pa_nil))) (pe_one (pe_callB (call_cIsx (p := p) List.mem_cons_self hz hv) (by rfl) (bl_isinstance T) bt_isinstance (pa_cons (cv 0) (pa_cons (pe_bltn (v := .ty "ValueError") (by rfl) (bl_ValueError T) bt_ValueError (by rfl)) pa_nil))))))))
theorem sc__law_no_lazy : FnScope ["_law_number", "_law_raised"] ["_law_number"] (defScope (top 64)) := ⟨rfl, rfl, rfl, by decide +kernel, rfl, by decide +kernel, by decide +kernel⟩
def rd__law_no_lazy (g : Wd) (j : Nat) (E : XK) : TS :=
  tSeq (cTry g.K (.ref (gad g.K "InvalidInput")) 1 (fun W1 => tDrop (cMake g j W1 (gad g.K "Lazy") (tCons (cV 0) (tNil)))) (fun a cls d => tRet (cCallX g j a cls d (gad g.K "_law_is_field") (tCons (cV 1) (tCons (tC (.str "mark")) (tNil))))) (fun cls d _ H => E cls d H))
  (tRet (tC (.bl false)))
theorem dv__law_no_lazy {g : Wd} (T : Top g) {j : Nat} {f : Addr} {cdv : Value} {A : Around} {outer : List Env} {s : Shared} {H : Hp} {E : XK} (hr : Room (j + 1) (A.deeper (envOfC "_law_no_lazy" (defScope (top 64)) s.heap.objs.size f cdv))) :
    PSs (cxOf (L2.CX g.P g.w) g.P g.w g.K g.mg g.base ["_law_number", "_law_raised"] "_law_no_lazy" (defScope (top 64)) f cdv A outer s H E) (defBody (top 64)) (rd__law_no_lazy g j E) := by
  unfold rd__law_no_lazy
  exact (pss_cons (ps_cTry (Wout := (fun cls d _ H => E cls d H)) (c := .ref (gad g.K "InvalidInput")) (i := 1) (ts := fun a cls d => tRet (cCallX g j a cls d (gad g.K "_law_is_field") (tCons (cV 1) (tCons (tC (.str "mark")) (tNil))))) rfl rfl sc__law_no_lazy.nd rfl rfl (by exact ⟨rfl, by decide, .inl (gf_InvalidInput T).mg⟩) (takes_of rfl rfl rfl rfl) (fun W1 pn xe tk1 hpass => (pss_one (ps_expr (pe_cMake tk1 (hr.mono (Nat.le_succ _)) (gf_Lazy T) (by rfl) (pa_cons (cv 0) pa_nil))))) (fun a oe cls d pn hz hv => (pss_one (ps_ret (pe_cCallX (p := (a, oe)) (roomH_mark (hr.mono (Nat.le_succ _))) List.mem_cons_self hz hv (gf__law_is_field T) (by rfl) (pa_cons (cv 1) (pa_cons pe_str pa_nil)))))))
  (pss_one (ps_ret pe_bl)))
theorem ok__law_no_lazy {g : Wd} (T : Top g) {fd : FuncData} (F : FunD g.K "_law_no_lazy" "_law_no_lazy" (defArgs (top 64)) (defBody (top 64)) (defScope (top 64)) [] [] (gad g.K "_law_no_lazy") fd) {j : Nat} {sp : Sp} (h : ∀ vs H Q E, sp vs H Q E → vs.length = 1 ∧ rd__law_no_lazy g j E { nx := fun _ H1 => Q .non H1, rt := Q } (L2.start ["_law_number", "_law_raised"] vs) H) : FnOk g.P g.w g.K g.mg g.base (L2.CX g.P g.w) (j + 2) (gad g.K "_law_no_lazy") fd ["_law_number"] sp :=
  FunD.ok F sc__law_no_lazy (fun vs H Q E hh => (h vs H Q E hh).1) fun cdv A outer s H vs Q E hr hh => ⟨rd__law_no_lazy g j E, dv__law_no_lazy T hr, (h vs H Q E hh).2⟩
theorem fk__law_no_lazy {g : Wd} (T : Top g) (j : Nat) {sp : Sp} (h : ∀ vs H Q E, sp vs H Q E → vs.length = 1 ∧ rd__law_no_lazy g j E { nx := fun _ H1 => Q .non H1, rt := Q } (L2.start ["_law_number", "_law_raised"] vs) H) : FnG g (j + 2) (gad g.K "_law_no_lazy") sp := by
  obtain ⟨fd, F⟩ := fd__law_no_lazy T
  exact fnG_of (ok__law_no_lazy T F h) (FunD.bindsN F fun _ _ _ _ _ _ us hl => match us, hl with | [_], _ => rfl)
theorem sc__law_no_mark : FnScope ["_law_lazy", "_law_number", "_law_raised"] ["_law_lazy", "_law_number"] (defScope (top 65)) := ⟨rfl, rfl, rfl, by decide +kernel, rfl, by decide +kernel, by decide +kernel⟩
def rd__law_no_mark (g : Wd) (j : Nat) (E : XK) : TS :=
  tSeq (cTry g.K (.ref (gad g.K "InvalidInput")) 2 (fun W1 => tDrop (cMeth g j W1 "set_mark" (cV 0) (tCons (cV 1) (tNil)))) (fun a cls d => tRet (cCallX g j a cls d (gad g.K "_law_is_field") (tCons (cV 2) (tCons (tC (.str "mark")) (tNil))))) (fun cls d _ H => E cls d H))
  (tRet (tC (.bl false)))
theorem dv__law_no_mark {g : Wd} (T : Top g) {j : Nat} {f : Addr} {cdv : Value} {A : Around} {outer : List Env} {s : Shared} {H : Hp} {E : XK} (hr : Room (j + 1) (A.deeper (envOfC "_law_no_mark" (defScope (top 65)) s.heap.objs.size f cdv))) :
    PSs (cxOf (L2.CX g.P g.w) g.P g.w g.K g.mg g.base ["_law_lazy", "_law_number", "_law_raised"] "_law_no_mark" (defScope (top 65)) f cdv A outer s H E) (defBody (top 65)) (rd__law_no_mark g j E) := by
  unfold rd__law_no_mark
  exact (pss_cons (ps_cTry (Wout := (fun cls d _ H => E cls d H)) (c := .ref (gad g.K "InvalidInput")) (i := 2) (ts := fun a cls d => tRet (cCallX g j a cls d (gad g.K "_law_is_field") (tCons (cV 2) (tCons (tC (.str "mark")) (tNil))))) rfl rfl sc__law_no_mark.nd rfl rfl (by exact ⟨rfl, by decide, .inl (gf_InvalidInput T).mg⟩) (takes_of rfl rfl rfl rfl) (fun W1 pn xe tk1 hpass => (pss_one (ps_expr (pe_cMeth tk1 (hr.mono (Nat.le_succ _)) (cv 0) (pa_cons (cv 1) pa_nil))))) (fun a oe cls d pn hz hv => (pss_one (ps_ret (pe_cCallX (p := (a, oe)) (roomH_mark (hr.mono (Nat.le_succ _))) List.mem_cons_self hz hv (gf__law_is_field T) (by rfl) (pa_cons (cv 2) (pa_cons pe_str pa_nil)))))))
  (pss_one (ps_ret pe_bl)))
theorem ok__law_no_mark {g : Wd} (T : Top g) {fd : FuncData} (F : FunD g.K "_law_no_mark" "_law_no_mark" (defArgs (top 65)) (defBody (top 65)) (defScope (top 65)) [] [] (gad g.K "_law_no_mark") fd) {j : Nat} {sp : Sp} (h : ∀ vs H Q E, sp vs H Q E → vs.length = 2 ∧ rd__law_no_mark g j E { nx := fun _ H1 => Q .non H1, rt := Q } (L2.start ["_law_lazy", "_law_number", "_law_raised"] vs) H) : FnOk g.P g.w g.K g.mg g.base (L2.CX g.P g.w) (j + 2) (gad g.K "_law_no_mark") fd ["_law_lazy", "_law_number"] sp :=
  FunD.ok F sc__law_no_mark (fun vs H Q E hh => (h vs H Q E hh).1) fun cdv A outer s H vs Q E hr hh => ⟨rd__law_no_mark g j E, dv__law_no_mark T hr, (h vs H Q E hh).2⟩
theorem fk__law_no_mark {g : Wd} (T : Top g) (j : Nat) {sp : Sp} (h : ∀ vs H Q E, sp vs H Q E → vs.length = 2 ∧ rd__law_no_mark g j E { nx := fun _ H1 => Q .non H1, rt := Q } (L2.start ["_law_lazy", "_law_number", "_law_raised"] vs) H) : FnG g (j + 2) (gad g.K "_law_no_mark") sp := by
  obtain ⟨fd, F⟩ := fd__law_no_mark T
  exact fnG_of (ok__law_no_mark T F h) (FunD.bindsN F fun _ _ _ _ _ _ us hl => match us, hl with | [_, _], _ => rfl)
theorem sc__law_no_thrifty : FnScope ["_law_number", "_law_raised"] ["_law_number"] (defScope (top 66)) := ⟨rfl, rfl, rfl, by decide +kernel, rfl, by decide +kernel, by decide +kernel⟩
def rd__law_no_thrifty (g : Wd) (j : Nat) (E : XK) : TS :=
  tSeq (cTry g.K (.ref (gad g.K "InvalidInput")) 1 (fun W1 => tDrop (cMake g j W1 (gad g.K "Thrifty") (tCons (cV 0) (tNil)))) (fun a cls d => tRet (cCallX g j a cls d (gad g.K "_law_is_field") (tCons (cV 1) (tCons (tC (.str "limit")) (tNil))))) (fun cls d _ H => E cls d H))
  (tRet (tC (.bl false)))
theorem dv__law_no_thrifty {g : Wd} (T : Top g) {j : Nat} {f : Addr} {cdv : Value} {A : Around} {outer : List Env} {s : Shared} {H : Hp} {E : XK} (hr : Room (j + 1) (A.deeper (envOfC "_law_no_thrifty" (defScope (top 66)) s.heap.objs.size f cdv))) :
    PSs (cxOf (L2.CX g.P g.w) g.P g.w g.K g.mg g.base ["_law_number", "_law_raised"] "_law_no_thrifty" (defScope (top 66)) f cdv A outer s H E) (defBody (top 66)) (rd__law_no_thrifty g j E) := by
  unfold rd__law_no_thrifty
  exact (pss_cons (ps_cTry (Wout := (fun cls d _ H => E cls d H)) (c := .ref (gad g.K "InvalidInput")) (i := 1) (ts := fun a cls d => tRet (cCallX g j a cls d (gad g.K "_law_is_field") (tCons (cV 1) (tCons (tC (.str "limit")) (tNil))))) rfl rfl sc__law_no_thrifty.nd rfl rfl (by exact ⟨rfl, by decide, .inl (gf_InvalidInput T).mg⟩) (takes_of rfl rfl rfl rfl) (fun W1 pn xe tk1 hpass => (pss_one (ps_expr (pe_cMake tk1 (hr.mono (Nat.le_succ _)) (gf_Thrifty T) (by rfl) (pa_cons (cv 0) pa_nil))))) (fun a oe cls d pn hz hv => (pss_one (ps_ret (pe_cCallX (p := (a, oe)) (roomH_mark (hr.mono (Nat.le_succ _))) List.mem_cons_self hz hv (gf__law_is_field T) (by rfl) (pa_cons (cv 1) (pa_cons pe_str pa_nil)))))))
  (pss_one (ps_ret pe_bl)))
theorem ok__law_no_thrifty {g : Wd} (T : Top g) {fd : FuncData} (F : FunD g.K "_law_no_thrifty" "_law_no_thrifty" (defArgs (top 66)) (defBody (top 66)) (defScope (top 66)) [] [] (gad g.K "_law_no_thrifty") fd) {j : Nat} {sp : Sp} (h : ∀ vs H Q E, sp vs H Q E → vs.length = 1 ∧ rd__law_no_thrifty g j E { nx := fun _ H1 => Q .non H1, rt := Q } (L2.start ["_law_number", "_law_raised"] vs) H) : FnOk g.P g.w g.K g.mg g.base (L2.CX g.P g.w) (j + 2) (gad g.K "_law_no_thrifty") fd ["_law_number"] sp :=
  FunD.ok F sc__law_no_thrifty (fun vs H Q E hh => (h vs H Q E hh).1) fun cdv A outer s H vs Q E hr hh => ⟨rd__law_no_thrifty g j E, dv__law_no_thrifty T hr, (h vs H Q E hh).2⟩
theorem fk__law_no_thrifty {g : Wd} (T : Top g) (j : Nat) {sp : Sp} (h : ∀ vs H Q E, sp vs H Q E → vs.length = 1 ∧ rd__law_no_thrifty g j E { nx := fun _ H1 => Q .non H1, rt := Q } (L2.start ["_law_number", "_law_raised"] vs) H) : FnG g (j + 2) (gad g.K "_law_no_thrifty") sp := by
  obtain ⟨fd, F⟩ := fd__law_no_thrifty T
  exact fnG_of (ok__law_no_thrifty T F h) (FunD.bindsN F fun _ _ _ _ _ _ us hl => match us, hl with | [_], _ => rfl)
theorem sc__law_bad_numbers : FnScope ["_law_script", "_law_box_here", "_law_marks_here", "_law_stands", "_law_pays_here", "_law_made", "_law_low", "_law_lazy"] ["_law_script", "_law_box_here", "_law_marks_here", "_law_stands", "_law_pays_here", "_law_made"] (defScope (top 67)) := ⟨rfl, rfl, rfl, by decide +kernel, rfl, by decide +kernel, by decide +kernel⟩
def rd__law_bad_numbers (g : Wd) (j : Nat) (E : XK) : TS :=
  tSeq (tAsg (tOp cSub (tUn cNeg (tC (.int 1))) (cCall g j (fun cls d _ H => E cls d H) (gad g.K "_law_take") (tCons (cV 0) (tCons (cV 1) (tCons (tOp (cIx g.K) (tLst (tCons (tC (.int 3)) (tCons (tOp cPow (tC (.int 10)) (tC (.int 30))) (tNil)))) (cCall g j (fun cls d _ H => E cls d H) (gad g.K "_law_take") (tCons (cV 0) (tCons (cV 1) (tCons (tC (.int 2)) (tNil)))))) (tNil)))))) (gName 6))
  (tSeq (tAsg (cMake g j (fun cls d _ H => E cls d H) (gad g.K "Lazy") (tCons (tOp (cIx g.K) (cV 2) (tC (.int 0))) (tNil))) (gName 7))
  (tSeq (tIfS (tOr (tNot (cTru g.K (cCall g j (fun cls d _ H => E cls d H) (gad g.K "_law_no_lazy") (tCons (cV 6) (tNil))))) (tNot (cTru g.K (cCall g j (fun cls d _ H => E cls d H) (gad g.K "_law_no_mark") (tCons (cV 7) (tCons (cV 6) (tNil))))))) (tRet (tC (.bl false))) (tNext))
  (tSeq (tIfS (tNot (cTru g.K (cCall g j (fun cls d _ H => E cls d H) (gad g.K "_law_looks") (tCons (cV 7) (tCons (tLst (tCons (tC (.str "lazy")) (tCons (tOp (cIx g.K) (cV 2) (tC (.int 0))) (tNil)))) (tCons (cV 3) (tCons (cV 4) (tCons (cV 5) (tNil))))))))) (tRet (tC (.bl false))) (tNext))
  (tSeq (tDrop (cMeth g j (fun cls d _ H => E cls d H) "set_mark" (cV 7) (tCons (tOp (cIx g.K) (cV 2) (tC (.int 1))) (tNil))))
  (tSeq (tIfS (tOr (tNot (cTru g.K (cCall g j (fun cls d _ H => E cls d H) (gad g.K "_law_no_mark") (tCons (cV 7) (tCons (tUn cNeg (tC (.int 1))) (tNil)))))) (tNot (cTru g.K (cCall g j (fun cls d _ H => E cls d H) (gad g.K "_law_looks") (tCons (cV 7) (tCons (tLst (tCons (tC (.str "lazy")) (tCons (tOp (cIx g.K) (cV 2) (tC (.int 1))) (tNil)))) (tCons (cV 3) (tCons (cV 4) (tCons (cV 5) (tNil)))))))))) (tRet (tC (.bl false))) (tNext))
  (tSeq (tIfS (tOr (tNot (cTru g.K (cCall g j (fun cls d _ H => E cls d H) (gad g.K "_law_no_thrifty") (tCons (tC (.int 0)) (tNil))))) (tNot (cTru g.K (cCall g j (fun cls d _ H => E cls d H) (gad g.K "_law_no_thrifty") (tCons (cV 6) (tNil)))))) (tRet (tC (.bl false))) (tNext))
  (tRet (cAndV (tOp (cEqN g.K false) (cMeth g j (fun cls d _ H => E cls d H) "label" (cMake g j (fun cls d _ H => E cls d H) (gad g.K "Thrifty") (tCons (tC (.int 1)) (tNil))) tNil) (tC (.str "thrifty 1"))) (tOp (cEqN g.K false) (cMeth g j (fun cls d _ H => E cls d H) "label" (cMake g j (fun cls d _ H => E cls d H) (gad g.K "Thrifty") (tCons (tOp cSub (tC (.int 1)) (cV 6)) (tNil))) tNil) (tOp (cAdd g.K noOw) (tC (.str "thrifty ")) (tCB (cStr) (tCons (tOp cSub (tC (.int 1)) (cV 6)) (tNil)))))))))))))
theorem dv__law_bad_numbers {g : Wd} (T : Top g) {j : Nat} {f : Addr} {cdv : Value} {A : Around} {outer : List Env} {s : Shared} {H : Hp} {E : XK} (hr : Room (j + 1) (A.deeper (envOfC "_law_bad_numbers" (defScope (top 67)) s.heap.objs.size f cdv))) :
    PSs (cxOf (L2.CX g.P g.w) g.P g.w g.K g.mg g.base ["_law_script", "_law_box_here", "_law_marks_here", "_law_stands", "_law_pays_here", "_law_made", "_law_low", "_law_lazy"] "_law_bad_numbers" (defScope (top 67)) f cdv A outer s H E) (defBody (top 67)) (rd__law_bad_numbers g j E) := by
  unfold rd__law_bad_numbers
  exact (pss_cons (ps_set (i := 6) sc__law_bad_numbers.nd rfl (Or.inl rfl) (pe_op op_cSub (pe_un un_cNeg pe_int) (pe_cCall (takes_of rfl rfl rfl rfl) (hr.mono (Nat.le_succ _)) (gf__law_take T) (by rfl) (pa_cons (cv 0) (pa_cons (cv 1) (pa_cons (pe_ix ix_c (pe_lst (pa_cons pe_int (pa_cons (pe_op op_cPow pe_int pe_int) pa_nil))) (pe_cCall (takes_of rfl rfl rfl rfl) (hr.mono (Nat.le_succ _)) (gf__law_take T) (by rfl) (pa_cons (cv 0) (pa_cons (cv 1) (pa_cons pe_int pa_nil)))) (fun _ _ => rfl)) pa_nil))))))
  (pss_cons (ps_set (i := 7) sc__law_bad_numbers.nd rfl (Or.inl rfl) (pe_cMake (takes_of rfl rfl rfl rfl) (hr.mono (Nat.le_succ _)) (gf_Lazy T) (by rfl) (pa_cons (pe_ix ix_c (cv 2) pe_int (fun _ _ => rfl)) pa_nil)))
  (pss_cons (ps_if (pw_or (pt_not (ptv (pe_cCall (takes_of rfl rfl rfl rfl) (hr.mono (Nat.le_succ _)) (gf__law_no_lazy T) (by rfl) (pa_cons (cv 6) pa_nil)))) (pw_or1 (pt_not (ptv (pe_cCall (takes_of rfl rfl rfl rfl) (hr.mono (Nat.le_succ _)) (gf__law_no_mark T) (by rfl) (pa_cons (cv 7) (pa_cons (cv 6) pa_nil))))))).pt (pss_one (ps_ret pe_bl)) pss_nil)
  (pss_cons (ps_if (pt_not (ptv (pe_cCall (takes_of rfl rfl rfl rfl) (hr.mono (Nat.le_succ _)) (gf__law_looks T) (by rfl) (pa_cons (cv 7) (pa_cons (pe_lst (pa_cons pe_str (pa_cons (pe_ix ix_c (cv 2) pe_int (fun _ _ => rfl)) pa_nil))) (pa_cons (cv 3) (pa_cons (cv 4) (pa_cons (cv 5) pa_nil)))))))) (pss_one (ps_ret pe_bl)) pss_nil)
  (pss_cons (ps_expr (pe_cMeth (takes_of rfl rfl rfl rfl) (hr.mono (Nat.le_succ _)) (cv 7) (pa_cons (pe_ix ix_c (cv 2) pe_int (fun _ _ => rfl)) pa_nil)))
  (pss_cons (ps_if (pw_or (pt_not (ptv (pe_cCall (takes_of rfl rfl rfl rfl) (hr.mono (Nat.le_succ _)) (gf__law_no_mark T) (by rfl) (pa_cons (cv 7) (pa_cons (pe_un un_cNeg pe_int) pa_nil))))) (pw_or1 (pt_not (ptv (pe_cCall (takes_of rfl rfl rfl rfl) (hr.mono (Nat.le_succ _)) (gf__law_looks T) (by rfl) (pa_cons (cv 7) (pa_cons (pe_lst (pa_cons pe_str (pa_cons (pe_ix ix_c (cv 2) pe_int (fun _ _ => rfl)) pa_nil))) (pa_cons (cv 3) (pa_cons (cv 4) (pa_cons (cv 5) pa_nil)))))))))).pt (pss_one (ps_ret pe_bl)) pss_nil)
  (pss_cons (ps_if (pw_or (pt_not (ptv (pe_cCall (takes_of rfl rfl rfl rfl) (hr.mono (Nat.le_succ _)) (gf__law_no_thrifty T) (by rfl) (pa_cons pe_int pa_nil)))) (pw_or1 (pt_not (ptv (pe_cCall (takes_of rfl rfl rfl rfl) (hr.mono (Nat.le_succ _)) (gf__law_no_thrifty T) (by rfl) (pa_cons (cv 6) pa_nil)))))).pt (pss_one (ps_ret pe_bl)) pss_nil)
  (pss_one (ps_ret (pe_cAnd (pe_cmpR (op_cEq hr.units) (pe_cMeth0 (takes_of rfl rfl rfl rfl) (hr.mono (Nat.le_succ _)) (pe_cMake (takes_of rfl rfl rfl rfl) (hr.mono (Nat.le_succ _)) (gf_Thrifty T) (by rfl) (pa_cons pe_int pa_nil))) pe_str (nomark _)) (pe_one (pe_cmpR (op_cEq hr.units) (pe_cMeth0 (takes_of rfl rfl rfl rfl) (hr.mono (Nat.le_succ _)) (pe_cMake (takes_of rfl rfl rfl rfl) (hr.mono (Nat.le_succ _)) (gf_Thrifty T) (by rfl) (pa_cons (pe_op op_cSub pe_int (cv 6)) pa_nil))) (pe_op (op_cAdd noOw_ok) pe_str (pe_callTy (call_cStr) (by rfl) (bl_str T) bt_str (pa_cons (pe_op op_cSub pe_int (cv 6)) pa_nil))) (nomark _)))))))))))))
theorem ok__law_bad_numbers {g : Wd} (T : Top g) {fd : FuncData} (F : FunD g.K "_law_bad_numbers" "_law_bad_numbers" (defArgs (top 67)) (defBody (top 67)) (defScope (top 67)) [] [] (gad g.K "_law_bad_numbers") fd) {j : Nat} {sp : Sp} (h : ∀ vs H Q E, sp vs H Q E → vs.length = 6 ∧ rd__law_bad_numbers g j E { nx := fun _ H1 => Q .non H1, rt := Q } (L2.start ["_law_script", "_law_box_here", "_law_marks_here", "_law_stands", "_law_pays_here", "_law_made", "_law_low", "_law_lazy"] vs) H) : FnOk g.P g.w g.K g.mg g.base (L2.CX g.P g.w) (j + 2) (gad g.K "_law_bad_numbers") fd ["_law_script", "_law_box_here", "_law_marks_here", "_law_stands", "_law_pays_here", "_law_made"] sp :=
  FunD.ok F sc__law_bad_numbers (fun vs H Q E hh => (h vs H Q E hh).1) fun cdv A outer s H vs Q E hr hh => ⟨rd__law_bad_numbers g j E, dv__law_bad_numbers T hr, (h vs H Q E hh).2⟩
theorem fk__law_bad_numbers {g : Wd} (T : Top g) (j : Nat) {sp : Sp} (h : ∀ vs H Q E, sp vs H Q E → vs.length = 6 ∧ rd__law_bad_numbers g j E { nx := fun _ H1 => Q .non H1, rt := Q } (L2.start ["_law_script", "_law_box_here", "_law_marks_here", "_law_stands", "_law_pays_here", "_law_made", "_law_low", "_law_lazy"] vs) H) : FnG g (j + 2) (gad g.K "_law_bad_numbers") sp := by
  obtain ⟨fd, F⟩ := fd__law_bad_numbers T
  exact fnG_of (ok__law_bad_numbers T F h) (FunD.bindsN F fun _ _ _ _ _ _ us hl => match us, hl with | [_, _, _, _, _, _], _ => rfl)
theorem sc__law_thrifty : FnScope ["_law_script", "_law_box_here", "_law_stand_here", "_law_pays_here", "_law_made", "_law_word_here", "_law_wide", "_law_many", "_law_keeper", "_law_told"] ["_law_script", "_law_box_here", "_law_stand_here", "_law_pays_here", "_law_made"] (defScope (top 68)) := ⟨rfl, rfl, rfl, by decide +kernel, rfl, by decide +kernel, by decide +kernel⟩
def rd__law_thrifty (g : Wd) (j : Nat) (E : XK) : TS :=
  tSeq (tAsg (tOp (cIx g.K) (cV 2) (tC (.int 0))) (gName 5))
  (tSeq (tAsg (tOp (cIx g.K) (cV 2) (tC (.int 1))) (gName 6))
  (tSeq (tIfS (cTest (tOp (cEqN g.K false) (cStrM mCount (cV 5) (tCons (tC (.str "1")) (tNil))) (cV 6))) (tAsg (tC (.str "")) (gName 5)) (tNext))
  (tSeq (tAsg (tOp (cAdd g.K noOw) (tOp (cAdd g.K noOw) (tC (.int 1)) (cStrM mCount (cV 5) (tCons (tC (.str "1")) (tNil)))) (cCall g j (fun cls d _ H => E cls d H) (gad g.K "_law_take") (tCons (cV 0) (tCons (cV 1) (tCons (tOp cSub (cV 6) (cStrM mCount (cV 5) (tCons (tC (.str "1")) (tNil)))) (tNil)))))) (gName 7))
  (tSeq (tAsg (cMake g j (fun cls d _ H => E cls d H) (gad g.K "Thrifty") (tCons (cV 7) (tNil))) (gName 8))
  (tSeq (tAsg (cMeth g j (fun cls d _ H => E cls d H) "choose" (cV 8) (tCons (cV 5) (tCons (cV 6) (tCons (cV 4) (tCons (tOp (cIx g.K) (cV 2) (tC (.int 2))) (tNil)))))) (gName 9))
  (tSeq (tIfS (tOr (tNot (cTru g.K (tCB (cIsi g.K) (tCons (cV 8) (tCons (cGv g "Keeper") (tNil)))))) (cTest (tOp (cEqN g.K true) (cMeth g j (fun cls d _ H => E cls d H) "label" (cV 8) tNil) (tOp (cAdd g.K noOw) (tC (.str "thrifty ")) (tCB (cStr) (tCons (cV 7) (tNil))))))) (tRet (tC (.bl false))) (tNext))
  (tRet (cAndV (cCall g j (fun cls d _ H => E cls d H) (gad g.K "_law_is_count") (tCons (cV 9) (tNil))) (cChain cLe cLe (tC (.int 0)) (cV 9) (cCall g j (fun cls d _ H => E cls d H) (gad g.K "_law_due") (tCons (tLst (tCons (tC (.str "greedy")) (tCons (tC (.int 0)) (tNil)))) (tCons (tLst (tCons (cV 5) (tCons (cV 6) (tCons (tOp (cIx g.K) (cV 2) (tC (.int 2))) (tNil))))) (tCons (cV 3) (tNil))))))))))))))
theorem dv__law_thrifty {g : Wd} (T : Top g) {j : Nat} {f : Addr} {cdv : Value} {A : Around} {outer : List Env} {s : Shared} {H : Hp} {E : XK} (hr : Room (j + 1) (A.deeper (envOfC "_law_thrifty" (defScope (top 68)) s.heap.objs.size f cdv))) :
    PSs (cxOf (L2.CX g.P g.w) g.P g.w g.K g.mg g.base ["_law_script", "_law_box_here", "_law_stand_here", "_law_pays_here", "_law_made", "_law_word_here", "_law_wide", "_law_many", "_law_keeper", "_law_told"] "_law_thrifty" (defScope (top 68)) f cdv A outer s H E) (defBody (top 68)) (rd__law_thrifty g j E) := by
  unfold rd__law_thrifty
  exact (pss_cons (ps_set (i := 5) sc__law_thrifty.nd rfl (Or.inl rfl) (pe_ix ix_c (cv 2) pe_int (fun _ _ => rfl)))
  (pss_cons (ps_set (i := 6) sc__law_thrifty.nd rfl (Or.inl rfl) (pe_ix ix_c (cv 2) pe_int (fun _ _ => rfl)))
  (pss_cons (ps_if (ptc (op_cEq hr.units) (pe_sm PySem.F.slot_str_count PySem.F.type_str_count m_count (cv 5) (pa_cons pe_str pa_nil)) (cv 6) (nomark _)) (pss_one (ps_set (i := 5) sc__law_thrifty.nd rfl (Or.inl rfl) pe_str)) pss_nil)
  (pss_cons (ps_set (i := 7) sc__law_thrifty.nd rfl (Or.inl rfl) (pe_op (op_cAdd noOw_ok) (pe_op (op_cAdd noOw_ok) pe_int (pe_sm PySem.F.slot_str_count PySem.F.type_str_count m_count (cv 5) (pa_cons pe_str pa_nil))) (pe_cCall (takes_of rfl rfl rfl rfl) (hr.mono (Nat.le_succ _)) (gf__law_take T) (by rfl) (pa_cons (cv 0) (pa_cons (cv 1) (pa_cons (pe_op op_cSub (cv 6) (pe_sm PySem.F.slot_str_count PySem.F.type_str_count m_count (cv 5) (pa_cons pe_str pa_nil))) pa_nil))))))
  (pss_cons (ps_set (i := 8) sc__law_thrifty.nd rfl (Or.inl rfl) (pe_cMake (takes_of rfl rfl rfl rfl) (hr.mono (Nat.le_succ _)) (gf_Thrifty T) (by rfl) (pa_cons (cv 7) pa_nil)))
  (pss_cons (ps_set (i := 9) sc__law_thrifty.nd rfl (Or.inl rfl) (pe_cMeth (takes_of rfl rfl rfl rfl) (hr.mono (Nat.le_succ _)) (cv 8) (pa_cons (cv 5) (pa_cons (cv 6) (pa_cons (cv 4) (pa_cons (pe_ix ix_c (cv 2) pe_int (fun _ _ => rfl)) pa_nil))))))
  (pss_cons (ps_if (pw_or (pt_not (ptv (pe_callB (call_cIsi) (by rfl) (bl_isinstance T) bt_isinstance (pa_cons (cv 8) (pa_cons (pe_cGv (by rfl)) pa_nil))))) (pw_or1 (ptc (op_cNe hr.units) (pe_cMeth0 (takes_of rfl rfl rfl rfl) (hr.mono (Nat.le_succ _)) (cv 8)) (pe_op (op_cAdd noOw_ok) pe_str (pe_callTy (call_cStr) (by rfl) (bl_str T) bt_str (pa_cons (cv 7) pa_nil))) (nomark _)))).pt (pss_one (ps_ret pe_bl)) pss_nil)
  (pss_one (ps_ret (pe_cAnd (pe_cCall (takes_of rfl rfl rfl rfl) (hr.mono (Nat.le_succ _)) (gf__law_is_count T) (by rfl) (pa_cons (cv 9) pa_nil)) (pe_one (pec op_cLe op_cLe pe_int (cv 9) (pe_cCall (takes_of rfl rfl rfl rfl) (hr.mono (Nat.le_succ _)) (gf__law_due T) (by rfl) (pa_cons (pe_lst (pa_cons pe_str (pa_cons pe_int pa_nil))) (pa_cons (pe_lst (pa_cons (cv 5) (pa_cons (cv 6) (pa_cons (pe_ix ix_c (cv 2) pe_int (fun _ _ => rfl)) pa_nil)))) (pa_cons (cv 3) pa_nil))))))))))))))))
theorem ok__law_thrifty {g : Wd} (T : Top g) {fd : FuncData} (F : FunD g.K "_law_thrifty" "_law_thrifty" (defArgs (top 68)) (defBody (top 68)) (defScope (top 68)) [] [] (gad g.K "_law_thrifty") fd) {j : Nat} {sp : Sp} (h : ∀ vs H Q E, sp vs H Q E → vs.length = 5 ∧ rd__law_thrifty g j E { nx := fun _ H1 => Q .non H1, rt := Q } (L2.start ["_law_script", "_law_box_here", "_law_stand_here", "_law_pays_here", "_law_made", "_law_word_here", "_law_wide", "_law_many", "_law_keeper", "_law_told"] vs) H) : FnOk g.P g.w g.K g.mg g.base (L2.CX g.P g.w) (j + 2) (gad g.K "_law_thrifty") fd ["_law_script", "_law_box_here", "_law_stand_here", "_law_pays_here", "_law_made"] sp :=
  FunD.ok F sc__law_thrifty (fun vs H Q E hh => (h vs H Q E hh).1) fun cdv A outer s H vs Q E hr hh => ⟨rd__law_thrifty g j E, dv__law_thrifty T hr, (h vs H Q E hh).2⟩
theorem fk__law_thrifty {g : Wd} (T : Top g) (j : Nat) {sp : Sp} (h : ∀ vs H Q E, sp vs H Q E → vs.length = 5 ∧ rd__law_thrifty g j E { nx := fun _ H1 => Q .non H1, rt := Q } (L2.start ["_law_script", "_law_box_here", "_law_stand_here", "_law_pays_here", "_law_made", "_law_word_here", "_law_wide", "_law_many", "_law_keeper", "_law_told"] vs) H) : FnG g (j + 2) (gad g.K "_law_thrifty") sp := by
  obtain ⟨fd, F⟩ := fd__law_thrifty T
  exact fnG_of (ok__law_thrifty T F h) (FunD.bindsN F fun _ _ _ _ _ _ us hl => match us, hl with | [_, _, _, _, _], _ => rfl)
theorem sc__law_refused : FnScope ["_law_keeper", "_law_word_here", "_law_wide", "_law_made", "_law_beat", "_law_due_here", "_law_raised"] ["_law_keeper", "_law_word_here", "_law_wide", "_law_made", "_law_beat", "_law_due_here"] (defScope (top 69)) := ⟨rfl, rfl, rfl, by decide +kernel, rfl, by decide +kernel, by decide +kernel⟩
def rd__law_refused (g : Wd) (j : Nat) (E : XK) : TS :=
  tSeq (cTry g.K (.ref (gad g.K "InvalidInput")) 6 (fun W1 => tDrop (cMeth g j W1 "choose" (cV 0) (tCons (cV 1) (tCons (cV 2) (tCons (cV 3) (tCons (cV 4) (tNil))))))) (fun a cls d => tRet (cCallX g j a cls d (gad g.K "_law_is_field") (tCons (cV 6) (tCons (cV 5) (tNil))))) (fun cls d _ H => E cls d H))
  (tRet (tC (.bl false)))
theorem dv__law_refused {g : Wd} (T : Top g) {j : Nat} {f : Addr} {cdv : Value} {A : Around} {outer : List Env} {s : Shared} {H : Hp} {E : XK} (hr : Room (j + 1) (A.deeper (envOfC "_law_refused" (defScope (top 69)) s.heap.objs.size f cdv))) :
    PSs (cxOf (L2.CX g.P g.w) g.P g.w g.K g.mg g.base ["_law_keeper", "_law_word_here", "_law_wide", "_law_made", "_law_beat", "_law_due_here", "_law_raised"] "_law_refused" (defScope (top 69)) f cdv A outer s H E) (defBody (top 69)) (rd__law_refused g j E) := by
  unfold rd__law_refused
  exact (pss_cons (ps_cTry (Wout := (fun cls d _ H => E cls d H)) (c := .ref (gad g.K "InvalidInput")) (i := 6) (ts := fun a cls d => tRet (cCallX g j a cls d (gad g.K "_law_is_field") (tCons (cV 6) (tCons (cV 5) (tNil))))) rfl rfl sc__law_refused.nd rfl rfl (by exact ⟨rfl, by decide, .inl (gf_InvalidInput T).mg⟩) (takes_of rfl rfl rfl rfl) (fun W1 pn xe tk1 hpass => (pss_one (ps_expr (pe_cMeth tk1 (hr.mono (Nat.le_succ _)) (cv 0) (pa_cons (cv 1) (pa_cons (cv 2) (pa_cons (cv 3) (pa_cons (cv 4) pa_nil)))))))) (fun a oe cls d pn hz hv => (pss_one (ps_ret (pe_cCallX (p := (a, oe)) (roomH_mark (hr.mono (Nat.le_succ _))) List.mem_cons_self hz hv (gf__law_is_field T) (by rfl) (pa_cons (cv 6) (pa_cons (cv 5) pa_nil)))))))
  (pss_one (ps_ret pe_bl)))
theorem ok__law_refused {g : Wd} (T : Top g) {fd : FuncData} (F : FunD g.K "_law_refused" "_law_refused" (defArgs (top 69)) (defBody (top 69)) (defScope (top 69)) [] [] (gad g.K "_law_refused") fd) {j : Nat} {sp : Sp} (h : ∀ vs H Q E, sp vs H Q E → vs.length = 6 ∧ rd__law_refused g j E { nx := fun _ H1 => Q .non H1, rt := Q } (L2.start ["_law_keeper", "_law_word_here", "_law_wide", "_law_made", "_law_beat", "_law_due_here", "_law_raised"] vs) H) : FnOk g.P g.w g.K g.mg g.base (L2.CX g.P g.w) (j + 2) (gad g.K "_law_refused") fd ["_law_keeper", "_law_word_here", "_law_wide", "_law_made", "_law_beat", "_law_due_here"] sp :=
  FunD.ok F sc__law_refused (fun vs H Q E hh => (h vs H Q E hh).1) fun cdv A outer s H vs Q E hr hh => ⟨rd__law_refused g j E, dv__law_refused T hr, (h vs H Q E hh).2⟩
theorem fk__law_refused {g : Wd} (T : Top g) (j : Nat) {sp : Sp} (h : ∀ vs H Q E, sp vs H Q E → vs.length = 6 ∧ rd__law_refused g j E { nx := fun _ H1 => Q .non H1, rt := Q } (L2.start ["_law_keeper", "_law_word_here", "_law_wide", "_law_made", "_law_beat", "_law_due_here", "_law_raised"] vs) H) : FnG g (j + 2) (gad g.K "_law_refused") sp := by
  obtain ⟨fd, F⟩ := fd__law_refused T
  exact fnG_of (ok__law_refused T F h) (FunD.bindsN F fun _ _ _ _ _ _ us hl => match us, hl with | [_, _, _, _, _, _], _ => rfl)
theorem sc__law_refusals : FnScope ["_law_script", "_law_box_here", "_law_keeper", "_law_stand_here", "_law_made", "_law_word_here", "_law_wide", "_law_odd", "_law_none", "_law_low", "_law_long", "_law_short"] ["_law_script", "_law_box_here", "_law_keeper", "_law_stand_here", "_law_made"] (defScope (top 70)) := ⟨rfl, rfl, rfl, by decide +kernel, rfl, by decide +kernel, by decide +kernel⟩
def rd__law_refusals (g : Wd) (j : Nat) (E : XK) : TS :=
  tSeq (tAsg (tOp (cIx g.K) (cV 3) (tC (.int 0))) (gName 5))
  (tSeq (tAsg (tOp (cIx g.K) (cV 3) (tC (.int 1))) (gName 6))
  (tSeq (tAsg (tLst (tCons (tC (.str "0")) (tCons (tC (.str "01")) (tCons (tC (.str "1 ")) (tCons (tC (.str " 1")) (tCons (tC (.str "12")) (tCons (tC (.str "a")) (tCons (tC (.str "1\n")) (tCons (tOp (cAdd g.K noOw) (tC (.str "0")) (cV 5)) (tCons (tOp (cAdd g.K noOw) (cV 5) (tC (.str "2"))) (tCons (tOp (cAdd g.K noOw) (cV 5) (tC (.str " "))) (tCons (tOp (cAdd g.K noOw) (tC (.str "-")) (cV 5)) (tCons (tC (.str "1 1")) (tCons (tC (.str "1a1")) (tCons (tC (.str "102011")) (tNil)))))))))))))))) (gName 7))
  (tSeq (tAsg (tOp (cIx g.K) (cV 7) (cCall g j (fun cls d _ H => E cls d H) (gad g.K "_law_take") (tCons (cV 0) (tCons (cV 1) (tCons (tCB (cLen g j) (tCons (cV 7) (tNil))) (tNil)))))) (gName 7))
  (tSeq (tAsg (tOp cSub (tC (.int 0)) (cCall g j (fun cls d _ H => E cls d H) (gad g.K "_law_take") (tCons (cV 0) (tCons (cV 1) (tCons (tOp (cIx g.K) (tLst (tCons (tC (.int 3)) (tCons (tOp cPow (tC (.int 10)) (tC (.int 30))) (tNil)))) (cCall g j (fun cls d _ H => E cls d H) (gad g.K "_law_take") (tCons (cV 0) (tCons (cV 1) (tCons (tC (.int 2)) (tNil)))))) (tNil)))))) (gName 8))
  (tSeq (tAsg (tOp cSub (tUn cNeg (tC (.int 1))) (cCall g j (fun cls d _ H => E cls d H) (gad g.K "_law_take") (tCons (cV 0) (tCons (cV 1) (tCons (tOp (cIx g.K) (tLst (tCons (tC (.int 3)) (tCons (tOp cPow (tC (.int 10)) (tC (.int 30))) (tNil)))) (cCall g j (fun cls d _ H => E cls d H) (gad g.K "_law_take") (tCons (cV 0) (tCons (cV 1) (tCons (tC (.int 2)) (tNil)))))) (tNil)))))) (gName 9))
  (tSeq (tAsg (tC (.str "11")) (gName 10))
  (tSeq (tIfS (cTest (tOp cGt (tCB (cLen g j) (tCons (cV 5) (tNil))) (tC (.int 1)))) (tAsg (cV 5) (gName 10)) (tNext))
  (tSeq (tAsg (tOp (cAdd g.K noOw) (tC (.int 1)) (cCall g j (fun cls d _ H => E cls d H) (gad g.K "_law_take") (tCons (cV 0) (tCons (cV 1) (tCons (tOp cSub (tCB (cLen g j) (tCons (cV 10) (tNil))) (tC (.int 1))) (tNil)))))) (gName 11))
  (tSeq (tIfS (tNot (cTru g.K (cCall g j (fun cls d _ H => E cls d H) (gad g.K "_law_refused") (tCons (cV 2) (tCons (cV 7) (tCons (cV 8) (tCons (cV 4) (tCons (cV 9) (tCons (tC (.str "word")) (tNil)))))))))) (tRet (tC (.bl false))) (tNext))
  (tSeq (tIfS (tNot (cTru g.K (cCall g j (fun cls d _ H => E cls d H) (gad g.K "_law_refused") (tCons (cV 2) (tCons (cV 7) (tCons (tC (.int 64)) (tCons (cV 4) (tCons (tOp (cIx g.K) (cV 3) (tC (.int 2))) (tCons (tC (.str "word")) (tNil)))))))))) (tRet (tC (.bl false))) (tNext))
  (tSeq (tIfS (tNot (cTru g.K (cCall g j (fun cls d _ H => E cls d H) (gad g.K "_law_refused") (tCons (cV 2) (tCons (cV 5) (tCons (cV 8) (tCons (cV 4) (tCons (cV 9) (tCons (tC (.str "places")) (tNil)))))))))) (tRet (tC (.bl false))) (tNext))
  (tSeq (tIfS (tNot (cTru g.K (cCall g j (fun cls d _ H => E cls d H) (gad g.K "_law_refused") (tCons (cV 2) (tCons (cV 5) (tCons (cV 8) (tCons (cV 4) (tCons (tOp (cIx g.K) (cV 3) (tC (.int 2))) (tCons (tC (.str "places")) (tNil)))))))))) (tRet (tC (.bl false))) (tNext))
  (tSeq (tIfS (tNot (cTru g.K (cCall g j (fun cls d _ H => E cls d H) (gad g.K "_law_refused") (tCons (cV 2) (tCons (cV 10) (tCons (cV 11) (tCons (cV 4) (tCons (cV 9) (tCons (tC (.str "phase")) (tNil)))))))))) (tRet (tC (.bl false))) (tNext))
  (tSeq (tIfS (tNot (cTru g.K (cCall g j (fun cls d _ H => E cls d H) (gad g.K "_law_refused") (tCons (cV 2) (tCons (cV 10) (tCons (cV 11) (tCons (cV 4) (tCons (tOp (cIx g.K) (cV 3) (tC (.int 2))) (tCons (tC (.str "places")) (tNil)))))))))) (tRet (tC (.bl false))) (tNext))
  (tRet (cCall g j (fun cls d _ H => E cls d H) (gad g.K "_law_refused") (tCons (cV 2) (tCons (cV 5) (tCons (cV 6) (tCons (cV 4) (tCons (cV 9) (tCons (tC (.str "phase")) (tNil)))))))))))))))))))))))
theorem dv__law_refusals {g : Wd} (T : Top g) {j : Nat} {f : Addr} {cdv : Value} {A : Around} {outer : List Env} {s : Shared} {H : Hp} {E : XK} (hr : Room (j + 1) (A.deeper (envOfC "_law_refusals" (defScope (top 70)) s.heap.objs.size f cdv))) :
    PSs (cxOf (L2.CX g.P g.w) g.P g.w g.K g.mg g.base ["_law_script", "_law_box_here", "_law_keeper", "_law_stand_here", "_law_made", "_law_word_here", "_law_wide", "_law_odd", "_law_none", "_law_low", "_law_long", "_law_short"] "_law_refusals" (defScope (top 70)) f cdv A outer s H E) (defBody (top 70)) (rd__law_refusals g j E) := by
  unfold rd__law_refusals
  exact (pss_cons (ps_set (i := 5) sc__law_refusals.nd rfl (Or.inl rfl) (pe_ix ix_c (cv 3) pe_int (fun _ _ => rfl)))
  (pss_cons (ps_set (i := 6) sc__law_refusals.nd rfl (Or.inl rfl) (pe_ix ix_c (cv 3) pe_int (fun _ _ => rfl)))
  (pss_cons (ps_set (i := 7) sc__law_refusals.nd rfl (Or.inl rfl) (pe_lst (pa_cons pe_str (pa_cons pe_str (pa_cons pe_str (pa_cons pe_str (pa_cons pe_str (pa_cons pe_str (pa_cons pe_str (pa_cons (pe_op (op_cAdd noOw_ok) pe_str (cv 5)) (pa_cons (pe_op (op_cAdd noOw_ok) (cv 5) pe_str) (pa_cons (pe_op (op_cAdd noOw_ok) (cv 5) pe_str) (pa_cons (pe_op (op_cAdd noOw_ok) pe_str (cv 5)) (pa_cons pe_str (pa_cons pe_str (pa_cons pe_str pa_nil))))))))))))))))
  (pss_cons (ps_set (i := 7) sc__law_refusals.nd rfl (Or.inl rfl) (pe_ix ix_c (cv 7) (pe_cCall (takes_of rfl rfl rfl rfl) (hr.mono (Nat.le_succ _)) (gf__law_take T) (by rfl) (pa_cons (cv 0) (pa_cons (cv 1) (pa_cons (pe_callB (call_cLen hr) (by rfl) (bl_len T) bt_len (pa_cons (cv 7) pa_nil)) pa_nil)))) (fun _ _ => rfl)))
  (pss_cons (ps_set (i := 8) sc__law_refusals.nd rfl (Or.inl rfl) (pe_op op_cSub pe_int (pe_cCall (takes_of rfl rfl rfl rfl) (hr.mono (Nat.le_succ _)) (gf__law_take T) (by rfl) (pa_cons (cv 0) (pa_cons (cv 1) (pa_cons (pe_ix ix_c (pe_lst (pa_cons pe_int (pa_cons (pe_op op_cPow pe_int pe_int) pa_nil))) (pe_cCall (takes_of rfl rfl rfl rfl) (hr.mono (Nat.le_succ _)) (gf__law_take T) (by rfl) (pa_cons (cv 0) (pa_cons (cv 1) (pa_cons pe_int pa_nil)))) (fun _ _ => rfl)) pa_nil))))))
  (pss_cons (ps_set (i := 9) sc__law_refusals.nd rfl (Or.inl rfl) (pe_op op_cSub (pe_un un_cNeg pe_int) (pe_cCall (takes_of rfl rfl rfl rfl) (hr.mono (Nat.le_succ _)) (gf__law_take T) (by rfl) (pa_cons (cv 0) (pa_cons (cv 1) (pa_cons (pe_ix ix_c (pe_lst (pa_cons pe_int (pa_cons (pe_op op_cPow pe_int pe_int) pa_nil))) (pe_cCall (takes_of rfl rfl rfl rfl) (hr.mono (Nat.le_succ _)) (gf__law_take T) (by rfl) (pa_cons (cv 0) (pa_cons (cv 1) (pa_cons pe_int pa_nil)))) (fun _ _ => rfl)) pa_nil))))))
  (pss_cons (ps_set (i := 10) sc__law_refusals.nd rfl (Or.inl rfl) pe_str)
  (pss_cons (ps_if (ptc op_cGt (pe_callB (call_cLen hr) (by rfl) (bl_len T) bt_len (pa_cons (cv 5) pa_nil)) pe_int (nomark _)) (pss_one (ps_set (i := 10) sc__law_refusals.nd rfl (Or.inl rfl) (cv 5))) pss_nil)
  (pss_cons (ps_set (i := 11) sc__law_refusals.nd rfl (Or.inl rfl) (pe_op (op_cAdd noOw_ok) pe_int (pe_cCall (takes_of rfl rfl rfl rfl) (hr.mono (Nat.le_succ _)) (gf__law_take T) (by rfl) (pa_cons (cv 0) (pa_cons (cv 1) (pa_cons (pe_op op_cSub (pe_callB (call_cLen hr) (by rfl) (bl_len T) bt_len (pa_cons (cv 10) pa_nil)) pe_int) pa_nil))))))
  (pss_cons (ps_if (pt_not (ptv (pe_cCall (takes_of rfl rfl rfl rfl) (hr.mono (Nat.le_succ _)) (gf__law_refused T) (by rfl) (pa_cons (cv 2) (pa_cons (cv 7) (pa_cons (cv 8) (pa_cons (cv 4) (pa_cons (cv 9) (pa_cons pe_str pa_nil))))))))) (pss_one (ps_ret pe_bl)) pss_nil)
  (pss_cons (ps_if (pt_not (ptv (pe_cCall (takes_of rfl rfl rfl rfl) (hr.mono (Nat.le_succ _)) (gf__law_refused T) (by rfl) (pa_cons (cv 2) (pa_cons (cv 7) (pa_cons pe_int (pa_cons (cv 4) (pa_cons (pe_ix ix_c (cv 3) pe_int (fun _ _ => rfl)) (pa_cons pe_str pa_nil))))))))) (pss_one (ps_ret pe_bl)) pss_nil)
  (pss_cons (ps_if (pt_not (ptv (pe_cCall (takes_of rfl rfl rfl rfl) (hr.mono (Nat.le_succ _)) (gf__law_refused T) (by rfl) (pa_cons (cv 2) (pa_cons (cv 5) (pa_cons (cv 8) (pa_cons (cv 4) (pa_cons (cv 9) (pa_cons pe_str pa_nil))))))))) (pss_one (ps_ret pe_bl)) pss_nil)
  (pss_cons (ps_if (pt_not (ptv (pe_cCall (takes_of rfl rfl rfl rfl) (hr.mono (Nat.le_succ _)) (gf__law_refused T) (by rfl) (pa_cons (cv 2) (pa_cons (cv 5) (pa_cons (cv 8) (pa_cons (cv 4) (pa_cons (pe_ix ix_c (cv 3) pe_int (fun _ _ => rfl)) (pa_cons pe_str pa_nil))))))))) (pss_one (ps_ret pe_bl)) pss_nil)
  (pss_cons (ps_if (pt_not (ptv (pe_cCall (takes_of rfl rfl rfl rfl) (hr.mono (Nat.le_succ _)) (gf__law_refused T) (by rfl) (pa_cons (cv 2) (pa_cons (cv 10) (pa_cons (cv 11) (pa_cons (cv 4) (pa_cons (cv 9) (pa_cons pe_str pa_nil))))))))) (pss_one (ps_ret pe_bl)) pss_nil)
  (pss_cons (ps_if (pt_not (ptv (pe_cCall (takes_of rfl rfl rfl rfl) (hr.mono (Nat.le_succ _)) (gf__law_refused T) (by rfl) (pa_cons (cv 2) (pa_cons (cv 10) (pa_cons (cv 11) (pa_cons (cv 4) (pa_cons (pe_ix ix_c (cv 3) pe_int (fun _ _ => rfl)) (pa_cons pe_str pa_nil))))))))) (pss_one (ps_ret pe_bl)) pss_nil)
  (pss_one (ps_ret (pe_cCall (takes_of rfl rfl rfl rfl) (hr.mono (Nat.le_succ _)) (gf__law_refused T) (by rfl) (pa_cons (cv 2) (pa_cons (cv 5) (pa_cons (cv 6) (pa_cons (cv 4) (pa_cons (cv 9) (pa_cons pe_str pa_nil))))))))))))))))))))))))
theorem ok__law_refusals {g : Wd} (T : Top g) {fd : FuncData} (F : FunD g.K "_law_refusals" "_law_refusals" (defArgs (top 70)) (defBody (top 70)) (defScope (top 70)) [] [] (gad g.K "_law_refusals") fd) {j : Nat} {sp : Sp} (h : ∀ vs H Q E, sp vs H Q E → vs.length = 5 ∧ rd__law_refusals g j E { nx := fun _ H1 => Q .non H1, rt := Q } (L2.start ["_law_script", "_law_box_here", "_law_keeper", "_law_stand_here", "_law_made", "_law_word_here", "_law_wide", "_law_odd", "_law_none", "_law_low", "_law_long", "_law_short"] vs) H) : FnOk g.P g.w g.K g.mg g.base (L2.CX g.P g.w) (j + 2) (gad g.K "_law_refusals") fd ["_law_script", "_law_box_here", "_law_keeper", "_law_stand_here", "_law_made"] sp :=
  FunD.ok F sc__law_refusals (fun vs H Q E hh => (h vs H Q E hh).1) fun cdv A outer s H vs Q E hr hh => ⟨rd__law_refusals g j E, dv__law_refusals T hr, (h vs H Q E hh).2⟩
theorem fk__law_refusals {g : Wd} (T : Top g) (j : Nat) {sp : Sp} (h : ∀ vs H Q E, sp vs H Q E → vs.length = 5 ∧ rd__law_refusals g j E { nx := fun _ H1 => Q .non H1, rt := Q } (L2.start ["_law_script", "_law_box_here", "_law_keeper", "_law_stand_here", "_law_made", "_law_word_here", "_law_wide", "_law_odd", "_law_none", "_law_low", "_law_long", "_law_short"] vs) H) : FnG g (j + 2) (gad g.K "_law_refusals") sp := by
  obtain ⟨fd, F⟩ := fd__law_refusals T
  exact fnG_of (ok__law_refusals T F h) (FunD.bindsN F fun _ _ _ _ _ _ us hl => match us, hl with | [_, _, _, _, _], _ => rfl)
theorem sc__law_all_refuse : FnScope ["_law_script", "_law_box_here", "_law_marks_here", "_law_stands", "_law_pays_here", "_law_made", "_law_greedy", "_law_ruled", "_law_lazy", "_law_keeper"] ["_law_script", "_law_box_here", "_law_marks_here", "_law_stands", "_law_pays_here", "_law_made"] (defScope (top 71)) := ⟨rfl, rfl, rfl, by decide +kernel, rfl, by decide +kernel, by decide +kernel⟩
def rd__law_all_refuse (g : Wd) (j : Nat) (E : XK) : TS :=
  tSeq (tAsg (cNew0 g j (fun cls d _ H => E cls d H) (gad g.K "Greedy")) (gName 6))
  (tSeq (tAsg (cMake g j (fun cls d _ H => E cls d H) (gad g.K "RuleKeeper") (tCons (tC (.str "else carry all")) (tNil))) (gName 7))
  (tSeq (tAsg (cMake g j (fun cls d _ H => E cls d H) (gad g.K "Lazy") (tCons (tOp (cIx g.K) (cV 2) (tC (.int 0))) (tNil))) (gName 8))
  (tSeq (tIfS (cTest (tOp (cEqN g.K true) (cMeth g j (fun cls d _ H => E cls d H) "label" (cV 7) tNil) (tC (.str "rule 1")))) (tRet (tC (.bl false))) (tNext))
  (tSeq (tFor (iSeq g.K (tLst (tCons (cNew0 g j (fun cls d _ H => E cls d H) (gad g.K "Keeper")) (tCons (cV 6) (tCons (cV 8) (tCons (cMake g j (fun cls d _ H => E cls d H) (gad g.K "Thrifty") (tCons (tC (.int 2)) (tNil))) (tCons (cV 7) (tNil)))))))) (gName 9) (tIfS (tOr (tNot (cTru g.K (tCB (cIsi g.K) (tCons (cV 9) (tCons (cGv g "Keeper") (tNil)))))) (tNot (cTru g.K (cCall g j (fun cls d _ H => E cls d H) (gad g.K "_law_refusals") (tCons (cV 0) (tCons (cV 1) (tCons (cV 9) (tCons (tOp (cIx g.K) (cV 3) (tC (.int 0))) (tCons (cV 5) (tNil)))))))))) (tRet (tC (.bl false))) (tNext)))
  (tSeq (tIfS (tNot (cTru g.K (cCall g j (fun cls d _ H => E cls d H) (gad g.K "_law_looks") (tCons (cV 6) (tCons (tLst (tCons (tC (.str "greedy")) (tCons (tC (.int 0)) (tNil)))) (tCons (cV 3) (tCons (cV 4) (tCons (cV 5) (tNil))))))))) (tRet (tC (.bl false))) (tNext))
  (tRet (cCall g j (fun cls d _ H => E cls d H) (gad g.K "_law_looks") (tCons (cV 8) (tCons (tLst (tCons (tC (.str "lazy")) (tCons (tOp (cIx g.K) (cV 2) (tC (.int 0))) (tNil)))) (tCons (cV 3) (tCons (cV 4) (tCons (cV 5) (tNil)))))))))))))
theorem dv__law_all_refuse {g : Wd} (T : Top g) {j : Nat} {f : Addr} {cdv : Value} {A : Around} {outer : List Env} {s : Shared} {H : Hp} {E : XK} (hr : Room (j + 1) (A.deeper (envOfC "_law_all_refuse" (defScope (top 71)) s.heap.objs.size f cdv))) :
    PSs (cxOf (L2.CX g.P g.w) g.P g.w g.K g.mg g.base ["_law_script", "_law_box_here", "_law_marks_here", "_law_stands", "_law_pays_here", "_law_made", "_law_greedy", "_law_ruled", "_law_lazy", "_law_keeper"] "_law_all_refuse" (defScope (top 71)) f cdv A outer s H E) (defBody (top 71)) (rd__law_all_refuse g j E) := by
  unfold rd__law_all_refuse
  exact (pss_cons (ps_set (i := 6) sc__law_all_refuse.nd rfl (Or.inl rfl) (pe_cNew0 (takes_of rfl rfl rfl rfl) (hr.mono (Nat.le_succ _)) (gf_Greedy T) (by rfl)))
  (pss_cons (ps_set (i := 7) sc__law_all_refuse.nd rfl (Or.inl rfl) (pe_cMake (takes_of rfl rfl rfl rfl) (hr.mono (Nat.le_succ _)) (gf_RuleKeeper T) (by rfl) (pa_cons pe_str pa_nil)))
  (pss_cons (ps_set (i := 8) sc__law_all_refuse.nd rfl (Or.inl rfl) (pe_cMake (takes_of rfl rfl rfl rfl) (hr.mono (Nat.le_succ _)) (gf_Lazy T) (by rfl) (pa_cons (pe_ix ix_c (cv 2) pe_int (fun _ _ => rfl)) pa_nil)))
  (pss_cons (ps_if (ptc (op_cNe hr.units) (pe_cMeth0 (takes_of rfl rfl rfl rfl) (hr.mono (Nat.le_succ _)) (cv 7)) pe_str (nomark _)) (pss_one (ps_ret pe_bl)) pss_nil)
  (pss_cons (ps_for (passes_of rfl) rfl (pi_seq (pe_lst (pa_cons (pe_cNew0 (takes_of rfl rfl rfl rfl) (hr.mono (Nat.le_succ _)) (gf_Keeper T) (by rfl)) (pa_cons (cv 6) (pa_cons (cv 8) (pa_cons (pe_cMake (takes_of rfl rfl rfl rfl) (hr.mono (Nat.le_succ _)) (gf_Thrifty T) (by rfl) (pa_cons pe_int pa_nil)) (pa_cons (cv 7) pa_nil))))))) (pg_name sc__law_all_refuse.nd rfl (Or.inl rfl)) (pss_one (ps_if (pw_or (pt_not (ptv (pe_callB (call_cIsi) (by rfl) (bl_isinstance T) bt_isinstance (pa_cons (cv 9) (pa_cons (pe_cGv (by rfl)) pa_nil))))) (pw_or1 (pt_not (ptv (pe_cCall (takes_of rfl rfl rfl rfl) (hr.mono (Nat.le_succ _)) (gf__law_refusals T) (by rfl) (pa_cons (cv 0) (pa_cons (cv 1) (pa_cons (cv 9) (pa_cons (pe_ix ix_c (cv 3) pe_int (fun _ _ => rfl)) (pa_cons (cv 5) pa_nil)))))))))).pt (pss_one (ps_ret pe_bl)) pss_nil)))
  (pss_cons (ps_if (pt_not (ptv (pe_cCall (takes_of rfl rfl rfl rfl) (hr.mono (Nat.le_succ _)) (gf__law_looks T) (by rfl) (pa_cons (cv 6) (pa_cons (pe_lst (pa_cons pe_str (pa_cons pe_int pa_nil))) (pa_cons (cv 3) (pa_cons (cv 4) (pa_cons (cv 5) pa_nil)))))))) (pss_one (ps_ret pe_bl)) pss_nil)
  (pss_one (ps_ret (pe_cCall (takes_of rfl rfl rfl rfl) (hr.mono (Nat.le_succ _)) (gf__law_looks T) (by rfl) (pa_cons (cv 8) (pa_cons (pe_lst (pa_cons pe_str (pa_cons (pe_ix ix_c (cv 2) pe_int (fun _ _ => rfl)) pa_nil))) (pa_cons (cv 3) (pa_cons (cv 4) (pa_cons (cv 5) pa_nil))))))))))))))
theorem ok__law_all_refuse {g : Wd} (T : Top g) {fd : FuncData} (F : FunD g.K "_law_all_refuse" "_law_all_refuse" (defArgs (top 71)) (defBody (top 71)) (defScope (top 71)) [] [] (gad g.K "_law_all_refuse") fd) {j : Nat} {sp : Sp} (h : ∀ vs H Q E, sp vs H Q E → vs.length = 6 ∧ rd__law_all_refuse g j E { nx := fun _ H1 => Q .non H1, rt := Q } (L2.start ["_law_script", "_law_box_here", "_law_marks_here", "_law_stands", "_law_pays_here", "_law_made", "_law_greedy", "_law_ruled", "_law_lazy", "_law_keeper"] vs) H) : FnOk g.P g.w g.K g.mg g.base (L2.CX g.P g.w) (j + 2) (gad g.K "_law_all_refuse") fd ["_law_script", "_law_box_here", "_law_marks_here", "_law_stands", "_law_pays_here", "_law_made"] sp :=
  FunD.ok F sc__law_all_refuse (fun vs H Q E hh => (h vs H Q E hh).1) fun cdv A outer s H vs Q E hr hh => ⟨rd__law_all_refuse g j E, dv__law_all_refuse T hr, (h vs H Q E hh).2⟩
theorem fk__law_all_refuse {g : Wd} (T : Top g) (j : Nat) {sp : Sp} (h : ∀ vs H Q E, sp vs H Q E → vs.length = 6 ∧ rd__law_all_refuse g j E { nx := fun _ H1 => Q .non H1, rt := Q } (L2.start ["_law_script", "_law_box_here", "_law_marks_here", "_law_stands", "_law_pays_here", "_law_made", "_law_greedy", "_law_ruled", "_law_lazy", "_law_keeper"] vs) H) : FnG g (j + 2) (gad g.K "_law_all_refuse") sp := by
  obtain ⟨fd, F⟩ := fd__law_all_refuse T
  exact fnG_of (ok__law_all_refuse T F h) (FunD.bindsN F fun _ _ _ _ _ _ us hl => match us, hl with | [_, _, _, _, _, _], _ => rfl)
theorem sc_law : FnScope ["_law_script", "_law_box_here", "_law_pays_here", "_law_made", "_law_stands", "_law_marks_here", "_law_stand_here"] ["_law_script"] (defScope (top 72)) := ⟨rfl, rfl, rfl, by decide +kernel, rfl, by decide +kernel, by decide +kernel⟩
def rd_law (g : Wd) (j : Nat) (E : XK) : TS :=
  tSeq (tAsg (cCall g j (fun cls d _ H => E cls d H) (gad g.K "_law_box") (tCons (cV 0) (tCons (tC (.int 0)) (tNil)))) (gName 1))
  (tSeq (tAsg (cCall g j (fun cls d _ H => E cls d H) (gad g.K "_law_pays") (tCons (cV 0) (tCons (cCall g j (fun cls d _ H => E cls d H) (gad g.K "_law_box") (tCons (cV 0) (tCons (tC (.int 1)) (tNil)))) (tNil)))) (gName 2))
  (tSeq (tAsg (cCall g j (fun cls d _ H => E cls d H) (gad g.K "_law_round") (tCons (cV 2) (tNil))) (gName 3))
  (tSeq (tAsg (tLst (tCons (cCall g j (fun cls d _ H => E cls d H) (gad g.K "_law_stand") (tCons (cV 0) (tCons (cV 1) (tNil)))) (tNil))) (gName 4))
  (tSeq (tDrop (cApp g.K (cV 4) (tCons (cCall g j (fun cls d _ H => E cls d H) (gad g.K "_law_stand") (tCons (cV 0) (tCons (cV 1) (tNil)))) (tNil))))
  (tSeq (tAsg (cCall g j (fun cls d _ H => E cls d H) (gad g.K "_law_marks") (tCons (cV 0) (tCons (cCall g j (fun cls d _ H => E cls d H) (gad g.K "_law_box") (tCons (cV 0) (tCons (tC (.int 2)) (tNil)))) (tCons (cV 4) (tNil))))) (gName 5))
  (tSeq (tIfS (tNot (cTru g.K (cCall g j (fun cls d _ H => E cls d H) (gad g.K "_law_family") (tCons (cV 5) (tCons (cV 4) (tCons (cV 2) (tCons (cV 3) (tNil)))))))) (tRet (tC (.bl false))) (tNext))
  (tSeq (tAsg (cCall g j (fun cls d _ H => E cls d H) (gad g.K "_law_box") (tCons (cV 0) (tCons (tC (.int 3)) (tNil)))) (gName 1))
  (tSeq (tIfS (tNot (cTru g.K (cCall g j (fun cls d _ H => E cls d H) (gad g.K "_law_bad_numbers") (tCons (cV 0) (tCons (cV 1) (tCons (cV 5) (tCons (cV 4) (tCons (cV 2) (tCons (cV 3) (tNil)))))))))) (tRet (tC (.bl false))) (tNext))
  (tSeq (tFor (iSeq g.K (cV 4)) (gName 6) (tIfS (tNot (cTru g.K (cCall g j (fun cls d _ H => E cls d H) (gad g.K "_law_thrifty") (tCons (cV 0) (tCons (cV 1) (tCons (cV 6) (tCons (cV 2) (tCons (cV 3) (tNil))))))))) (tRet (tC (.bl false))) (tNext)))
  (tSeq (tAsg (cCall g j (fun cls d _ H => E cls d H) (gad g.K "_law_box") (tCons (cV 0) (tCons (tC (.int 4)) (tNil)))) (gName 1))
  (tRet (cAndV (cCall g j (fun cls d _ H => E cls d H) (gad g.K "_law_all_refuse") (tCons (cV 0) (tCons (cV 1) (tCons (cV 5) (tCons (cV 4) (tCons (cV 2) (tCons (cV 3) (tNil)))))))) (tOp (cEqN g.K false) (cProp g j (cV 3) "budgets") (cV 2))))))))))))))
theorem dv_law {g : Wd} (T : Top g) {j : Nat} {f : Addr} {cdv : Value} {A : Around} {outer : List Env} {s : Shared} {H : Hp} {E : XK} (hr : Room (j + 1) (A.deeper (envOfC "law" (defScope (top 72)) s.heap.objs.size f cdv))) :
    PSs (cxOf (L2.CX g.P g.w) g.P g.w g.K g.mg g.base ["_law_script", "_law_box_here", "_law_pays_here", "_law_made", "_law_stands", "_law_marks_here", "_law_stand_here"] "law" (defScope (top 72)) f cdv A outer s H E) (defBody (top 72)) (rd_law g j E) := by
  unfold rd_law
  exact (pss_cons (ps_set (i := 1) sc_law.nd rfl (Or.inl rfl) (pe_cCall (takes_of rfl rfl rfl rfl) (hr.mono (Nat.le_succ _)) (gf__law_box T) (by rfl) (pa_cons (cv 0) (pa_cons pe_int pa_nil))))
  (pss_cons (ps_set (i := 2) sc_law.nd rfl (Or.inl rfl) (pe_cCall (takes_of rfl rfl rfl rfl) (hr.mono (Nat.le_succ _)) (gf__law_pays T) (by rfl) (pa_cons (cv 0) (pa_cons (pe_cCall (takes_of rfl rfl rfl rfl) (hr.mono (Nat.le_succ _)) (gf__law_box T) (by rfl) (pa_cons (cv 0) (pa_cons pe_int pa_nil))) pa_nil))))
  (pss_cons (ps_set (i := 3) sc_law.nd rfl (Or.inl rfl) (pe_cCall (takes_of rfl rfl rfl rfl) (hr.mono (Nat.le_succ _)) (gf__law_round T) (by rfl) (pa_cons (cv 2) pa_nil)))
  (pss_cons (ps_set (i := 4) sc_law.nd rfl (Or.inl rfl) (pe_lst (pa_cons (pe_cCall (takes_of rfl rfl rfl rfl) (hr.mono (Nat.le_succ _)) (gf__law_stand T) (by rfl) (pa_cons (cv 0) (pa_cons (cv 1) pa_nil))) pa_nil)))
  (pss_cons (ps_expr (pe_cApp (cv 4) (pa_cons (pe_cCall (takes_of rfl rfl rfl rfl) (hr.mono (Nat.le_succ _)) (gf__law_stand T) (by rfl) (pa_cons (cv 0) (pa_cons (cv 1) pa_nil))) pa_nil)))
  (pss_cons (ps_set (i := 5) sc_law.nd rfl (Or.inl rfl) (pe_cCall (takes_of rfl rfl rfl rfl) (hr.mono (Nat.le_succ _)) (gf__law_marks T) (by rfl) (pa_cons (cv 0) (pa_cons (pe_cCall (takes_of rfl rfl rfl rfl) (hr.mono (Nat.le_succ _)) (gf__law_box T) (by rfl) (pa_cons (cv 0) (pa_cons pe_int pa_nil))) (pa_cons (cv 4) pa_nil)))))
  (pss_cons (ps_if (pt_not (ptv (pe_cCall (takes_of rfl rfl rfl rfl) (hr.mono (Nat.le_succ _)) (gf__law_family T) (by rfl) (pa_cons (cv 5) (pa_cons (cv 4) (pa_cons (cv 2) (pa_cons (cv 3) pa_nil))))))) (pss_one (ps_ret pe_bl)) pss_nil)
  (pss_cons (ps_set (i := 1) sc_law.nd rfl (Or.inl rfl) (pe_cCall (takes_of rfl rfl rfl rfl) (hr.mono (Nat.le_succ _)) (gf__law_box T) (by rfl) (pa_cons (cv 0) (pa_cons pe_int pa_nil))))
  (pss_cons (ps_if (pt_not (ptv (pe_cCall (takes_of rfl rfl rfl rfl) (hr.mono (Nat.le_succ _)) (gf__law_bad_numbers T) (by rfl) (pa_cons (cv 0) (pa_cons (cv 1) (pa_cons (cv 5) (pa_cons (cv 4) (pa_cons (cv 2) (pa_cons (cv 3) pa_nil))))))))) (pss_one (ps_ret pe_bl)) pss_nil)
  (pss_cons (ps_for (passes_of rfl) rfl (pi_seq (cv 4)) (pg_name sc_law.nd rfl (Or.inl rfl)) (pss_one (ps_if (pt_not (ptv (pe_cCall (takes_of rfl rfl rfl rfl) (hr.mono (Nat.le_succ _)) (gf__law_thrifty T) (by rfl) (pa_cons (cv 0) (pa_cons (cv 1) (pa_cons (cv 6) (pa_cons (cv 2) (pa_cons (cv 3) pa_nil)))))))) (pss_one (ps_ret pe_bl)) pss_nil)))
  (pss_cons (ps_set (i := 1) sc_law.nd rfl (Or.inl rfl) (pe_cCall (takes_of rfl rfl rfl rfl) (hr.mono (Nat.le_succ _)) (gf__law_box T) (by rfl) (pa_cons (cv 0) (pa_cons pe_int pa_nil))))
  (pss_one (ps_ret (pe_cAnd (pe_cCall (takes_of rfl rfl rfl rfl) (hr.mono (Nat.le_succ _)) (gf__law_all_refuse T) (by rfl) (pa_cons (cv 0) (pa_cons (cv 1) (pa_cons (cv 5) (pa_cons (cv 4) (pa_cons (cv 2) (pa_cons (cv 3) pa_nil))))))) (pe_one (pe_cmpR (op_cEq hr.units) (pe_cProp hr (cv 3)) (cv 2) (nomark _)))))))))))))))))
theorem ok_law {g : Wd} (T : Top g) {fd : FuncData} (F : FunD g.K "law" "law" (defArgs (top 72)) (defBody (top 72)) (defScope (top 72)) [] [] (gad g.K "law") fd) {j : Nat} {sp : Sp} (h : ∀ vs H Q E, sp vs H Q E → vs.length = 1 ∧ rd_law g j E { nx := fun _ H1 => Q .non H1, rt := Q } (L2.start ["_law_script", "_law_box_here", "_law_pays_here", "_law_made", "_law_stands", "_law_marks_here", "_law_stand_here"] vs) H) : FnOk g.P g.w g.K g.mg g.base (L2.CX g.P g.w) (j + 2) (gad g.K "law") fd ["_law_script"] sp :=
  FunD.ok F sc_law (fun vs H Q E hh => (h vs H Q E hh).1) fun cdv A outer s H vs Q E hr hh => ⟨rd_law g j E, dv_law T hr, (h vs H Q E hh).2⟩
theorem fk_law {g : Wd} (T : Top g) (j : Nat) {sp : Sp} (h : ∀ vs H Q E, sp vs H Q E → vs.length = 1 ∧ rd_law g j E { nx := fun _ H1 => Q .non H1, rt := Q } (L2.start ["_law_script", "_law_box_here", "_law_pays_here", "_law_made", "_law_stands", "_law_marks_here", "_law_stand_here"] vs) H) : FnG g (j + 2) (gad g.K "law") sp := by
  obtain ⟨fd, F⟩ := fd_law T
  exact fnG_of (ok_law T F h) (FunD.bindsN F fun _ _ _ _ _ _ us hl => match us, hl with | [_], _ => rfl)
end
end Lw
namespace Lw
open PySem PySem.Spec PyProof.Rows L2 Cy
abbrev ii : Str := "InvalidInput"
/-- what an exception's field is -/
def okF (v : V) : Prop := ∃ z : Str, v = .str z ∧ z.length ≤ 100
theorem len_app (a b : Str) : (a ++ b).length = a.length + b.length := by
  first
  | exact Str.length_append a b
  | simp [Str.length]
theorem fn_ii {g : Wd} (T : Top g) : FnG g 1 (mad g.K (gad g.K "InvalidInput") "__init__") (spSup (gad g.K "InvalidInput") "field" okF) := by
  obtain ⟨cc, cdv, S⟩ := su_InvalidInput T
  refine sup_fn (k := 0) (tj := cJoin [tC (.str "invalid value of "), cFmt (cV 1)]) S (ox_InvalidInput T) (na_InvalidInput_field T) ⟨by decide, by decide, by decide⟩ (fun _ _ _ _ _ _ _ _ _ _ => rfl) (fun _ => rfl) (fun L => ⟨_, rfl⟩) (fun L => rfl) (fun L => rfl) (by decide) (by decide)
    (fun A outer s H E => pe_cJoin (.cons pe_str (.cons (pe_cFmt (cv 1)) .nil))) ?_
  intro a v H Q ho k
  obtain ⟨z, rfl, hz⟩ := ho
  refine ⟨by decide +kernel, ⟨by rw [sizeLine_eq]; omega, ?_, k _⟩⟩
  rw [len_app, sizeLine_eq]
  have e : (Str.empty ++ ("invalid value of " : Str)).length = 17 := by decide +kernel
  omega

def Gr (H H' : Hp) : Prop := ∀ a o, H a = some o → H' a = some o
theorem Gr.refl {H : Hp} : Gr H H := fun _ _ h => h
theorem Gr.trans {H H1 H2 : Hp} (a : Gr H H1) (b : Gr H1 H2) : Gr H H2 := fun x o h => b x o (a x o h)
theorem Gr.new {H : Hp} {p : Addr} {o : HO} (h : H p = none) : Gr H (upd H p o) := fun a u e => by rw [upd_ne (ne_of_none e h)]; exact e
/-- InvalidInput(z) is let out -/
def Inp (g : Wd) (E : XK) (H : Hp) (z : Str) : Prop := ∀ H1 d, Gr H H1 → H1 d = some (.xd [("field", .str z)]) → E (.ref (gad g.K "InvalidInput")) (some d) H1
theorem Inp.gr {g : Wd} {E : XK} {H H1 : Hp} {z : Str} (h : Inp g E H z) (k : Gr H H1) : Inp g E H1 z := fun H2 d a b => h H2 d (k.trans a) b
def Ans (g : Wd) (o : Option Str) (H : Hp) (ok : Prop) (E : XK) : Prop := match o with
  | none => ok
  | some z => Inp g E H z
section
variable {g : Wd} {j : Nat} {H : Hp}
theorem raise_ii (T : Top g) {z : Str} {Q : XK} (hj : 2 ≤ j) (hz : z.length ≤ 100) (q : Inp g Q H z) : RaisP g j (gad g.K "InvalidInput") [.str z] H Q :=
  .by (ox_InvalidInput T) (ei_InvalidInput T).1 (ei_InvalidInput T).2 (fn_ii T) hj rfl ⟨z, rfl, hz⟩ fun d hd => q _ d (Gr.new hd) upd_same
def spAtLeast (g : Wd) : Sp := fun vs H Q E => ∃ (v m : Int) (z : Str), vs = [.int v, .int m, .str z] ∧ z.length ≤ 100 ∧ Ans g (if v < m then some z else none) H (Q .non H) E
theorem p_at_least (T : Top g) (hj : 2 ≤ j) : FnG g (j + 2) (gad g.K "at_least") (spAtLeast g) := fk_at_least T j fun vs H Q E ⟨v, m, z, ev, hz, h⟩ => by
  subst ev
  refine ⟨rfl, ite_i (fun c => ?_) (fun c => ?_)⟩
  · rw [if_pos (dt c)] at h
    exact raise_ii T hj hz h
  · rw [if_neg (df c)] at h
    exact h
def spAtMost (g : Wd) : Sp := fun vs H Q E => ∃ (v m : Int) (z : Str), vs = [.int v, .int m, .str z] ∧ z.length ≤ 100 ∧ Ans g (if m < v then some z else none) H (Q .non H) E
theorem p_at_most (T : Top g) (hj : 2 ≤ j) : FnG g (j + 2) (gad g.K "at_most") (spAtMost g) := fk_at_most T j fun vs H Q E ⟨v, m, z, ev, hz, h⟩ => by
  subst ev
  refine ⟨rfl, ite_i (fun c => ?_) (fun c => ?_)⟩
  · rw [if_pos (dt c)] at h
    exact raise_ii T hj hz h
  · rw [if_neg (df c)] at h
    exact h
/-- a whole number: an int -/
def spWhole : Sp := fun vs H Q _ => ∃ (v : Int) (z : Str), vs = [.int v, .str z] ∧ Q .non H
theorem p_whole_number (T : Top g) : FnG g (j + 2) (gad g.K "whole_number") spWhole := fk_whole_number T j fun vs H Q E ⟨v, z, ev, h⟩ => by
  subst ev
  refine ⟨rfl, ?_⟩
  refine IsiP.sc (n := "int") (m := "bool") (b := false) rfl rfl rfl ?_
  refine ite_i (fun c => Bool.noConfusion c) fun _ => ?_
  refine IsiP.sc (n := "int") (m := "int") (b := true) rfl rfl rfl ?_
  exact ite_i (fun c => Bool.noConfusion c) fun _ => h
def okW (z : Str) : Bool := !(Txt.startswith z "0") && decide (Txt.stripChars z "01" = "")
def spGood (g : Wd) : Sp := fun vs H Q E => ∃ z f : Str, vs = [.str z, .str f] ∧ z.length ≤ 100000 ∧ f.length ≤ 100 ∧ Ans g (if okW z = true then none else some f) H (Q .non H) E
theorem p_good_word (T : Top g) (hj : 2 ≤ j) : FnG g (j + 2) (gad g.K "good_word") (spGood g) := fk_good_word T j fun vs H Q E ⟨z, f, ev, hl, hf, h⟩ => by
  subst ev
  refine ⟨rfl, ?_⟩
  have hs : z.length ≤ sizeLine := by rw [sizeLine_eq]; omega
  have key : okW z = false → RaisP g j (gad g.K "InvalidInput") [.str f] H E := fun e => by
    rw [if_neg (by rw [e]; decide)] at h
    exact raise_ii T hj hf h
  refine ite_i (fun c => ?_) (fun c => ?_)
  · exact ite_i (fun _ => key (by unfold okW; rw [c]; rfl)) fun c2 => Bool.noConfusion c2
  · refine ⟨hs, ite_i (fun c2 => ?_) (fun c2 => ?_)⟩
    · refine key ?_
      unfold okW
      rw [c]
      revert c2
      cases decide (Txt.stripChars z "01" = "") <;> simp
    · rw [if_pos (by
        unfold okW
        rw [c]
        revert c2
        cases decide (Txt.stripChars z "01" = "") <;> simp)] at h
      exact h
end
end Lw
namespace Lw
open PySem PySem.Spec PyProof.Rows L2 Cy Tx
theorem okW_eq (z : Str) : okW z = okL (ls z) := by unfold okW okL; rw [starts0, strip01]
theorem Rd.gr {H H' : Hp} {a : Addr} {o : HO} (k : Gr H H') (h : Rd H a o) : Rd H' a o := by
  rcases h with h | ⟨ob, h⟩
  · exact .inl (k _ _ h)
  · exact .inr ⟨ob, k _ _ h⟩
theorem SqT_gr {K : PySem.W.Frag} {H H' : Hp} {a : Addr} {xs : List V} (k : Gr H H') (h : SqT K H a xs) : SqT K H' a xs := by
  rcases h with h | h
  · exact .inl (Rd.gr k h)
  · exact .inr h
theorem SqL_gr {K : PySem.W.Frag} {H H' : Hp} {a : Addr} {xs : List V} (k : Gr H H') (h : SqL K H a xs) : SqL K H' a xs := by
  rcases h with h | h
  · exact .inl (Rd.gr k h)
  · exact .inr h
section
variable {g : Wd} {j : Nat} {H : Hp}
theorem ml {n : Nat} (h : n ≤ 100000) : n ≤ sizeLine := by rw [sizeLine_eq]; omega
def spOnes : Sp := fun vs H Q _ => ∃ z : Str, vs = [.str z] ∧ Q (.int (Txt.count z "1")) H
theorem p_ones (T : Top g) : FnG g 2 (gad g.K "_ones") spOnes := fk__ones T 0 fun vs H Q E ⟨z, ev, h⟩ => by
  subst ev
  exact ⟨rfl, h⟩
def spLiving (g : Wd) : Sp := fun vs H Q E => ∃ z : Str, vs = [.str z] ∧ z.length ≤ 100000 ∧ okW z = true ∧ Q (.int (Txt.count z "1")) H
theorem p_living (T : Top g) : FnG g 6 (gad g.K "living") (spLiving g) := fk_living T 4 fun vs H Q E ⟨z, ev, hz, ok, h⟩ => by
  subst ev
  refine ⟨rfl, CallP.by (p_good_word T (j := 2) (by decide)) (by decide) ⟨z, _, rfl, hz, by decide +kernel, ?_⟩⟩
  rw [if_pos ok]
  exact CallP.by (p_ones T) (by decide) ⟨z, rfl, h⟩
def spTrim : Sp := fun vs H Q _ => ∃ z : Str, vs = [.str z] ∧ z.length ≤ 100000 ∧ Q (.str (Txt.lstripChars z "0")) H
theorem p_trimmed (T : Top g) : FnG g 2 (gad g.K "_trimmed") spTrim := fk__trimmed T 0 fun vs H Q E ⟨z, ev, hz, h⟩ => by
  subst ev
  exact ⟨rfl, ml hz, h⟩
/-- a word, its oldest record carried -/
def carW (z : Str) (n : Int) : Str := if z = "" ∨ n ≤ (z.length : Int) then z else Txt.lstripChars (cutS z (some 1) none ++ "1") "0"
theorem cut_len (z : Str) : (cutS z (some 1) none).length ≤ z.length := by
  unfold cutS
  show (List.take _ _).toArray.size ≤ _
  rw [List.size_toArray, List.length_take, List.length_drop]
  have h : z.length = z.cps.toList.length := ls_len z
  omega
theorem len1 : ("1" : Str).length = 1 := by decide +kernel
def spCarried : Sp := fun vs H Q _ => ∃ (z : Str) (n : Int), vs = [.str z, .int n] ∧ z.length ≤ 90000 ∧ Q (.str (carW z n)) H
theorem p_carried (T : Top g) : FnG g 4 (gad g.K "_carried") spCarried := fk__carried T 2 fun vs H Q E ⟨z, n, ev, hz, h⟩ => by
  subst ev
  have hs : z.length ≤ sizeLine := by rw [sizeLine_eq]; omega
  have rest : ¬(z = "" ∨ n ≤ (z.length : Int)) → Q (.str (Txt.lstripChars (cutS z (some 1) none ++ "1") "0")) H := fun c => by
    unfold carW at h; rw [if_neg c] at h; exact h
  have stop : (z = "" ∨ n ≤ (z.length : Int)) → Q (.str z) H := fun c => by
    unfold carW at h; rw [if_pos c] at h; exact h
  refine ⟨rfl, ite_i (fun c => ?_) (fun c => ?_)⟩
  · refine ite_i (fun _ => stop (.inl ?_)) (fun c2 => Bool.noConfusion c2)
    revert c
    by_cases q : z = "" <;> simp [q]
  · refine ⟨hs, ite_i (fun c2 => stop (.inr (dt c2))) fun c2 => ?_⟩
    have c1 : ¬ z = "" := by
      revert c
      by_cases q : z = "" <;> simp [q]
    refine ⟨hs, ?_, ?_⟩
    · rw [len1, sizeLine_eq]
      have := cut_len z
      omega
    · refine CallP.by (p_trimmed T) (by decide) ⟨_, rfl, ?_, rest ?_⟩
      · rw [len_app, len1]
        have := cut_len z
        omega
      · rintro (q | q)
        · exact c1 q
        · exact df c2 q
def spCarry (g : Wd) : Sp := fun vs H Q E => ∃ (z : Str) (n : Int), vs = [.str z, .int n] ∧ z.length ≤ 90000 ∧ okW z = true ∧ 1 ≤ n ∧ (z.length : Int) ≤ n ∧ Q (.str (carW z n)) H
theorem p_carry (T : Top g) : FnG g 6 (gad g.K "carry") (spCarry g) := fk_carry T 4 fun vs H Q E ⟨z, n, ev, hz, ok, h1, h2, h⟩ => by
  subst ev
  refine ⟨rfl, CallP.by (p_good_word T (j := 2) (by decide)) (by decide) ⟨z, _, rfl, by omega, by decide +kernel, ?_⟩⟩
  rw [if_pos ok]
  refine CallP.by (p_at_least T (j := 2) (by decide)) (by decide) ⟨_, _, _, rfl, by decide +kernel, ?_⟩
  rw [if_neg (by omega)]
  refine ⟨ml (by omega), CallP.by (p_at_least T (j := 2) (by decide)) (by decide) ⟨_, _, _, rfl, by decide +kernel, ?_⟩⟩
  rw [if_neg (by omega)]
  exact CallP.by (p_carried T) (by decide) ⟨z, n, rfl, hz, h⟩
def spAppended : Sp := fun vs H Q _ => ∃ (z r : Str) (n : Int), vs = [.str z, .int n, .str r] ∧ z.length ≤ 90000 ∧ r.length ≤ 10 ∧ (z.length : Int) < n ∧ Q (.str (Txt.lstripChars (z ++ r) "0")) H
theorem p_appended (T : Top g) : FnG g 4 (gad g.K "_appended") spAppended := fk__appended T 2 fun vs H Q E ⟨z, r, n, ev, hz, hr, hn, h⟩ => by
  subst ev
  have hs : z.length ≤ sizeLine := by rw [sizeLine_eq]; omega
  have hl : (z ++ r).length ≤ 100000 := by rw [len_app]; omega
  refine ⟨rfl, hs, ite_i (fun c => absurd (dt c) (by omega)) (fun c => ?_)⟩
  exact ⟨by rw [len_app] at hl; exact ml hl, CallP.by (p_trimmed T) (by decide) ⟨_, rfl, hl, h⟩⟩

def RoundAt (g : Wd) (H : Hp) (r : Addr) (bs : List Int) : Prop := ∃ dx t, H r = some (.ins (gad g.K "Round") dx [("_budgets", .ref t)]) ∧ H t = some (.tup (bs.map V.int))
theorem RoundAt.gr {H H' : Hp} {r : Addr} {bs : List Int} (k : Gr H H') (h : RoundAt g H r bs) : RoundAt g H' r bs := by
  obtain ⟨dx, t, h1, h2⟩ := h
  exact ⟨dx, t, k _ _ h1, k _ _ h2⟩
theorem lk1 {f : Str} {v : V} : ([(f, v)] : List (Str × V)).lookup f = some v := by simp [List.lookup]
theorem lkB {v : V} : ([(("_budgets" : Str), v)] : List (Str × V)).lookup ("_budgets" : Str) = some v := lk1
theorem nat_mod {a : Int} {n : Nat} (hn : 0 < n) : ∃ k : Nat, k < n ∧ a % (n : Int) = (k : Int) := by
  have h1 : 0 ≤ a % (n : Int) := Int.emod_nonneg _ (by omega)
  have h2 : a % (n : Int) < n := Int.emod_lt_of_pos _ (by omega)
  exact ⟨(a % (n : Int)).toNat, by omega, by omega⟩
/-- the budget at t -/
def bat (bs : List Int) (t : Int) : Int := bs.getD (t % (bs.length : Int)).toNat 0
def spRLen (g : Wd) : Sp := fun vs H Q _ => ∃ (r : Addr) (bs : List Int), vs = [.ref r] ∧ RoundAt g H r bs ∧ Q (.int bs.length) H
theorem p_rlen (T : Top g) : FnG g 2 (mad g.K (gad g.K "Round") "__len__") (spRLen g) := fk_Round_len_ T 0 fun vs H Q E ⟨r, bs, ev, ⟨dx, t, h1, h2⟩, h⟩ => by
  subst ev
  refine ⟨rfl, FldP.by rfl h1 (cl_Round T) (na_Round__budgets T) lkB ?_⟩
  refine LenP.t (.of h2) ?_
  rw [List.length_map]
  exact h
def spAt (g : Wd) : Sp := fun vs H Q E => ∃ (r : Addr) (bs : List Int) (t : Int), vs = [.ref r, .int t] ∧ RoundAt g H r bs ∧ 0 < bs.length ∧ 0 ≤ t ∧ Q (.int (bat bs t)) H
theorem p_at (T : Top g) : FnG g 6 (mad g.K (gad g.K "Round") "at") (spAt g) := fk_Round_at T 4 fun vs H Q E ⟨r, bs, t, ev, ⟨dx, b, h1, h2⟩, hb, ht, h⟩ => by
  subst ev
  refine ⟨rfl, CallP.by (p_at_least T (j := 2) (by decide)) (by decide) ⟨_, _, _, rfl, by decide +kernel, ?_⟩⟩
  rw [if_neg (by omega)]
  refine FldP.by rfl h1 (cl_Round T) (na_Round__budgets T) lkB ?_
  refine FldP.by rfl h1 (cl_Round T) (na_Round__budgets T) lkB ?_
  refine LenP.t (.of h2) ⟨by rw [List.length_map]; omega, ?_⟩
  rw [List.length_map]
  obtain ⟨k, hk, ek⟩ := nat_mod (a := t) hb
  refine IxR'.t (.of h2) (v := .int (bat bs t)) ?_ h
  refine at_of ek ?_
  unfold bat
  rw [ek]
  simp [List.getD, hk]
end
end Lw
namespace Lw
open PySem PySem.Spec PyProof.Rows L2 Cy Tx
section
variable {g : Wd} {j : Nat} {H : Hp}
theorem fk_Round_init_ {g : Wd} (T : Top g) (j : Nat) {sp : Sp} (h : ∀ vs H Q E, sp vs H Q E → rd_Round_init_ g j E { nx := fun _ H1 => Q .non H1, rt := Q } (L2.start ["self", "budgets", "budget"] vs) H) :
    FnG g (j + 2) (mad g.K (gad g.K "Round") "__init__") (fun vs H Q E => ∃ ws rest, vs = ws ++ rest ∧ ws.length = 1 ∧ rest.length ≤ sizeLine ∧ ∀ p, H p = Option.none → sp (ws ++ [V.ref p]) (upd H p (.tup rest)) Q E) := by
  obtain ⟨fd, F⟩ := fd_Round_init_ T
  obtain ⟨oc, od, dV, kV, doc, pm, an, cdv, ct, osl, rfl, lk, hcd, hD, _⟩ := F.ex
  have eD : dV = .none := by
    rcases hD with ⟨_, e⟩ | ⟨e, _⟩
    · exact e
    · exact absurd rfl e
  subst eD
  exact StX.fn_star (ps := ["self"]) lk hcd sc_Round_init_ StX.cxUp (fun us rest hl => match us, rest, hl with
    | [_], [], _ => rfl
    | [_], _ :: _, _ => rfl) fun A outer s H vs Q E hr hh => ⟨rd_Round_init_ g j E, dv_Round_init_ T hr, h vs H Q E hh⟩
/-- its promise: self new, the budgets whole and not negative, 1 to 12 of them -/
def spRInit (g : Wd) : Sp := fun vs H Q E => ∃ (x dx t : Addr) (bs : List Int), vs = [.ref x, .ref t] ∧ H x = some (.ins (gad g.K "Round") dx []) ∧ H t = some (.tup (bs.map V.int)) ∧ 1 ≤ bs.length ∧ bs.length ≤ 12 ∧ (∀ b ∈ bs, 0 ≤ b) ∧
  Q .non (upd H x (.ins (gad g.K "Round") dx [("_budgets", .ref t)]))
theorem p_rinit (T : Top g) : FnG g 8 (mad g.K (gad g.K "Round") "__init__") (fun vs H Q E => ∃ ws rest, vs = ws ++ rest ∧ ws.length = 1 ∧ rest.length ≤ sizeLine ∧ ∀ p, H p = Option.none → spRInit g (ws ++ [V.ref p]) (upd H p (.tup rest)) Q E) :=
  fk_Round_init_ T 6 fun vs H Q E ⟨x, dx, t, bs, ev, hx, ht, b1, b2, bp, h⟩ => by
    subst ev
    refine LenP.t (.of ht) ?_
    rw [List.length_map]
    refine ite_i (fun c => ?_) (fun c => absurd b1 (by have := df c; omega))
    refine GvP.by (gv_Round T) ?_
    obtain ⟨u, r, k⟩ := cvl_Round_MOST T
    refine CvP.by rfl r k ?_
    refine ite_i (fun c2 => absurd b2 (by
      revert c2
      by_cases q : (bs.length : Int) ≤ 12
      · simp [q]
      · intro _; omega)) fun _ => ?_
    refine SeqP.t rfl (.of ht) ?_
    refine for_tup (xs := bs.map V.int) (fun i σ H' => ∃ o, H' = H ∧ σ = [some (.ref x), some (.ref t), o]) ⟨none, rfl, rfl⟩ (fun i σ H' hi ⟨_, e, _⟩ => by rw [e]; exact .of ht) ?_ ?_
    · rintro i v σ H' hv ⟨o, rfl, rfl⟩
      rw [List.getElem?_map] at hv
      cases q : bs[i]? with
      | none => rw [q] at hv; cases hv
      | some b =>
        rw [q] at hv
        cases hv
        have hb := bp b (List.mem_of_getElem? q)
        refine CallP.by (p_whole_number T (j := 0)) (by decide) ⟨b, _, rfl, ?_⟩
        refine CallP.by (p_at_least T (j := 2) (by decide)) (by decide) ⟨_, _, _, rfl, by decide +kernel, ?_⟩
        rw [if_neg (by omega)]
        exact ⟨_, rfl, rfl⟩
    · rintro σ H' ⟨o, rfl, rfl⟩
      refine TupP.t (.of ht) ?_
      exact SetP.by rfl hx (cl_Round T) (na_Round__budgets T) (by decide) h
/-- Round(b, ..) -/
theorem mk_round (T : Top g) {bs : List Int} {Q : VK} {E : XK} (hj : 9 ≤ j) (b1 : 1 ≤ bs.length) (b2 : bs.length ≤ 12) (bp : ∀ b ∈ bs, 0 ≤ b) (h : ∀ r H', Gr H H' → H r = none → RoundAt g H' r bs → Q (.ref r) H') : MakeP g j (gad g.K "Round") (bs.map V.int) H Q E := by
  refine MakeP.by (mk_Round T) (p_rinit T) hj fun x dx hx hdx hne => ⟨[.ref x], bs.map V.int, rfl, rfl, by rw [List.length_map, sizeLine_eq]; omega, fun p hp => ?_⟩
  have px : p ≠ x := fun e => by rw [e, upd_same] at hp; cases hp
  have hp1 : upd H dx (.own x) p = none := by rw [upd_ne px] at hp; exact hp
  have pdx : p ≠ dx := fun e => by rw [e, upd_same] at hp1; cases hp1
  have hp0 : H p = none := by rw [upd_ne pdx] at hp1; exact hp1
  have hx1 : upd H dx (.own x) x = none := by rw [upd_ne (Ne.symm hne)]; exact hx
  refine ⟨x, dx, p, bs, rfl, by rw [upd_ne (Ne.symm px), upd_same], upd_same, b1, b2, bp, rfl, ?_⟩
  refine h x _ (fun a o e => ?_) hx ⟨dx, p, upd_same, by rw [upd_ne px, upd_same]⟩
  rw [upd_ne (ne_of_none e hx), upd_ne (ne_of_none e hp0), upd_ne (ne_of_none e hx), upd_ne (ne_of_none e hdx)]
  exact e
/-- r + q -/
def spRAdd (g : Wd) : Sp := fun vs H Q _ => ∃ (r q : Addr) (bs cs : List Int), vs = [.ref r, .ref q] ∧ RoundAt g H r bs ∧ RoundAt g H q cs ∧ bs ≠ [] ∧ cs ≠ [] ∧ bs.length + cs.length ≤ 12 ∧ (∀ b ∈ bs ++ cs, 0 ≤ b) ∧ ∀ s H', Gr H H' → H s = none → RoundAt g H' s (bs ++ cs) → Q (.ref s) H'
theorem p_radd (T : Top g) : FnG g 11 (mad g.K (gad g.K "Round") "__add__") (spRAdd g) := fk_Round_add_ T 9 fun vs H Q E ⟨r, q, bs, cs, ev, ⟨dx, b, h1, h2⟩, ⟨dx', c, h3, h4⟩, n1, n2, hl, hp, h⟩ => by
  subst ev
  refine ⟨rfl, ?_⟩
  refine GvP.by (gv_Round T) ?_
  refine IsiP.own (b := true) (ty_Round T h3) rfl (kt_Round_Round T) ?_
  refine ite_i (fun z => Bool.noConfusion z) fun _ => ?_
  refine FldP.by rfl h1 (cl_Round T) (na_Round__budgets T) lkB ?_
  refine FldP.by rfl h3 (cl_Round T) (na_Round__budgets T) lkB ?_
  refine AddR.tup _ _ (.of h2) (.of h4) (by simpa using n1) (by simpa using n2) (by rw [List.length_map, List.length_map, sizeLine_eq]; omega) fun s hs => ?_
  rw [← List.map_append]
  refine StarP.t rfl (.of upd_same) ?_
  have l1 : 1 ≤ (bs ++ cs).length := by
    rw [List.length_append]
    have := List.length_pos_iff.mpr n1
    omega
  refine mk_round T (by decide) l1 (by rw [List.length_append]; exact hl) hp fun s' H' k hs' ra => h s' H' ((Gr.new hs).trans k) ?_ ra
  have : s' ≠ s := fun e => by rw [e, upd_same] at hs'; cases hs'
  rw [upd_ne this] at hs'
  exact hs'
def spRBud (g : Wd) : Sp := fun vs H Q _ => ∃ (r : Addr) (bs : List Int), vs = [.ref r] ∧ RoundAt g H r bs ∧ ∀ p, H p = none → Q (.ref p) (upd H p (.lst (bs.map V.int)))
theorem p_rbud (T : Top g) : FnG g 2 (pgt g.K "Round" "budgets") (spRBud g) := fk_Round_budgets T 0 fun vs H Q E ⟨r, bs, ev, ⟨dx, t, h1, h2⟩, h⟩ => by
  subst ev
  refine ⟨rfl, FldP.by rfl h1 (cl_Round T) (na_Round__budgets T) lkB ?_⟩
  exact LstP.t (.of h2) h
end
end Lw
namespace Lw
open PySem PySem.Spec PyProof.Rows L2 Cy Tx
section
variable {g : Wd} {j : Nat} {H : Hp}
/-- what a keeper's choose refuses -/
def moment (z : Str) (p ph : Int) : Option Str := if okW z = false then some "word" else if p < 1 then some "places" else if ph < 0 then some "phase" else if p < (z.length : Int) then some "places" else none
def spMoment (g : Wd) : Sp := fun vs H Q E => ∃ (z : Str) (p ph : Int), vs = [.str z, .int p, .int ph] ∧ z.length ≤ 90000 ∧ Ans g (moment z p ph) H (Q .non H) E
theorem p_moment (T : Top g) : FnG g 6 (gad g.K "_check_moment") (spMoment g) := fk__check_moment T 4 fun vs H Q E ⟨z, p, ph, ev, hz, h⟩ => by
  subst ev
  refine ⟨rfl, CallP.by (p_good_word T (j := 2) (by decide)) (by decide) ⟨z, _, rfl, by omega, by decide +kernel, ?_⟩⟩
  unfold moment at h
  by_cases c1 : okW z = false
  · rw [if_pos c1] at h
    rw [if_neg (by rw [c1]; decide)]
    exact h
  have c1' : okW z = true := by simpa using c1
  rw [if_neg c1] at h
  rw [if_pos c1']
  refine CallP.by (p_at_least T (j := 2) (by decide)) (by decide) ⟨_, _, _, rfl, by decide +kernel, ?_⟩
  by_cases c2 : p < 1
  · rw [if_pos c2] at h
    rw [if_pos c2]
    exact h
  rw [if_neg c2] at h
  rw [if_neg c2]
  refine CallP.by (p_at_least T (j := 2) (by decide)) (by decide) ⟨_, _, _, rfl, by decide +kernel, ?_⟩
  by_cases c3 : ph < 0
  · rw [if_pos c3] at h
    rw [if_pos c3]
    exact h
  rw [if_neg c3] at h
  rw [if_neg c3]
  refine ⟨ml (by omega), CallP.by (p_at_least T (j := 2) (by decide)) (by decide) ⟨_, _, _, rfl, by decide +kernel, ?_⟩⟩
  by_cases c4 : p < (z.length : Int)
  · rw [if_pos c4] at h
    rw [if_pos c4]
    exact h
  rw [if_neg c4] at h
  rw [if_neg c4]
  exact h
/-- the most that may be carried -/
def mostA (z : Str) (p : Int) (bs : List Int) (ph : Int) : Int := if (z.length : Int) = p then 0 else min (bat bs ph) (Txt.count z "1")
def spMost (g : Wd) : Sp := fun vs H Q _ => ∃ (z : Str) (p ph : Int) (r : Addr) (bs : List Int), vs = [.str z, .int p, .ref r, .int ph] ∧ z.length ≤ 90000 ∧ okW z = true ∧ RoundAt g H r bs ∧ 0 < bs.length ∧ 0 ≤ ph ∧ Q (.int (mostA z p bs ph)) H
theorem ra_ins {r : Addr} {bs : List Int} (h : RoundAt g H r bs) : ∃ dx t, H r = some (.ins (gad g.K "Round") dx [("_budgets", .ref t)]) := by
  obtain ⟨dx, t, h1, _⟩ := h
  exact ⟨dx, t, h1⟩
theorem lkn {f f' : Str} {v : V} (h : (f' == f) = false) : ([(f, v)] : List (Str × V)).lookup f' = none := by simp [List.lookup, h]
theorem p_most (T : Top g) : FnG g 8 (gad g.K "_most_allowed") (spMost g) := fk__most_allowed T 6 fun vs H Q E ⟨z, p, ph, r, bs, ev, hz, ok, hr, hb, hp, h⟩ => by
  subst ev
  refine ⟨rfl, ml (by omega), ite_i (fun c => ?_) (fun c => ?_)⟩
  · unfold mostA at h
    rw [if_pos (by
      revert c
      by_cases q : (z.length : Int) = p <;> simp [q])] at h
    exact h
  · have q : ¬ (z.length : Int) = p := by
      revert c
      by_cases q : (z.length : Int) = p <;> simp [q]
    unfold mostA at h
    rw [if_neg q] at h
    obtain ⟨dx, t, h1⟩ := ra_ins hr
    refine MethP.own rfl h1 (cl_Round T) (mt_Round_at T) (lkn (by decide)) ?_
    refine CallP.by (p_at T) (by decide) ⟨r, bs, ph, rfl, hr, hb, hp, ?_⟩
    exact CallP.by (p_living T) (by decide) ⟨z, rfl, by omega, ok, h⟩
theorem moment_none {z : Str} {p ph : Int} (h : moment z p ph = none) : okW z = true ∧ 1 ≤ p ∧ 0 ≤ ph ∧ (z.length : Int) ≤ p := by
  unfold moment at h
  split at h
  · cases h
  split at h
  · cases h
  split at h
  · cases h
  split at h
  · cases h
  rename_i a b c d
  exact ⟨by simpa using a, by omega, by omega, by omega⟩
/-- choose(word, places, budgets, phase): refused, or R of the count -/
def spCh (g : Wd) (K : Addr → Hp → Prop) (R : Addr → Str → Int → List Int → Int → Hp → VK → Prop) : Sp := fun vs H Q E => ∃ (k : Addr) (z : Str) (p ph : Int) (r : Addr) (bs : List Int), vs = [.ref k, .str z, .int p, .ref r, .int ph] ∧ z.length ≤ 90000 ∧ K k H ∧ RoundAt g H r bs ∧ 0 < bs.length ∧
  Ans g (moment z p ph) H (R k z p bs ph H Q) E
def rRest : Addr → Str → Int → List Int → Int → Hp → VK → Prop := fun _ _ _ _ _ H Q => Q (.int 0) H
def rGreedy : Addr → Str → Int → List Int → Int → Hp → VK → Prop := fun _ z p bs ph H Q => Q (.int (mostA z p bs ph)) H
theorem ans_bind {o : Option Str} {ok ok' : Prop} {E : XK} (h : Ans g o H ok E) (k : o = none → ok → ok') : Ans g o H ok' E := by
  cases o with
  | none => exact k rfl h
  | some z => exact h
theorem p_kch (T : Top g) : FnG g 8 (mad g.K (gad g.K "Keeper") "choose") (spCh g (fun _ _ => True) rRest) := fk_Keeper_choose T 6 fun vs H Q E ⟨k, z, p, ph, r, bs, ev, hz, hk, hr, hb, h⟩ => by
  subst ev
  exact ⟨rfl, CallP.by (p_moment T) (by decide) ⟨z, p, ph, rfl, hz, ans_bind h fun _ q => q⟩⟩
theorem p_gch (T : Top g) : FnG g 10 (mad g.K (gad g.K "Greedy") "choose") (spCh g (fun _ _ => True) rGreedy) := fk_Greedy_choose T 8 fun vs H Q E ⟨k, z, p, ph, r, bs, ev, hz, hk, hr, hb, h⟩ => by
  subst ev
  refine ⟨rfl, CallP.by (p_moment T) (by decide) ⟨z, p, ph, rfl, hz, ans_bind h fun e q => ?_⟩⟩
  obtain ⟨m1, m2, m3, m4⟩ := moment_none e
  exact CallP.by (p_most T) (by decide) ⟨z, p, ph, r, bs, rfl, hz, m1, hr, hb, m3, q⟩
/-- a keeper with one field -/
def OneF (g : Wd) (C f : Str) (m : Int) (k : Addr) (H : Hp) : Prop := ∃ dx, H k = some (.ins (gad g.K C) dx [(f, .int m)])
theorem OneF.gr {C f : Str} {m : Int} {k : Addr} {H H' : Hp} (q : Gr H H') (h : OneF g C f m k H) : OneF g C f m k H' := by
  obtain ⟨dx, h⟩ := h
  exact ⟨dx, q _ _ h⟩
def rLazy (m : Int) : Addr → Str → Int → List Int → Int → Hp → VK → Prop := fun _ z p bs ph H Q => Q (.int (if m < p - (z.length : Int) then 0 else mostA z p bs ph)) H
theorem p_lch (T : Top g) (m : Int) : FnG g 10 (mad g.K (gad g.K "Lazy") "choose") (spCh g (OneF g "Lazy" "_mark" m) (rLazy m)) := fk_Lazy_choose T 8 fun vs H Q E ⟨k, z, p, ph, r, bs, ev, hz, ⟨dx, hk⟩, hr, hb, h⟩ => by
  subst ev
  refine ⟨rfl, CallP.by (p_moment T) (by decide) ⟨z, p, ph, rfl, hz, ans_bind h fun e q => ?_⟩⟩
  obtain ⟨m1, m2, m3, m4⟩ := moment_none e
  refine ⟨ml (by omega), FldP.by rfl hk (cl_Lazy T) (na_Lazy__mark T) lk1 ?_⟩
  unfold rLazy at q
  refine ite_i (fun c => ?_) (fun c => ?_)
  · rw [if_pos (dt c)] at q
    exact q
  · rw [if_neg (df c)] at q
    exact CallP.by (p_most T) (by decide) ⟨z, p, ph, r, bs, rfl, hz, m1, hr, hb, m3, q⟩
/-- the constructor of a keeper with one field; set_mark -/
def spOne (g : Wd) (C f fn : Str) (lo : Int) : Sp := fun vs H Q E => ∃ (k dx : Addr) (m : Int), vs = [.ref k, .int m] ∧ H k = some (.ins (gad g.K C) dx []) ∧ Ans g (if m < lo then some fn else none) H (Q .non (upd H k (.ins (gad g.K C) dx [(f, .int m)]))) E
theorem p_linit (T : Top g) : FnG g 6 (mad g.K (gad g.K "Lazy") "__init__") (spOne g "Lazy" "_mark" "mark" 0) := fk_Lazy_init_ T 4 fun vs H Q E ⟨k, dx, m, ev, hk, h⟩ => by
  subst ev
  refine ⟨rfl, CallP.by (p_at_least T (j := 2) (by decide)) (by decide) ⟨_, _, _, rfl, by decide +kernel, ans_bind h fun _ q => ?_⟩⟩
  exact SetP.by rfl hk (cl_Lazy T) (na_Lazy__mark T) (by decide) q
theorem p_tinit (T : Top g) : FnG g 6 (mad g.K (gad g.K "Thrifty") "__init__") (spOne g "Thrifty" "_limit" "limit" 1) := fk_Thrifty_init_ T 4 fun vs H Q E ⟨k, dx, m, ev, hk, h⟩ => by
  subst ev
  refine ⟨rfl, CallP.by (p_at_least T (j := 2) (by decide)) (by decide) ⟨_, _, _, rfl, by decide +kernel, ans_bind h fun _ q => ?_⟩⟩
  exact SetP.by rfl hk (cl_Thrifty T) (na_Thrifty__limit T) (by decide) q
def spSetM (g : Wd) : Sp := fun vs H Q E => ∃ (k dx : Addr) (m n : Int), vs = [.ref k, .int m] ∧ H k = some (.ins (gad g.K "Lazy") dx [("_mark", .int n)]) ∧ Ans g (if m < 0 then some "mark" else none) H (Q .non (upd H k (.ins (gad g.K "Lazy") dx [("_mark", .int m)]))) E
theorem p_setm (T : Top g) : FnG g 6 (mad g.K (gad g.K "Lazy") "set_mark") (spSetM g) := fk_Lazy_set_mark T 4 fun vs H Q E ⟨k, dx, m, n, ev, hk, h⟩ => by
  subst ev
  refine ⟨rfl, CallP.by (p_at_least T (j := 2) (by decide)) (by decide) ⟨_, _, _, rfl, by decide +kernel, ans_bind h fun _ q => ?_⟩⟩
  exact SetP.by rfl hk (cl_Lazy T) (na_Lazy__mark T) (show 1 < 1000 by decide) q
def spFld1 (g : Wd) (C f : Str) : Sp := fun vs H Q E => ∃ (k : Addr) (m : Int), vs = [.ref k] ∧ OneF g C f m k H ∧ Q (.int m) H
theorem p_mark (T : Top g) : FnG g 2 (pgt g.K "Lazy" "mark") (spFld1 g "Lazy" "_mark") := fk_Lazy_mark T 0 fun vs H Q E ⟨k, m, ev, ⟨dx, hk⟩, h⟩ => by
  subst ev
  exact ⟨rfl, FldP.by rfl hk (cl_Lazy T) (na_Lazy__mark T) lk1 h⟩
/-- the labels -/
def spLab (K : Addr → Hp → Prop) (z : Str) : Sp := fun vs H Q E => ∃ k, vs = [.ref k] ∧ K k H ∧ Q (.str z) H
theorem p_klab (T : Top g) : FnG g 2 (mad g.K (gad g.K "Keeper") "label") (spLab (fun _ _ => True) "rest") := fk_Keeper_label T 0 fun vs H Q E ⟨k, ev, hk, h⟩ => by
  subst ev
  exact ⟨rfl, h⟩
theorem p_glab (T : Top g) : FnG g 2 (mad g.K (gad g.K "Greedy") "label") (spLab (fun _ _ => True) "greedy") := fk_Greedy_label T 0 fun vs H Q E ⟨k, ev, hk, h⟩ => by
  subst ev
  exact ⟨rfl, h⟩
theorem e_app (z : Str) : Str.empty ++ z = z := by
  refine ls_ext ?_
  rw [ls_app]
  rfl
theorem int_len {m : Int} (h : m.natAbs.log2 < 1920) : (Str.ofString (toString m)).length ≤ 1921 := int_text_len_1921 h
theorem p_llab (T : Top g) (m : Int) (hm : m.natAbs.log2 < 1920) : FnG g 2 (mad g.K (gad g.K "Lazy") "label") (spLab (OneF g "Lazy" "_mark" m) ("lazy " ++ Str.ofString (toString m))) := fk_Lazy_label T 0 fun vs H Q E ⟨k, ev, ⟨dx, hk⟩, h⟩ => by
  subst ev
  refine ⟨rfl, by decide +kernel, FldP.by rfl hk (cl_Lazy T) (na_Lazy__mark T) lk1 ⟨hm, ?_, ?_⟩⟩
  · rw [len_app, e_app, sizeLine_eq]
    have := int_len hm
    have e : ("lazy " : Str).length = 5 := by decide +kernel
    omega
  · show Q (.str (Str.empty ++ "lazy " ++ Str.ofString (toString m))) H
    rw [e_app]
    exact h
theorem p_tlab (T : Top g) (m : Int) (hm : m.natAbs.log2 < 1920) : FnG g 2 (mad g.K (gad g.K "Thrifty") "label") (spLab (OneF g "Thrifty" "_limit" m) ("thrifty " ++ Str.ofString (toString m))) := fk_Thrifty_label T 0 fun vs H Q E ⟨k, ev, ⟨dx, hk⟩, h⟩ => by
  subst ev
  refine ⟨rfl, by decide +kernel, FldP.by rfl hk (cl_Thrifty T) (na_Thrifty__limit T) lk1 ⟨hm, ?_, ?_⟩⟩
  · rw [len_app, e_app, sizeLine_eq]
    have := int_len hm
    have e : ("thrifty " : Str).length = 8 := by decide +kernel
    omega
  · show Q (.str (Str.empty ++ "thrifty " ++ Str.ofString (toString m))) H
    rw [e_app]
    exact h
def RuleAt (g : Wd) (k : Addr) (H : Hp) : Prop := ∃ dx l v, H k = some (.ins (gad g.K "RuleKeeper") dx [("_rules", .ref l)]) ∧ H l = some (.lst [v])
theorem RuleAt.gr {k : Addr} {H H' : Hp} (q : Gr H H') (h : RuleAt g k H) : RuleAt g k H' := by
  obtain ⟨dx, l, v, h1, h2⟩ := h
  exact ⟨dx, l, v, q _ _ h1, q _ _ h2⟩
theorem p_rlab (T : Top g) : FnG g 2 (mad g.K (gad g.K "RuleKeeper") "label") (spLab (RuleAt g) "rule 1") := fk_RuleKeeper_label T 0 fun vs H Q E ⟨k, ev, ⟨dx, l, v, hk, hl⟩, h⟩ => by
  subst ev
  refine ⟨rfl, by decide +kernel, FldP.by rfl hk (cl_RuleKeeper T) (na_RuleKeeper__rules T) lk1 (LenP.l (.of hl) ⟨(by decide : (1 : Int).natAbs.log2 < 1920), (by decide +kernel : (Str.empty ++ ("rule " : Str) ++ Str.ofString (toString (1 : Int))).length ≤ sizeLine), ?_⟩)⟩
  have e : Str.empty ++ ("rule " : Str) ++ Str.ofString (toString (1 : Int)) = "rule 1" := by decide +kernel
  show Q (.str (Str.empty ++ ("rule " : Str) ++ Str.ofString (toString (1 : Int)))) H
  rw [e]
  exact h
theorem p_ruch (T : Top g) : FnG g 8 (mad g.K (gad g.K "RuleKeeper") "choose") (spCh g (fun _ _ => True) (fun _ _ _ _ _ _ _ => False)) := fk_RuleKeeper_choose T 6 fun vs H Q E ⟨k, z, p, ph, r, bs, ev, hz, hk, hr, hb, h⟩ => by
  subst ev
  exact ⟨rfl, CallP.by (p_moment T) (by decide) ⟨z, p, ph, rfl, hz, ans_bind h fun _ q => q.elim⟩⟩
abbrev eca : Str := "else carry all"
theorem split1 : Txt.split eca "\n" = [eca] := by decide +kernel
theorem split2 : Txt.split eca " " = ([("else" : Str), ("carry" : Str), ("all" : Str)] : List Str) := by decide +kernel
def spRL : Sp := fun vs H Q _ => vs = [.str eca] ∧ ∀ p H', Gr H H' → Q (.ref p) H'
theorem p_rline (T : Top g) : FnG g 2 (gad g.K "_read_line") spRL := fk__read_line T 0 fun vs H Q E ⟨ev, h⟩ => by
  subst ev
  obtain ⟨w0, w1, w2, e0, e1, e2, es⟩ : ∃ w0 w1 w2 : Str, w0 = "else" ∧ w1 = "carry" ∧ w2 = "all" ∧ Txt.split eca " " = [w0, w1, w2] := ⟨_, _, _, rfl, rfl, rfl, split2⟩
  refine ⟨rfl, by decide +kernel, by decide +kernel, fun p hp => ?_⟩
  rw [es]
  have hl : upd H p (.lst ([w0, w1, w2].map V.str)) p = some (.lst [.str w0, .str w1, .str w2]) := upd_same
  refine IxR'.l (.of hl) (v := .str w2) rfl ?_
  refine ite_i (fun z => ?_) fun _ => ?_
  · exact absurd z (by rw [e2]; decide +kernel)
  refine ite_i (fun z => ?_) fun _ => ?_
  · exact Bool.noConfusion z
  refine LenP.l (.of hl) ?_
  refine IxR'.l (.of hl) (v := .str w0) rfl ?_
  refine ite_i (fun _ => ?_) fun z => ?_
  rotate_left
  · exact absurd z (by rw [e0]; decide +kernel)
  refine IxR'.l (.of hl) (v := .str w1) rfl ?_
  refine ite_i (fun _ => ?_) fun z => ?_
  rotate_left
  · exact absurd z (by rw [e1]; decide +kernel)
  refine ⟨by decide, fun q hq => ⟨(by decide : 2 ≤ sizeLine), fun r hr => h r _ ?_⟩⟩
  exact ((Gr.new hp).trans (Gr.new hq)).trans (Gr.new hr)
end
end Lw
namespace Lw
open PySem PySem.Spec PyProof.Rows L2 Cy Tx
section
variable {g : Wd} {j : Nat} {H : Hp}
def spRR : Sp := fun vs H Q _ => vs = [.str eca] ∧ ∀ l v H', Gr H H' → H l = none → H' l = some (.lst [v]) → Q (.ref l) H'
theorem gr_upd {H H' : Hp} {l : Addr} {o : HO} (k : Gr H H') (h : H l = none) : Gr H (upd H' l o) := fun a u e => by rw [upd_ne (ne_of_none e h)]; exact k _ _ e
theorem p_rrules (T : Top g) : FnG g 4 (gad g.K "_read_rules") spRR := fk__read_rules T 2 fun vs H Q E ⟨ev, h⟩ => by
  subst ev
  refine ⟨rfl, by decide, fun l hl => ?_⟩
  refine ⟨by decide +kernel, by decide +kernel, fun p hp => ?_⟩
  rw [split1]
  have pl : p ≠ l := fun e => by rw [e, upd_same] at hp; cases hp
  have hp0 : H p = none := by rw [upd_ne pl] at hp; exact hp
  have hpp : upd (upd H l (.lst [])) p (.lst (([eca] : List Str).map V.str)) p = some (.lst [.str eca]) := upd_same
  refine ⟨⟨_, .of hpp⟩, ?_⟩
  refine ⟨fun i m σ H' => (i = 0 ∧ m = 1 ∧ H' = upd (upd H l (.lst [])) p (.lst (([eca] : List Str).map V.str)) ∧ σ = [some (.str eca), some (.ref l), none, none, none]) ∨
    (i = 1 ∧ m = 0 ∧ ∃ v o1 o2 o3, Gr H H' ∧ H' l = some (.lst [v]) ∧ H' p = some (.lst [.str eca]) ∧ σ = [some (.str eca), some (.ref l), o1, o2, o3]), ⟨1, .inl ⟨rfl, rfl, rfl, rfl⟩⟩, ?_⟩
  rintro i m σ H' (⟨rfl, rfl, rfl, rfl⟩ | ⟨rfl, rfl, v, o1, o2, o3, k, h1, h2, rfl⟩)
  · refine .inr ⟨⟨_, .str eca, .of hpp, rfl⟩, fun σ' H' => ∃ v o1 o2 o3, Gr H H' ∧ H' l = some (.lst [v]) ∧ H' p = some (.lst [.str eca]) ∧ σ' = [some (.str eca), some (.ref l), o1, o2, o3], ?_, ?_⟩
    · rintro σ' H' ⟨v, o1, o2, o3, a⟩
      exact ⟨0, by decide, .inr ⟨rfl, rfl, v, o1, o2, o3, a⟩⟩
    · rintro x H' ⟨t, y, rfl, ht, rfl, hy⟩
      have ey := hy _ (.of hpp)
      have ey : some (V.str eca) = some y := ey
      cases ey
      refine UnpP.t rfl (.of upd_same) rfl ?_
      refine CallP.by (p_rline T) (by decide) ⟨rfl, fun q H' k => ?_⟩
      have lt : l ≠ t := fun e => by
        rw [← e, upd_ne (Ne.symm pl), upd_same] at ht
        cases ht
      have pt : p ≠ t := fun e => by rw [← e, hpp] at ht; cases ht
      have hl' : H' l = some (.lst []) := k _ _ (by rw [upd_ne lt, upd_ne (Ne.symm pl), upd_same])
      refine IsLst.by rfl (.of hl') (AppP.by hl' (by decide) ⟨_, _, _, _, ?_, upd_same, ?_, rfl⟩)
      · refine gr_upd (fun a o e => k _ _ ?_) hl
        have z : upd (upd H l (.lst [])) p (.lst (([eca] : List Str).map V.str)) a = some o := ((Gr.new hl).trans (Gr.new hp)) _ _ e
        rw [upd_ne (ne_of_none z ht)]
        exact z
      · rw [upd_ne pl]
        exact k _ _ (by rw [upd_ne pt, hpp])
  · exact .inl ⟨⟨_, .of h2, rfl⟩, h l v H' k hl h1⟩
def spRuI (g : Wd) : Sp := fun vs H Q _ => ∃ k dx, vs = [.ref k, .str eca] ∧ H k = some (.ins (gad g.K "RuleKeeper") dx []) ∧ ∀ H', (∀ a o, a ≠ k → H a = some o → H' a = some o) → RuleAt g k H' → Q .non H'
theorem p_ruinit (T : Top g) : FnG g 6 (mad g.K (gad g.K "RuleKeeper") "__init__") (spRuI g) := fk_RuleKeeper_init_ T 4 fun vs H Q E ⟨k, dx, ev, hk, h⟩ => by
  subst ev
  refine ⟨rfl, CallP.by (p_rrules T) (by decide) ⟨rfl, fun l v H' q hl hl' => ?_⟩⟩
  have kl : k ≠ l := fun e => by rw [e, hl] at hk; cases hk
  refine SetP.by rfl (q _ _ hk) (cl_RuleKeeper T) (na_RuleKeeper__rules T) (by decide) (h _ (fun a o n e => by rw [upd_ne n]; exact q _ _ e) ⟨dx, l, v, upd_same, by rw [upd_ne (Ne.symm kl)]; exact hl'⟩)
end
end Lw
namespace Lw
open PySem PySem.Spec PyProof.Rows L2 Cy Tx
section
variable {g : Wd} {j : Nat} {H : Hp}
/-- the budgets of a round -/
structure BsOk (bs : List Int) : Prop where
  l1 : 1 ≤ bs.length
  l2 : bs.length ≤ 12
  nn : ∀ b ∈ bs, 0 ≤ b
  up : ∀ b ∈ bs, b ≤ 10 ^ 30
theorem sum_nn : ∀ {l : List Int}, (∀ b ∈ l, 0 ≤ b) → 0 ≤ l.sum
  | [], _ => by simp
  | a :: r, h => by
    have h1 := h a (List.mem_cons_self ..)
    have h2 := sum_nn (l := r) fun b hb => h b (List.mem_cons_of_mem _ hb)
    rw [List.sum_cons]; omega
theorem sum_up {M : Int} : ∀ {l : List Int}, (∀ b ∈ l, b ≤ M) → l.sum ≤ l.length * M
  | [], _ => by simp
  | a :: r, h => by
    have h1 := h a (List.mem_cons_self ..)
    have h2 := sum_up (l := r) fun b hb => h b (List.mem_cons_of_mem _ hb)
    rw [List.sum_cons, List.length_cons]
    have e : ((r.length + 1 : Nat) : Int) * M = (r.length : Int) * M + M := by
      rw [Int.natCast_add, Int.add_mul]; simp
    rw [e]; omega
theorem log2_lt {n k : Nat} (hk : 0 < k) (h : n < 2 ^ k) : n.log2 < k := by
  by_cases e : n = 0
  · subst e; simp; exact hk
  · exact (Nat.log2_lt e).mpr h
theorem bs_sum {bs : List Int} (b : BsOk bs) : 0 ≤ bs.sum ∧ bs.sum ≤ 12 * 10 ^ 30 := by
  refine ⟨sum_nn b.nn, ?_⟩
  have h := sum_up b.up
  have h2 : (bs.length : Int) ≤ 12 := by have := b.l2; omega
  have h3 : (bs.length : Int) * 10 ^ 30 ≤ 12 * 10 ^ 30 := Int.mul_le_mul_of_nonneg_right h2 (by decide)
  omega
def spWin (g : Wd) : Sp := fun vs H Q _ => ∃ (r : Addr) (bs : List Int) (s c : Int), vs = [.ref r, .int s, .int c] ∧ RoundAt g H r bs ∧ BsOk bs ∧ 0 ≤ s ∧ 0 ≤ c ∧ c < 2 ^ 62 ∧ ∀ n H', 0 ≤ n → Gr H H' → Q (.int n) H'
theorem p_win (T : Top g) : FnG g 2 (mad g.K (gad g.K "Round") "_window") (spWin g) := fk_Round__window T 0 fun vs H Q E ⟨r, bs, s, c, ev, ⟨dx, t, h1, h2⟩, hb, hs, hc, hc2, h⟩ => by
  subst ev
  have lp : 0 < bs.length := hb.l1
  have l12 := hb.l2
  refine ⟨rfl, ?_⟩
  refine FldP.by rfl h1 (cl_Round T) (na_Round__budgets T) lkB ?_
  refine LenP.t (.of h2) ?_
  rw [List.length_map]
  refine ⟨⟨by omega, by omega⟩, fun p hp => ?_⟩
  refine UnpP.t rfl (.of upd_same) rfl ?_
  have k1 : Gr H (upd H p (.tup [.int (c / (bs.length : Int)), .int (c % (bs.length : Int))])) := Gr.new hp
  refine FldP.by rfl (k1 _ _ h1) (cl_Round T) (na_Round__budgets T) lkB ?_
  refine LenP.t (.of (k1 _ _ h2)) ⟨by rw [List.length_map]; omega, ?_⟩
  rw [List.length_map]
  refine FldP.by rfl (k1 _ _ h1) (cl_Round T) (na_Round__budgets T) lkB ?_
  refine FldP.by rfl (k1 _ _ h1) (cl_Round T) (na_Round__budgets T) lkB ?_
  have nb : bs.map V.int ≠ [] := by
    intro e
    have := congrArg List.length e
    rw [List.length_map, List.length_nil] at this
    omega
  refine AddR.tup _ _ (.of (k1 _ _ h2)) (.of (k1 _ _ h2)) nb nb (by rw [List.length_map, sizeLine_eq]; omega) fun q hq => ?_
  have k2 := k1.trans (Gr.new (o := .tup (bs.map V.int ++ bs.map V.int)) hq)
  refine FldP.by rfl (k2 _ _ h1) (cl_Round T) (na_Round__budgets T) lkB ?_
  refine SumP.t (ns := bs) (.of (k2 _ _ h2)) ?_
  obtain ⟨s1, s2⟩ := bs_sum hb
  have hq1 : 0 ≤ c / (bs.length : Int) := Int.ediv_nonneg hc (by omega)
  have hq2 : c / (bs.length : Int) ≤ c := Int.ediv_le_self _ hc
  refine ⟨?_, ?_⟩
  · show (c / (bs.length : Int)).natAbs.log2 + bs.sum.natAbs.log2 < 1000000
    have a1 : (c / (bs.length : Int)).natAbs.log2 < 62 := log2_lt (by decide) (by omega)
    have a2 : bs.sum.natAbs.log2 < 200 := log2_lt (by decide) (by
      have : bs.sum.natAbs ≤ 12 * 10 ^ 30 := by omega
      exact Nat.lt_of_le_of_lt this (by decide))
    omega
  obtain ⟨f, hf, ef⟩ := nat_mod (a := s) lp
  obtain ⟨e, he, ee⟩ := nat_mod (a := c) lp
  have et : (bs.map V.int ++ bs.map V.int) = (bs ++ bs).map V.int := by rw [List.map_append]
  refine SlP.t (xs := (bs ++ bs).map V.int) (.of (by rw [← et]; exact upd_same)) ?_ fun q2 hq2' => ?_
  · rw [ef, ee]
    rintro ⟨_, z⟩
    have z2 : HT.sIx ((bs ++ bs).map V.int).length ((bs ++ bs).map V.int).length (some ((f : Int) + (e : Int))) = min (f + e) ((bs ++ bs).map V.int).length := by
      rw [show (f : Int) + (e : Int) = ((f + e : Nat) : Int) by omega]
      exact HT.sIx_nat _ _ _
    rw [z2, List.length_map, List.length_append] at z
    omega
  · have ec : cutV ((bs ++ bs).map V.int) (some (s % (bs.length : Int))) (some (s % (bs.length : Int) + c % (bs.length : Int))) = ((((bs ++ bs).drop (HT.sIx ((bs ++ bs).map V.int).length 0 (some (s % (bs.length : Int))))).take (HT.sIx ((bs ++ bs).map V.int).length ((bs ++ bs).map V.int).length (some (s % (bs.length : Int) + c % (bs.length : Int))) - HT.sIx ((bs ++ bs).map V.int).length 0 (some (s % (bs.length : Int)))))).map V.int := by
      unfold cutV
      rw [List.map_take, List.map_drop]
    refine SumP.t (.of (by rw [ec] <;> exact upd_same)) ?_
    refine h _ _ ?_ (k2.trans (Gr.new hq2'))
    have a1 : 0 ≤ c / (bs.length : Int) * bs.sum := Int.mul_nonneg hq1 s1
    have a2 : ∀ {l : List Int}, (∀ b ∈ l, b ∈ bs ++ bs) → 0 ≤ l.sum := fun hl => sum_nn fun b hb' => by
      rcases List.mem_append.mp (hl b hb') with z | z
      · exact hb.nn b z
      · exact hb.nn b z
    have a3 := a2 (l := ((bs ++ bs).drop (HT.sIx ((bs ++ bs).map V.int).length 0 (some (s % (bs.length : Int))))).take (HT.sIx ((bs ++ bs).map V.int).length ((bs ++ bs).map V.int).length (some (s % (bs.length : Int) + c % (bs.length : Int))) - HT.sIx ((bs ++ bs).map V.int).length 0 (some (s % (bs.length : Int))))) fun b hb' => List.mem_of_mem_drop (List.mem_of_mem_take hb')
    omega
end
end Lw
namespace Lw
open PySem PySem.Spec PyProof.Rows L2 Cy Tx
section
variable {g : Wd} {j : Nat} {H : Hp}
theorem p_total (T : Top g) : FnG g 6 (mad g.K (gad g.K "Round") "total") (spWin g) := fk_Round_total T 4 fun vs H Q E ⟨r, bs, s, c, ev, hr, hb, hs, hc, hc2, h⟩ => by
  subst ev
  refine ⟨rfl, CallP.by (p_at_least T (j := 2) (by decide)) (by decide) ⟨_, _, _, rfl, by decide +kernel, ?_⟩⟩
  rw [if_neg (by omega)]
  refine CallP.by (p_at_least T (j := 2) (by decide)) (by decide) ⟨_, _, _, rfl, by decide +kernel, ?_⟩
  rw [if_neg (by omega)]
  obtain ⟨dx, t, h1⟩ := ra_ins hr
  refine MethP.own rfl h1 (cl_Round T) (mt_Round__window T) (lkn (by decide)) ?_
  exact CallP.by (p_win T) (by decide) ⟨r, bs, s, c, rfl, hr, hb, hs, hc, hc2, h⟩
/-- a standing that passes -/
structure StOk (z : Str) (p l ph : Int) : Prop where
  ok : okW z = true
  hz : z.length ≤ 90000
  h1 : 1 ≤ p
  h2 : 1 ≤ l
  h3 : 0 ≤ ph
  h4 : (z.length : Int) ≤ p
  h5 : Txt.count z "1" ≤ l
  h6 : l ≤ p
def spSt : Sp := fun vs H Q _ => ∃ (z : Str) (p l ph : Int), vs = [.str z, .int p, .int l, .int ph] ∧ StOk z p l ph ∧ Q .non H
theorem p_st (T : Top g) : FnG g 8 (gad g.K "check_standing") spSt := by
  obtain ⟨fd, F⟩ := fd_check_standing T
  have F2 : FnOk g.P g.w g.K g.mg g.base (L2.CX g.P g.w) 8 (gad g.K "check_standing") fd ["word", "places", "limit", "phase", "most"] (fun vs H Q E => ∃ (z : Str) (p l ph : Int), vs = [.str z, .int p, .int l, .int ph, .int 0] ∧ StOk z p l ph ∧ Q .non H) :=
    ok_check_standing T F (j := 6) fun vs H Q E ⟨z, p, l, ph, ev, s, h⟩ => by
      subst ev
      obtain ⟨ok, hz, h1, h2, h3, h4, h5, h6⟩ := s
      refine ⟨rfl, CallP.by (p_good_word T (j := 2) (by decide)) (by decide) ⟨z, _, rfl, by omega, by decide +kernel, ?_⟩⟩
      rw [if_pos ok]
      refine CallP.by (p_at_least T (j := 2) (by decide)) (by decide) ⟨_, _, _, rfl, by decide +kernel, ?_⟩
      rw [if_neg (by omega)]
      refine CallP.by (p_at_least T (j := 2) (by decide)) (by decide) ⟨_, _, _, rfl, by decide +kernel, ?_⟩
      rw [if_neg (by omega)]
      refine CallP.by (p_at_least T (j := 2) (by decide)) (by decide) ⟨_, _, _, rfl, by decide +kernel, ?_⟩
      rw [if_neg (by omega)]
      refine CallP.by (p_at_least T (j := 2) (by decide)) (by decide) ⟨_, _, _, rfl, by decide +kernel, ?_⟩
      rw [if_neg (by omega)]
      refine ⟨ml (by omega), CallP.by (p_at_most T (j := 2) (by decide)) (by decide) ⟨_, _, _, rfl, by decide +kernel, ?_⟩⟩
      rw [if_neg (by omega)]
      refine CallP.by (p_living T) (by decide) ⟨z, rfl, by omega, ok, ?_⟩
      refine CallP.by (p_at_most T (j := 2) (by decide)) (by decide) ⟨_, _, _, rfl, by decide +kernel, ?_⟩
      rw [if_neg (by omega)]
      refine CallP.by (p_at_most T (j := 2) (by decide)) (by decide) ⟨_, _, _, rfl, by decide +kernel, ?_⟩
      rw [if_neg (by omega)]
      exact h
  obtain ⟨ds, hv, hb⟩ := FunD.binds1 (ps := ["word", "places", "limit", "phase", "most"]) F 4 0 (by intro e; cases e) rfl fun Tt kV doc pm an cdv ct us its hu hi => match us, its, hu, hi with
    | [_, _, _, _], [_], _, _ => ⟨_, rfl, rfl⟩
  refine (F2.raw hb hv).imp fun vs H Q E ⟨z, p, l, ph, ev, s, h⟩ => ?_
  subst ev
  exact ⟨z, p, l, ph, rfl, s, h⟩
def spDep : Sp := fun vs H Q _ => ∃ z : Str, vs = [.str z] ∧ z.length ≤ 90000 ∧ ∀ (p : Addr) (ns : List Int) (H' : Hp), Gr H H' → H' p = some (.lst (ns.map V.int)) → Q (.ref p) H'
theorem p_depl (T : Top g) : FnG g 2 (gad g.K "_depth_list") spDep := fk__depth_list T 0 fun vs H Q E ⟨z, ev, hz, h⟩ => by
  subst ev
  refine ⟨rfl, fun D hD => ?_⟩
  have hsz : z.cps.size = z.length := rfl
  refine ⟨fun i m H' => m = z.cps.size - i ∧ i ≤ z.cps.size ∧ Gr H H' ∧ ∃ ns : List Int, ns.length ≤ i ∧ H' D = some (.lst (ns.map V.int)), ⟨z.cps.size, by omega, Nat.zero_le _, Gr.new hD, [], Nat.zero_le _, upd_same⟩, ?_⟩
  rintro i m H' ⟨rfl, hi, k, ns, hn, hl⟩
  by_cases hlt : i < z.cps.size
  · refine .inr ⟨hlt, fun H2 => Gr H H2 ∧ ∃ ns : List Int, ns.length ≤ i + 1 ∧ H2 D = some (.lst (ns.map V.int)), fun H2 ⟨k2, ns2, a, b⟩ => ⟨_, by omega, rfl, hlt, k2, ns2, a, b⟩, ?_⟩
    rintro x H2 ⟨t, c, rfl, ht, rfl, hc⟩
    have tD : t ≠ D := fun e => by rw [e, hl] at ht; cases ht
    have k2 : Gr H (upd H' t (.tup [.int (0 + (i : Nat)), .str ⟨#[c]⟩])) := k.trans (Gr.new ht)
    have hD2 : upd H' t (.tup [.int (0 + (i : Nat)), .str ⟨#[c]⟩]) D = some (.lst (ns.map V.int)) := by rw [upd_ne (Ne.symm tD)]; exact hl
    refine UnpP.t rfl (.of upd_same) rfl ⟨rfl, ?_⟩
    refine ite_i (fun _ => ?_) (fun _ => ?_)
    · refine ⟨ml (by omega), ns.map V.int, hD2, by rw [List.length_map, sizeLine_eq]; omega, ?_, ?_⟩
      · refine gr_upd k2 hD
      · refine ⟨ns ++ [(z.length : Int) - (0 + (i : Nat))], by rw [List.length_append]; simp; omega, ?_⟩
        rw [List.map_append]
        exact upd_same
    · exact ⟨k2, ns, by omega, hD2⟩
  · have e : i = z.cps.size := by omega
    exact .inl ⟨e, h D ns H' k hl⟩
def spDepths : Sp := fun vs H Q _ => ∃ z : Str, vs = [.str z] ∧ z.length ≤ 90000 ∧ okW z = true ∧ ∀ (p : Addr) (ns : List Int) (H' : Hp), Gr H H' → H' p = some (.lst (ns.map V.int)) → Q (.ref p) H'
theorem p_depths (T : Top g) : FnG g 6 (gad g.K "depths") spDepths := fk_depths T 4 fun vs H Q E ⟨z, ev, hz, ok, h⟩ => by
  subst ev
  refine ⟨rfl, CallP.by (p_good_word T (j := 2) (by decide)) (by decide) ⟨z, _, rfl, by omega, by decide +kernel, ?_⟩⟩
  rw [if_pos ok]
  exact CallP.by (p_depl T) (by decide) ⟨z, rfl, hz, h⟩
def spCnt : Sp := fun vs H Q _ => ∃ (p : Int) (b : Bool), vs = [.int p, .bl b] ∧ Q (.int (if b = true then p - 1 else p)) H
theorem p_cnt (T : Top g) : FnG g 2 (gad g.K "counted_places") spCnt := fk_counted_places T 0 fun vs H Q E ⟨p, b, ev, h⟩ => by
  subst ev
  refine ⟨rfl, ite_i (fun c => ?_) (fun c => ?_)⟩
  · rw [if_pos c] at h; exact h
  · rw [if_neg (by rw [c]; decide)] at h; exact h
/-- blocked_now: some answer -/
def spBn (g : Wd) : Sp := fun vs H Q _ => ∃ (t cp l ph : Int) (sp r : Addr) (ns bs : List Int), vs = [.int t, .ref sp, .int cp, .int l, .ref r, .int ph] ∧ H sp = some (.lst (ns.map V.int)) ∧ RoundAt g H r bs ∧ BsOk bs ∧ 0 ≤ ph ∧ t < 2 ^ 62 ∧ ∀ b H', Gr H H' → Q (.bl b) H'
theorem p_bn (T : Top g) : FnG g 8 (gad g.K "blocked_now") (spBn g) := fk_blocked_now T 6 fun vs H Q E ⟨t, cp, l, ph, sp, r, ns, bs, ev, hsp, hr, hb, hp, ht, h⟩ => by
  subst ev
  refine ⟨rfl, ite_i (fun c => ?_) (fun c => ?_)⟩
  · exact h _ _ Gr.refl
  · have ht0 := df c
    obtain ⟨dx, tt, h1⟩ := ra_ins hr
    refine MethP.own rfl h1 (cl_Round T) (mt_Round_total T) (lkn (by decide)) ?_
    refine CallP.by (p_total T) (by decide) ⟨r, bs, ph, t, rfl, hr, hb, hp, by omega, ht, fun n H' hn k => ?_⟩
    refine LenP.l (.of (k _ _ hsp)) ?_
    rw [List.length_map]
    refine ite_i (fun c => ?_) (fun c => ?_)
    · exact h _ _ k
    · have hc := df c
      have hlt : n.toNat < ns.length := by omega
      refine IxR'.l (.of (k _ _ hsp)) (v := .int (ns[n.toNat]'hlt)) (at_of (j := n.toNat) (by omega) (by simp [hlt])) ?_
      exact h _ _ k
def spSn (g : Wd) : Sp := fun vs H Q _ => ∃ (t o cp l ph : Int) (r : Addr) (bs : List Int), vs = [.int t, .int o, .int cp, .int l, .ref r, .int ph] ∧ RoundAt g H r bs ∧ BsOk bs ∧ 0 ≤ ph ∧ cp < 2 ^ 62 ∧ 1 ≤ l ∧ o ≤ l ∧ ∀ b H', Gr H H' → Q (.bl b) H'
theorem p_sn (T : Top g) : FnG g 8 (gad g.K "short_now") (spSn g) := fk_short_now T 6 fun vs H Q E ⟨t, o, cp, l, ph, r, bs, ev, hr, hb, hp, hcp, hl, ho, h⟩ => by
  subst ev
  refine ⟨rfl, ite_i (fun c => ?_) (fun c => ?_)⟩
  · exact h _ _ Gr.refl
  · have c0 := df c
    refine ite_i (fun c => ?_) (fun c => ?_)
    · exact h _ _ Gr.refl
    · have c1 := df c
      obtain ⟨dx, tt, h1⟩ := ra_ins hr
      refine MethP.own rfl h1 (cl_Round T) (mt_Round_total T) (lkn (by decide)) ?_
      refine CallP.by (p_total T) (by decide) ⟨r, bs, _, _, rfl, hr, hb, by omega, by omega, by omega, fun n H' hn k => ?_⟩
      exact h _ _ k

/-- what blocked_at, short_at are asked -/
structure Bq (g : Wd) (H : Hp) (z : Str) (p l ph : Int) (r : Addr) (bs : List Int) : Prop where
  st : StOk z p l ph
  ra : RoundAt g H r bs
  bo : BsOk bs
  up : p < 2 ^ 61
/-- None or a number -/
def OptI (v : V) : Prop := v = .non ∨ ∃ i : Int, v = .int i
def spBa (g : Wd) : Sp := fun vs H Q _ => ∃ (z : Str) (p l ph : Int) (r : Addr) (bs : List Int) (b : Bool), vs = [.str z, .int p, .int l, .ref r, .int ph, .bl b] ∧ Bq g H z p l ph r bs ∧ ∀ v H', OptI v → Gr H H' → Q v H'
theorem ok_ba (T : Top g) {fd : FuncData} (F : FunD g.K "blocked_at" "blocked_at" (defArgs (top 26)) (defBody (top 26)) (defScope (top 26)) [.int 0] [("late", .bl false)] (gad g.K "blocked_at") fd) :
    FnOk g.P g.w g.K g.mg g.base (L2.CX g.P g.w) 10 (gad g.K "blocked_at") fd ["word", "places", "limit", "budgets", "phase", "late"] (spBa g) :=
  ok_blocked_at T F (j := 8) fun vs H Q E ⟨z, p, l, ph, r, bs, b, ev, q, h⟩ => by
    subst ev
    obtain ⟨st, ra, bo, up⟩ := q
    refine ⟨rfl, CallP.by (p_st T) (by decide) ⟨z, p, l, ph, rfl, st, ?_⟩⟩
    refine CallP.by (p_cnt T) (by decide) ⟨p, b, rfl, ?_⟩
    have hcp : -(2 ^ 62) ≤ (if b = true then p - 1 else p) ∧ (if b = true then p - 1 else p) < 2 ^ 62 := by
      have := st.h1
      split <;> omega
    generalize (if b = true then p - 1 else p) = cp at hcp
    refine CallP.by (p_depths T) (by decide) ⟨z, rfl, st.hz, st.ok, fun sp ns H1 k hsp => ?_⟩
    refine ⟨cp, rfl, hcp.1, hcp.2, ?_⟩
    refine for_range (fun i σ H' => Gr H1 H' ∧ ∃ o, σ = [some (.str z), some (.int p), some (.int l), some (.ref r), some (.int ph), some (.bl b), some (.int cp), some (.ref sp), o]) ⟨Gr.refl, none, rfl⟩ ?_ ?_
    · rintro i σ H' hi ⟨k2, o, rfl⟩
      refine CallP.by (p_bn T) (by decide) ⟨_, cp, l, ph, sp, r, ns, bs, rfl, k2 _ _ hsp, ra.gr (k.trans k2), bo, st.h3, by omega, fun bb H2 k3 => ?_⟩
      refine ite_i (fun _ => ?_) (fun _ => ?_)
      · exact h _ _ (.inr ⟨_, rfl⟩) ((k.trans k2).trans k3)
      · exact ⟨k2.trans k3, _, rfl⟩
    · rintro σ H' ⟨k2, o, rfl⟩
      exact h _ _ (.inl rfl) (k.trans k2)
theorem ok_sa (T : Top g) {fd : FuncData} (F : FunD g.K "short_at" "short_at" (defArgs (top 27)) (defBody (top 27)) (defScope (top 27)) [.int 0] [("late", .bl false)] (gad g.K "short_at") fd) :
    FnOk g.P g.w g.K g.mg g.base (L2.CX g.P g.w) 10 (gad g.K "short_at") fd ["word", "places", "limit", "budgets", "phase", "late"] (spBa g) :=
  ok_short_at T F (j := 8) fun vs H Q E ⟨z, p, l, ph, r, bs, b, ev, q, h⟩ => by
    subst ev
    obtain ⟨st, ra, bo, up⟩ := q
    refine ⟨rfl, CallP.by (p_st T) (by decide) ⟨z, p, l, ph, rfl, st, ?_⟩⟩
    refine CallP.by (p_cnt T) (by decide) ⟨p, b, rfl, ?_⟩
    have hcp : -1 ≤ (if b = true then p - 1 else p) ∧ (if b = true then p - 1 else p) < 2 ^ 61 := by
      have := st.h1
      split <;> omega
    generalize (if b = true then p - 1 else p) = cp at hcp
    refine CallP.by (p_living T) (by decide) ⟨z, rfl, by have := st.hz; omega, st.ok, ?_⟩
    obtain ⟨dx, tt, h1⟩ := ra_ins ra
    refine LenP.own h1 (du_Round_len T).1 (du_Round_len T).2 (p_rlen T) (by decide) ⟨r, bs, rfl, ra, _, rfl, by omega, by have := bo.l2; omega, ?_⟩
    have hc0 : 0 ≤ Txt.count z "1" := by rw [count1]; omega
    have b12 := bo.l2
    refine ⟨_, _, rfl, ⟨by omega, by omega, by omega, by omega⟩, ?_⟩
    refine for_range (fun i σ H' => Gr H H' ∧ ∃ o, σ = [some (.str z), some (.int p), some (.int l), some (.ref r), some (.int ph), some (.bl b), some (.int cp), some (.int (Txt.count z "1")), some (.int (max 0 (cp - Txt.count z "1"))), o]) ⟨Gr.refl, none, rfl⟩ ?_ ?_
    · rintro i σ H' hi ⟨k2, o, rfl⟩
      refine CallP.by (p_sn T) (by decide) ⟨_, _, cp, l, ph, r, bs, rfl, ra.gr k2, bo, st.h3, by omega, st.h2, st.h5, fun bb H2 k3 => ?_⟩
      refine ite_i (fun _ => ?_) (fun _ => ?_)
      · exact h _ _ (.inr ⟨_, rfl⟩) (k2.trans k3)
      · exact ⟨k2.trans k3, _, rfl⟩
    · rintro σ H' ⟨k2, o, rfl⟩
      exact h _ _ (.inl rfl) k2
end
end Lw
namespace Lw
open PySem PySem.Spec PyProof.Rows L2 Cy Tx
section
variable {g : Wd} {j : Nat} {H : Hp}
/-- f(word, places, limit, budgets, phase, late=late) -/
def spK6 (sp : Sp) : SpK := fun vs zs H Q E => ∃ a b c d e l : V, vs = [a, b, c, d, e] ∧ zs = [l] ∧ sp [a, b, c, d, e, l] H Q E
theorem kw6 {x : Str} {params : Arguments} {body : List Stmt} {scope : Scope} {f : Addr} {fd : FuncData} {k : Nat} {sp : Sp} (F : FunD g.K x x params body scope [.int 0] [("late", .bl false)] f fd) (O : FnOk g.P g.w g.K g.mg g.base (L2.CX g.P g.w) k f fd ["word", "places", "limit", "budgets", "phase", "late"] sp)
    (h : ∀ (T D : Addr) (doc pm : Value) (an : Option Addr) (cdv ct : Value) (us its mv ws : List Value), us.length = 5 → its.length = 1 → mv.length = 0 → ws.length = 1 →
      ∃ k, bindArgs (PySem.W.fnOf x x params body scope (.ref T) (.ref D) doc pm an cdv ct) ⟨us, [("late" : Str)].zip ws⟩ = seqItems? (.ref T) >>= k ∧ KwChain D ((([] : List (Str × V)).map (·.1)).zip mv) (k (some its.toArray)) ((["word", "places", "limit", "budgets", "phase", "late"] : List Str).zip (us ++ ws))) :
    FnK g k f ["late"] (spK6 sp) := by
  obtain ⟨its, mv, hb⟩ := FunD.kbinds (ps := ["word", "places", "limit", "budgets", "phase", "late"]) F 5 ["late"] [] (fun us its mv ws => us ++ ws) (by intro e; cases e) (by intro e; cases e) (fun q hq => by cases hq) (fun r1 _ _ r4 => r1.append r4) h
  intro A outer s H us ws vs zs Q E hr e0 r rz hh
  obtain ⟨a, b, c, d, e, l, rfl, rfl, hs⟩ := hh
  exact FnK.of O hb A outer s H us ws _ _ Q E hr e0 r rz ⟨rfl, rfl, hs⟩
theorem k_ba (T : Top g) : FnK g 10 (gad g.K "blocked_at") ["late"] (spK6 (spBa g)) := by
  obtain ⟨fd, F⟩ := fd_blocked_at T
  exact kw6 (f := gad g.K "blocked_at") F (ok_ba T F) fun Tt D doc pm an cdv ct us its mv ws h1 h2 h3 h4 => match us, its, mv, ws, h1, h2, h3, h4 with
    | [_, _, _, _, _], [_], [], [_], _, _, _, _ => ⟨_, rfl, rfl⟩
theorem k_sa (T : Top g) : FnK g 10 (gad g.K "short_at") ["late"] (spK6 (spBa g)) := by
  obtain ⟨fd, F⟩ := fd_short_at T
  exact kw6 (f := gad g.K "short_at") F (ok_sa T F) fun Tt D doc pm an cdv ct us its mv ws h1 h2 h3 h4 => match us, its, mv, ws, h1, h2, h3, h4 with
    | [_, _, _, _, _], [_], [], [_], _, _, _, _ => ⟨_, rfl, rfl⟩
theorem Bq.gr {z : Str} {p l ph : Int} {r : Addr} {bs : List Int} {H' : Hp} (k : Gr H H') (q : Bq g H z p l ph r bs) : Bq g H' z p l ph r bs := ⟨q.st, q.ra.gr k, q.bo, q.up⟩
theorem p_cput (T : Top g) : FnG g 12 (gad g.K "critical_put") (spBa g) := fk_critical_put T 10 fun vs H Q E ⟨z, p, l, ph, r, bs, b, ev, q, h⟩ => by
  subst ev
  refine ⟨rfl, CallKP.by (k_ba T) (by decide) ⟨_, _, _, _, _, _, rfl, rfl, z, p, l, ph, r, bs, b, rfl, q, fun v1 H1 o1 k1 => ?_⟩⟩
  refine CallKP.by (k_sa T) (by decide) ⟨_, _, _, _, _, _, rfl, rfl, z, p, l, ph, r, bs, b, rfl, q.gr k1, fun v2 H2 o2 k2 => ?_⟩
  have k := k1.trans k2
  refine ite_i (fun _ => h _ _ o2 k) (fun c => ?_)
  refine ite_i (fun _ => h _ _ o1 k) (fun c2 => ?_)
  rcases o1 with rfl | ⟨i1, rfl⟩
  · exact Bool.noConfusion c
  · rcases o2 with rfl | ⟨i2, rfl⟩
    · exact Bool.noConfusion c2
    · exact h _ _ (.inr ⟨_, rfl⟩) k
theorem k_life (T : Top g) : FnK g 14 (gad g.K "life") ["late"] (spK6 (spBa g)) := by
  obtain ⟨fd, F⟩ := fd_life T
  refine kw6 (f := gad g.K "life") F (ok_life T F (j := 12) fun vs H Q E ⟨z, p, l, ph, r, bs, b, ev, q, h⟩ => ?_) fun Tt D doc pm an cdv ct us its mv ws h1 h2 h3 h4 => match us, its, mv, ws, h1, h2, h3, h4 with
    | [_, _, _, _, _], [_], [], [_], _, _, _, _ => ⟨_, rfl, rfl⟩
  subst ev
  refine ⟨rfl, CallP.by (p_st T) (by decide) ⟨z, p, l, ph, rfl, q.st, ?_⟩⟩
  have rest : ∀ H', Gr H H' → tSeq (tAsg (cCall g 12 (fun cls d _ H => E cls d H) (gad g.K "critical_put") (tCons (cV 0) (tCons (cV 1) (tCons (cV 2) (tCons (cV 3) (tCons (cV 4) (tCons (cV 5) (tNil)))))))) (gName 6))
    (tSeq (tIfS (cTest (tOp (cIsN false) (cV 6) (tC .non))) (tRet (tC .non)) (tNext))
    (tSeq (tIfS (cTru g.K (cV 5)) (tRet (tOp (cAdd g.K noOw) (cV 6) (tC (.int 1)))) (tNext))
    (tRet (cV 6)))) { nx := fun _ H1 => Q .non H1, rt := Q } [some (.str z), some (.int p), some (.int l), some (.ref r), some (.int ph), some (.bl b), none] H' := fun H' k0 => by
    refine CallP.by (p_cput T) (by decide) ⟨z, p, l, ph, r, bs, b, rfl, q.gr k0, fun v1 H1 o1 k1 => ?_⟩
    have k := k0.trans k1
    refine ite_i (fun _ => h _ _ (.inl rfl) k) (fun c => ?_)
    rcases o1 with rfl | ⟨i1, rfl⟩
    · exact Bool.noConfusion c
    · exact ite_i (fun _ => h _ _ (.inr ⟨_, rfl⟩) k) (fun _ => h _ _ (.inr ⟨_, rfl⟩) k)
  refine ite_i (fun cb => ?_) (fun cb => ?_)
  · refine ⟨ml (by have := q.st.hz; omega), ite_i (fun _ => h _ _ (.inr ⟨_, rfl⟩) Gr.refl) (fun _ => rest H Gr.refl)⟩
  · exact ite_i (fun z => Bool.noConfusion z) (fun _ => rest H Gr.refl)
def spSafe (g : Wd) : Sp := fun vs H Q _ => ∃ (z : Str) (p l ph : Int) (r : Addr) (bs : List Int), vs = [.str z, .int p, .int l, .ref r, .int ph] ∧ Bq g H z p l ph r bs ∧ ∀ b H', Gr H H' → Q (.bl b) H'
theorem p_safe (T : Top g) : FnG g 16 (gad g.K "safe") (spSafe g) := by
  obtain ⟨fd, F⟩ := fd_safe T
  have F2 : FnOk g.P g.w g.K g.mg g.base (L2.CX g.P g.w) 16 (gad g.K "safe") fd ["word", "places", "limit", "budgets", "phase", "late"] (fun vs H Q E => ∃ (z : Str) (p l ph : Int) (r : Addr) (bs : List Int), vs = [.str z, .int p, .int l, .ref r, .int ph, .bl false] ∧ Bq g H z p l ph r bs ∧ ∀ b H', Gr H H' → Q (.bl b) H') :=
    ok_safe T F (j := 14) fun vs H Q E ⟨z, p, l, ph, r, bs, ev, q, h⟩ => by
      subst ev
      exact ⟨rfl, CallKP.by (k_life T) (by decide) ⟨_, _, _, _, _, _, rfl, rfl, z, p, l, ph, r, bs, false, rfl, q, fun v1 H1 o1 k1 => h _ _ k1⟩⟩
  obtain ⟨ds, hv, hb⟩ := FunD.binds (ps := ["word", "places", "limit", "budgets", "phase", "late"]) F 5 1 (by intro e; cases e) rfl (fun Tt D doc pm an cdv ct us its ks h1 h2 h3 => match us, its, ks, h1, h2, h3 with
    | [_, _, _, _, _], [_], [_], _, _, _ => ⟨_, rfl, _, _, _, _, _, _, rfl, rfl, rfl⟩) (by intro e; cases e)
  refine (F2.raw hb hv).imp fun vs H Q E ⟨z, p, l, ph, r, bs, ev, q, h⟩ => ?_
  subst ev
  exact ⟨z, p, l, ph, r, bs, rfl, q, h⟩
end
end Lw
namespace Lw
open PySem PySem.Spec PyProof.Rows L2 Cy Tx
theorem dw_head : ∀ l : List Nat, ((l.dropWhile (· == 48)).head? == some 48) = false
  | [] => rfl
  | a :: r => by
    cases h : (a == 48) with
    | true => simp only [List.dropWhile, h]; exact dw_head r
    | false =>
      simp only [List.dropWhile, h, List.head?]
      simpa using h
theorem dw_mem {l : List Nat} {c : Nat} (h : c ∈ l.dropWhile (· == 48)) : c ∈ l := (List.dropWhile_sublist _).subset h
theorem dw_ok {l : List Nat} (h : l.all Bit = true) : okL (l.dropWhile (· == 48)) = true := by
  unfold okL
  rw [dw_head]
  have : (l.dropWhile (· == 48)).all Bit = true := List.all_eq_true.mpr fun c hc => List.all_eq_true.mp h c (dw_mem hc)
  rw [this]
  rfl
theorem ok_all {z : Str} (h : okW z = true) : (ls z).all Bit = true := by
  rw [okW_eq] at h
  unfold okL at h
  exact (Bool.and_eq_true_iff.mp h).2
theorem ls_one : ls ("1" : Str) = [49] := by decide +kernel
theorem cut_ls (z : Str) : ls (cutS z (some 1) none) = (ls z).drop 1 := by
  have h : z.length = z.cps.toList.length := ls_len z
  unfold cutS
  show (List.take _ (List.drop _ z.cps.toList)).toArray.toList = z.cps.toList.drop 1
  rw [show (1 : Int) = ((1 : Nat) : Int) from rfl, HT.sIx_nat, HT.sIx_none, h]
  simp only [List.toList_toArray]
  by_cases q : 1 ≤ z.cps.toList.length
  · rw [Nat.min_eq_left q]
    exact List.take_of_length_le (by rw [List.length_drop]; exact Nat.le_refl _)
  · have e : z.cps.toList = [] := List.eq_nil_of_length_eq_zero (by omega)
    rw [e]; rfl
theorem apd_ok {z : Str} (h : okW z = true) : okW (Txt.lstripChars (z ++ "1") "0") = true ∧ (Txt.lstripChars (z ++ "1") "0").length ≤ z.length + 1 ∧ Txt.count (Txt.lstripChars (z ++ "1") "0") "1" ≤ Txt.count z "1" + 1 := by
  have e : ls (Txt.lstripChars (z ++ "1") "0") = (ls z ++ [49]).dropWhile (· == 48) := by rw [lstrip0, ls_app, ls_one]
  refine ⟨?_, ?_, ?_⟩
  · rw [okW_eq, e]
    refine dw_ok ?_
    rw [List.all_append, ok_all h]
    rfl
  · rw [ls_len, e]
    have := (List.dropWhile_sublist (l := ls z ++ [49]) (· == 48)).length_le
    rw [List.length_append, List.length_singleton] at this
    rw [ls_len z]
    exact this
  · rw [count1, count1, e]
    have := (List.dropWhile_sublist (l := ls z ++ [49]) (· == 48)).count_le 49
    rw [List.count_append] at this
    have e2 : List.count 49 [49] = 1 := by decide
    omega
theorem car_ok {z : Str} {n : Int} (h : okW z = true) : okW (carW z n) = true ∧ (carW z n).length ≤ z.length := by
  unfold carW
  split
  · exact ⟨h, Nat.le_refl _⟩
  · rename_i c
    have e : ls (Txt.lstripChars (cutS z (some 1) none ++ "1") "0") = ((ls z).drop 1 ++ [49]).dropWhile (· == 48) := by rw [lstrip0, ls_app, ls_one, cut_ls]
    refine ⟨?_, ?_⟩
    · rw [okW_eq, e]
      refine dw_ok ?_
      rw [List.all_append]
      have : ((ls z).drop 1).all Bit = true := List.all_eq_true.mpr fun c hc => List.all_eq_true.mp (ok_all h) c (List.mem_of_mem_drop hc)
      rw [this]
      rfl
    · rw [ls_len, e]
      have := (List.dropWhile_sublist (l := (ls z).drop 1 ++ [49]) (· == 48)).length_le
      rw [List.length_append, List.length_singleton, List.length_drop] at this
      rw [ls_len z]
      have hn : (ls z) ≠ [] := fun e => c (.inl (ls_ext (e.trans (by decide +kernel))))
      have := List.length_pos_iff.mpr hn
      omega
section
variable {g : Wd} {j : Nat} {H : Hp}
def spApr : Sp := fun vs H Q _ => ∃ (z : Str) (n : Int), vs = [.str z, .int n] ∧ z.length ≤ 80000 ∧ okW z = true ∧ 1 ≤ n ∧ (z.length : Int) < n ∧ ∀ H', Gr H H' → Q (.str (Txt.lstripChars (z ++ "1") "0")) H'
theorem p_apr (T : Top g) : FnG g 6 (gad g.K "append_record") spApr := by
  obtain ⟨fd, F⟩ := fd_append_record T
  have F2 : FnOk g.P g.w g.K g.mg g.base (L2.CX g.P g.w) 6 (gad g.K "append_record") fd ["word", "places", "record"] (fun vs H Q E => ∃ (z : Str) (n : Int) (r : Str), vs = [.str z, .int n, .str r] ∧ r = "1" ∧ z.length ≤ 80000 ∧ okW z = true ∧ 1 ≤ n ∧ (z.length : Int) < n ∧ ∀ H', Gr H H' → Q (.str (Txt.lstripChars (z ++ "1") "0")) H') :=
    ok_append_record T F (j := 4) fun vs H Q E ⟨z, n, r, ev, er, hz, ok, h1, h2, h⟩ => by
      subst ev
      refine ⟨rfl, CallP.by (p_good_word T (j := 2) (by decide)) (by decide) ⟨z, _, rfl, by omega, by decide +kernel, ?_⟩⟩
      rw [if_pos ok]
      refine CallP.by (p_at_least T (j := 2) (by decide)) (by decide) ⟨_, _, _, rfl, by decide +kernel, ?_⟩
      rw [if_neg (by omega)]
      refine ⟨by decide, fun t ht => InR.sq _ (.inr (.of upd_same)) rfl rfl ?_⟩
      refine ite_i (fun c => ?_) (fun c => ?_)
      · exact absurd c (by rw [er]; decide +kernel)
      refine ⟨ml (by omega), CallP.by (p_at_least T (j := 2) (by decide)) (by decide) ⟨_, _, _, rfl, by decide +kernel, ?_⟩⟩
      rw [if_neg (by omega)]
      exact CallP.by (p_appended T) (by decide) ⟨z, r, n, rfl, by omega, by rw [er]; decide +kernel, h2, by rw [er]; exact h _ (Gr.new ht)⟩
  obtain ⟨ds, hv, hb⟩ := FunD.binds1 (ps := ["word", "places", "record"]) F 2 0 (by intro e; cases e) rfl fun Tt kV doc pm an cdv ct us its hu hi => match us, its, hu, hi with
    | [_, _], [_], _, _ => ⟨_, rfl, rfl⟩
  refine (F2.raw hb hv).imp fun vs H Q E ⟨z, n, ev, hz, ok, h1, h2, h⟩ => ?_
  subst ev
  exact ⟨z, n, "1", rfl, rfl, hz, ok, h1, h2, h⟩
def spLs (g : Wd) : Sp := fun vs H Q _ => ∃ (k : Addr) (m : Int) (z : Str) (p ph : Int) (r : Addr) (bs : List Int), vs = [.ref k, .str z, .int p, .ref r, .int ph] ∧ OneF g "Thrifty" "_limit" m k H ∧ 1 ≤ m ∧ z.length ≤ 70000 ∧ okW z = true ∧ 1 ≤ p ∧ (z.length : Int) < p ∧ p < 2 ^ 61 ∧ 0 ≤ ph ∧ RoundAt g H r bs ∧ BsOk bs ∧ ∀ b H', Gr H H' → Q (.bl b) H'
theorem p_ls (T : Top g) : FnG g 18 (mad g.K (gad g.K "Thrifty") "_leaves_safe") (spLs g) := fk_Thrifty__leaves_safe T 16 fun vs H Q E ⟨k, m, z, p, ph, r, bs, ev, ⟨dx, hk⟩, hm, hz, ok, h1, h2, h3, h4, hr, hb, h⟩ => by
  subst ev
  refine ⟨rfl, CallP.by (p_living T) (by decide) ⟨z, rfl, by omega, ok, ?_⟩⟩
  refine FldP.by rfl hk (cl_Thrifty T) (na_Thrifty__limit T) lk1 ?_
  refine ite_i (fun c => ite_i (fun _ => h _ _ Gr.refl) (fun z => Bool.noConfusion z)) (fun c => ?_)
  have c1 := df c
  refine FldP.by rfl hk (cl_Thrifty T) (na_Thrifty__limit T) lk1 ?_
  refine ite_i (fun c => h _ _ Gr.refl) (fun c => ?_)
  have c2 := df c
  refine CallP.by (p_apr T) (by decide) ⟨z, p, rfl, by omega, ok, h1, h2, fun H1 k1 => ?_⟩
  refine FldP.by rfl (k1 _ _ hk) (cl_Thrifty T) (na_Thrifty__limit T) lk1 ?_
  obtain ⟨a1, a2, a3⟩ := apd_ok ok
  refine CallP.by (p_safe T) (by decide) ⟨_, p, m, ph, r, bs, rfl, ⟨⟨a1, by omega, h1, hm, h4, by omega, by omega, by omega⟩, hr.gr k1, hb, h3⟩, fun b H' k2 => h _ _ (k1.trans k2)⟩
/-- Thrifty's answer: in its range -/
def rThr : Addr → Str → Int → List Int → Int → Hp → VK → Prop := fun _ z p bs ph H Q => (0 ≤ mostA z p bs ph ∧ mostA z p bs ph < 2 ^ 61) ∧ p < 2 ^ 61 ∧ BsOk bs ∧ ∀ c H', 0 ≤ c → c ≤ mostA z p bs ph → Gr H H' → Q (.int c) H'
theorem p_tch (T : Top g) (m : Int) (hm : 1 ≤ m) : FnG g 20 (mad g.K (gad g.K "Thrifty") "choose") (fun vs H Q E => spCh g (OneF g "Thrifty" "_limit" m) rThr vs H Q E ∧ (∀ z, V.str z ∈ vs → z.length ≤ 60000)) := fk_Thrifty_choose T 18 fun vs H Q E ⟨⟨k, z, p, ph, r, bs, ev, hz, hk, hr, hb, h⟩, hz2⟩ => by
  subst ev
  have hz6 : z.length ≤ 60000 := hz2 z (by simp)
  refine ⟨rfl, CallP.by (p_moment T) (by decide) ⟨z, p, ph, rfl, hz, ans_bind h fun e q => ?_⟩⟩
  obtain ⟨m1, m2, m3, m4⟩ := moment_none e
  obtain ⟨⟨q1, q1'⟩, q2, q3, q⟩ := q
  refine CallP.by (p_most T) (by decide) ⟨z, p, ph, r, bs, rfl, hz, m1, hr, hb, m3, ?_⟩
  obtain ⟨dx, tt, h1⟩ := ra_ins hr
  refine LenP.own h1 (du_Round_len T).1 (du_Round_len T).2 (p_rlen T) (by decide) ⟨r, bs, rfl, hr, _, rfl, by omega, by have := q3.l2; omega, ?_⟩
  refine ⟨by have := q3.l1; omega, ?_⟩
  have hnp : 0 ≤ (ph + 1) % (bs.length : Int) := Int.emod_nonneg _ (by have := q3.l1; omega)
  refine ⟨_, rfl, by omega, by omega, ?_⟩
  by_cases hlen : (z.length : Int) = p
  · -- nothing is allowed
    have e0 : mostA z p bs ph = 0 := by unfold mostA; rw [if_pos hlen]
    rw [e0] at q ⊢
    refine for_range (n := 0) (fun i σ H' => H' = H ∧ ∃ o, σ = [some (.ref k), some (.str z), some (.int p), some (.ref r), some (.int ph), some (.int 0), some (.int ((ph + 1) % (bs.length : Int))), some (.str z), o]) ⟨rfl, none, rfl⟩ (fun i σ H' hi => absurd hi (Nat.not_lt_zero _)) ?_
    rintro σ H' ⟨rfl, o, rfl⟩
    exact q 0 _ (Int.le_refl _) (Int.le_refl _) Gr.refl
  · have hlt : (z.length : Int) < p := by omega
    refine for_range (fun i σ H' => Gr H H' ∧ ∃ (o : Option V) (y : Str), okW y = true ∧ y.length ≤ z.length ∧ σ = [some (.ref k), some (.str z), some (.int p), some (.ref r), some (.int ph), some (.int (mostA z p bs ph)), some (.int ((ph + 1) % (bs.length : Int))), some (.str y), o]) ⟨Gr.refl, none, z, m1, Nat.le_refl _, rfl⟩ ?_ ?_
    · rintro i σ H' hi ⟨k1, o, y, oy, ly, rfl⟩
      obtain ⟨dk, hk'⟩ := hk.gr k1
      refine MethP.own rfl hk' (cl_Thrifty T) (mt_Thrifty__leaves_safe T) (lkn (by decide)) ?_
      refine CallP.by (p_ls T) (by decide) ⟨k, m, y, p, (ph + 1) % (bs.length : Int), r, bs, rfl, ⟨dk, hk'⟩, hm, by omega, oy, m2, by omega, q2, hnp, hr.gr k1, q3, fun b H2 k2 => ?_⟩
      refine ite_i (fun _ => ?_) (fun _ => ?_)
      · exact q _ _ (by omega) (by omega) (k1.trans k2)
      · obtain ⟨c1, c2⟩ := car_ok (n := p) oy
        exact CallP.by (p_carry T) (by decide) ⟨y, p, rfl, by omega, oy, m2, by omega, k1.trans k2, _, _, c1, by omega, rfl⟩
    · rintro σ H' ⟨k1, o, y, oy, ly, rfl⟩
      exact q _ _ q1 (Int.le_refl _) k1
end
end Lw
namespace Lw
open PySem PySem.Spec PyProof.Rows L2 Cy Tx
/-- all but b stands as it was -/
def Gx (b : Addr) (H H' : Hp) : Prop := ∀ a o, a ≠ b → H a = some o → H' a = some o
theorem Gx.refl {b : Addr} {H : Hp} : Gx b H H := fun _ _ _ h => h
theorem Gx.trans {b : Addr} {H H1 H2 : Hp} (k : Gx b H H1) (l : Gx b H1 H2) : Gx b H H2 := fun a o n e => l a o n (k a o n e)
theorem Gx.gr {b : Addr} {H H1 : Hp} (k : Gr H H1) : Gx b H H1 := fun a o _ e => k a o e
theorem Gx.upd {b : Addr} {H : Hp} {o : HO} : Gx b H (upd H b o) := fun a u n e => by rw [upd_ne n]; exact e
/-- the draws' box -/
def BoxAt (H : Hp) (b : Addr) (n : Int) : Prop := ∃ b0 b1 b2 b3 : Int, H b = some (.lst [.int b0, .int b1, .int b2, .int b3]) ∧ 0 ≤ b0 ∧ 0 ≤ b1 ∧ b1 < 2147483647 ∧ 0 ≤ b2 ∧ b2 ≤ n ∧ 0 ≤ b3
theorem BoxAt.mono {H : Hp} {b : Addr} {n m : Int} (h : BoxAt H b n) (k : n ≤ m) : BoxAt H b m := by
  obtain ⟨b0, b1, b2, b3, h0, h1, h2, h3, h4, h5, h6⟩ := h
  exact ⟨b0, b1, b2, b3, h0, h1, h2, h3, h4, by omega, h6⟩
theorem BoxAt.gr {H H' : Hp} {b : Addr} {n : Int} (k : Gr H H') (h : BoxAt H b n) : BoxAt H' b n := by
  obtain ⟨b0, b1, b2, b3, h0, h'⟩ := h
  exact ⟨b0, b1, b2, b3, k _ _ h0, h'⟩
/-- the script, not the box -/
def KL (K : PySem.W.Frag) (a : Addr) (ns : List Int) : Prop := ∃ (o : Obj) (its : Array Value) (n : Nat), K.lookup a = some o ∧ o.cls = .type "list" ∧ o.dict = none ∧ o.data = .seq its n ∧ its.size ≤ sizeLine ∧ Vals (ns.map V.int) its.toList
def Sc (g : Wd) (H : Hp) (sc : Addr) (ns : List Int) (b : Addr) : Prop := (Rd H sc (.lst (ns.map V.int)) ∧ sc ≠ b) ∨ KL g.K sc ns
section
variable {g : Wd} {j : Nat} {H : Hp}
theorem Sc.sq {sc b : Addr} {ns : List Int} (h : Sc g H sc ns b) : SqL g.K H sc (ns.map V.int) := by
  rcases h with ⟨h, _⟩ | h
  · exact .inl h
  · exact .inr h
theorem Sc.gx {H' : Hp} {sc b : Addr} {ns : List Int} (k : Gx b H H') (h : Sc g H sc ns b) : Sc g H' sc ns b := by
  rcases h with ⟨h, n⟩ | h
  · refine .inl ⟨?_, n⟩
    rcases h with h | ⟨ob, h⟩
    · exact .inl (k _ _ n h)
    · exact .inr ⟨ob, k _ _ n h⟩
  · exact .inr h
theorem Sc.new {H' : Hp} {sc b : Addr} {ns : List Int} (h : SqL g.K H sc (ns.map V.int)) (k : Gr H H') (hb : H b = none) : Sc g H' sc ns b := by
  rcases h with h | h
  · refine .inl ⟨Rd.gr k h, fun e => ?_⟩
    rcases h with h | ⟨ob, h⟩
    · rw [e, hb] at h; cases h
    · rw [e, hb] at h; cases h
  · exact .inr h
def spTake (g : Wd) : Sp := fun vs H Q _ => ∃ (sc b : Addr) (m n : Int) (ns : List Int), vs = [.ref sc, .ref b, .int m] ∧ ns.length ≤ 63 ∧ Sc g H sc ns b ∧ BoxAt H b n ∧ n ≤ 10 ^ 9 ∧ 0 < m ∧ m ≤ 10 ^ 31 ∧ ∀ d H', 0 ≤ d → d < m → Gx b H H' → BoxAt H' b (n + 1) → Q (.int d) H'
theorem lg {x : Int} {k : Nat} (h0 : 0 ≤ x) (hk : 0 < k) (h : x < 2 ^ k) : x.natAbs.log2 < k := log2_lt hk (by
  have e : ((2 ^ k : Nat) : Int) = (2 : Int) ^ k := by simp
  omega)
theorem lg31 {x : Int} (h0 : 0 ≤ x) (h : x < 2147483648) : x.natAbs.log2 < 31 := lg h0 (by decide) (by simpa using h)
theorem lg100 {x : Int} (h0 : 0 ≤ x) (h : x ≤ 10 ^ 31) : x.natAbs.log2 < 110 := lg h0 (by decide) (by
  have : (10 : Int) ^ 31 < 2 ^ 110 := by decide
  omega)
abbrev nx1 (c1 c2 : Int) : Int := (c1 * 48271 + (c2 + 1) * 69621 + 12345) % 2147483647
theorem take2 {sc b : Addr} {m n c0 c1 c2 c3 : Int} {o3 o4 : Option V} {Q : VK} (D : Ends) (hD : D.rt = Q) (h0 : 0 ≤ c0) (h1 : 0 ≤ c1) (h1' : c1 < 2147483647) (h2 : 0 ≤ c2) (h2' : c2 ≤ n) (hn : n ≤ 10 ^ 9) (h3 : 0 ≤ c3) (hm : 0 < m) (hm2 : m ≤ 10 ^ 31)
    (hb : H b = some (.lst [.int c0, .int c1, .int c2, .int c3])) (h : ∀ d H', 0 ≤ d → d < m → Gx b H H' → BoxAt H' b (n + 1) → Q (.int d) H') :
    (tSeq (tIfS (cTest (tOp cGt (tOp (cIx g.K) (cV 1) (tC (.int 0))) (tC (.int 0)))) (tSeq (tAsg (tOp cMod (tCB (cInt) (tCons (tOp (cIx g.K) (cV 1) (tC (.int 0))) (tNil))) (cV 2)) (gName 4))
  (tSeq (tAsg (tOp cDiv (tOp (cIx g.K) (cV 1) (tC (.int 0))) (cV 2)) (gSub (cV 1) (tC (.int 0)) cSetIx))
  (tRet (cV 4)))) (tNext))
  (tSeq (tAsg (tOp (cAdd g.K noOw) (tOp (cIx g.K) (cV 1) (tC (.int 2))) (tC (.int 1))) (gSub (cV 1) (tC (.int 2)) cSetIx))
  (tSeq (tAsg (tOp cMod (tCB (cInt) (tCons (tOp (cAdd g.K noOw) (tOp (cAdd g.K noOw) (tOp cMul (tOp (cIx g.K) (cV 1) (tC (.int 1))) (tC (.int 48271))) (tOp cMul (tOp (cIx g.K) (cV 1) (tC (.int 2))) (tC (.int 69621)))) (tC (.int 12345))) (tNil))) (tC (.int 2147483647))) (gSub (cV 1) (tC (.int 1)) cSetIx))
  (tRet (tOp cMod (tOp cDiv (tOp cMod (tCB (cInt) (tCons (tOp (cAdd g.K noOw) (tOp cMul (tOp cDiv (tOp (cIx g.K) (cV 1) (tC (.int 1))) (tC (.int 16))) (tC (.int 40692))) (tOp cMul (tOp (cIx g.K) (cV 1) (tC (.int 2))) (tC (.int 7)))) (tNil))) (tC (.int 2147483399))) (tC (.int 8))) (cV 2)))))) D [some (.ref sc), some (.ref b), some (.int m), o3, o4] H := by
  subst hD
  refine IxR'.l (.of hb) (v := .int c0) rfl ?_
  refine ite_i (fun c => ?_) (fun c => ?_)
  · have c' := dt c
    refine IxR'.l (.of hb) (v := .int c0) rfl ⟨hm, ?_⟩
    refine IxR'.l (.of hb) (v := .int c0) rfl ⟨⟨hm, by have := lg100 (by omega) hm2; omega⟩, ?_⟩
    refine StIx.by hb (j := 0) rfl ?_
    exact h _ _ (Int.emod_nonneg _ (by omega)) (Int.emod_lt_of_pos _ hm) Gx.upd ⟨c0 / m, c1, c2, c3, upd_same, Int.ediv_nonneg h0 (by omega), h1, h1', h2, by omega, h3⟩
  · refine IxR'.l (.of hb) (v := .int c2) rfl ?_
    refine StIx.by hb (j := 2) rfl ?_
    have e1 : upd H b (.lst [.int c0, .int c1, .int (c2 + 1), .int c3]) b = some (.lst [.int c0, .int c1, .int (c2 + 1), .int c3]) := upd_same
    refine IxR'.l (.of e1) (v := .int c1) rfl ⟨?_, ?_⟩
    · show c1.natAbs.log2 + (48271 : Int).natAbs.log2 < 1000000
      have := lg31 h1 (by omega)
      have e : (48271 : Int).natAbs.log2 = 15 := by decide +kernel
      omega
    refine IxR'.l (.of e1) (v := .int (c2 + 1)) rfl ⟨?_, ?_⟩
    · show (c2 + 1).natAbs.log2 + (69621 : Int).natAbs.log2 < 1000000
      have := lg31 (x := c2 + 1) (by omega) (by omega)
      have e : (69621 : Int).natAbs.log2 = 16 := by decide +kernel
      omega
    refine ⟨(by decide : (0 : Int) < 2147483647), ?_⟩
    refine StIx.by e1 (j := 1) rfl ?_
    have x0 : 0 ≤ nx1 c1 c2 := Int.emod_nonneg _ (by decide)
    have x1 : nx1 c1 c2 < 2147483647 := Int.emod_lt_of_pos _ (by decide)
    have e2 : upd (upd H b (.lst [.int c0, .int c1, .int (c2 + 1), .int c3])) b (.lst [.int c0, .int (nx1 c1 c2), .int (c2 + 1), .int c3]) b = some (.lst [.int c0, .int (nx1 c1 c2), .int (c2 + 1), .int c3]) := upd_same
    refine IxR'.l (.of e2) (v := .int (nx1 c1 c2)) rfl ⟨⟨(by decide : (0 : Int) < 16), (by decide +kernel : (16 : Int).natAbs.log2 < 9000)⟩, ?_, ?_⟩
    · show (nx1 c1 c2 / 16).natAbs.log2 + (40692 : Int).natAbs.log2 < 1000000
      have := lg31 (x := nx1 c1 c2 / 16) (by omega) (by omega)
      have e : (40692 : Int).natAbs.log2 = 15 := by decide +kernel
      omega
    refine IxR'.l (.of e2) (v := .int (c2 + 1)) rfl ⟨?_, ?_⟩
    · show (c2 + 1).natAbs.log2 + (7 : Int).natAbs.log2 < 1000000
      have := lg31 (x := c2 + 1) (by omega) (by omega)
      have e : (7 : Int).natAbs.log2 = 2 := by decide +kernel
      omega
    refine ⟨(by decide : (0 : Int) < 2147483399), ⟨(by decide : (0 : Int) < 8), (by decide +kernel : (8 : Int).natAbs.log2 < 9000)⟩, hm, ?_⟩
    exact h _ _ (Int.emod_nonneg _ (by omega)) (Int.emod_lt_of_pos _ hm) (Gx.upd.trans Gx.upd) ⟨c0, nx1 c1 c2, c2 + 1, c3, upd_same, h0, x0, x1, by omega, by omega, h3⟩
theorem p_take (T : Top g) : FnG g 2 (gad g.K "_law_take") (spTake g) := fk__law_take T 0 fun vs H Q E ⟨sc, b, m, n, ns, ev, hl, hsc, ⟨b0, b1, b2, b3, hb, h0, h1, h1', h2, h2', h3⟩, hn, hm, hm2, h⟩ => by
  subst ev
  refine ⟨rfl, ?_⟩
  refine IxR'.l (.of hb) (v := .int b0) rfl ?_
  refine ite_i (fun c => ?_) (fun c => ?_)
  · refine IxR'.l (.of hb) (v := .int b3) rfl ?_
    refine LenP.l hsc.sq ?_
    rw [List.length_map]
    refine ite_i (fun c => ?_) (fun c => ?_)
    · have c' := dt c
      have hlt : b3.toNat < ns.length := by omega
      refine IxR'.l (.of hb) (v := .int b3) rfl ?_
      refine IxR'.l hsc.sq (v := .int (ns[b3.toNat]'hlt)) (at_of (j := b3.toNat) (by omega) (by simp [hlt])) ?_
      generalize ns[b3.toNat]'hlt = cell
      refine IxR'.l (.of hb) (v := .int b3) rfl ?_
      refine StIx.by hb (j := 3) rfl ?_
      have e1 : upd H b (.lst [.int b0, .int b1, .int b2, .int (b3 + 5)]) b = some (.lst [.int b0, .int b1, .int b2, .int (b3 + 5)]) := upd_same
      refine IxR'.l (.of e1) (v := .int b1) rfl ⟨?_, ?_⟩
      · show b1.natAbs.log2 + (31 : Int).natAbs.log2 < 1000000
        have := lg31 h1 (by omega)
        have e : (31 : Int).natAbs.log2 = 4 := by decide +kernel
        omega
      refine ⟨(by decide : (0 : Int) < 2147483647), ?_⟩
      refine StIx.by e1 (j := 1) rfl ?_
      have x0 : 0 ≤ (b1 * 31 + cell + 17) % 2147483647 := Int.emod_nonneg _ (by decide)
      have x1 : (b1 * 31 + cell + 17) % 2147483647 < 2147483647 := Int.emod_lt_of_pos _ (by decide)
      have e2 : upd (upd H b (.lst [.int b0, .int b1, .int b2, .int (b3 + 5)])) b (.lst [.int b0, .int ((b1 * 31 + cell + 17) % 2147483647), .int b2, .int (b3 + 5)]) b = some (.lst [.int b0, .int ((b1 * 31 + cell + 17) % 2147483647), .int b2, .int (b3 + 5)]) := upd_same
      refine ⟨⟨by decide, by decide, by decide⟩, ?_⟩
      refine ite_i (fun c => ?_) (fun c => ?_)
      · refine StIx.by e2 (j := 0) rfl ?_
        refine take2 _ rfl (c0 := if cell < 0 then -cell else cell) (by split <;> omega) x0 x1 h2 h2' hn (by omega) hm hm2 upd_same fun d H' d0 d1 k hB => h d H' d0 d1 (((Gx.upd.trans Gx.upd).trans Gx.upd).trans k) hB
      · exact take2 _ rfl h0 x0 x1 h2 h2' hn (by omega) hm hm2 e2 fun d H' d0 d1 k hB => h d H' d0 d1 ((Gx.upd.trans Gx.upd).trans k) hB
    · exact take2 _ rfl h0 h1 h1' h2 h2' hn h3 hm hm2 hb h
  · refine ite_i (fun z => Bool.noConfusion z) (fun _ => ?_)
    exact take2 _ rfl h0 h1 h1' h2 h2' hn h3 hm hm2 hb h
end
end Lw
namespace Lw
open PySem PySem.Spec PyProof.Rows L2 Cy Tx
section
variable {g : Wd} {j : Nat} {H : Hp}
theorem cut_map (l : List Int) (lo hi : Option Int) : ∃ l' : List Int, cutV (l.map V.int) lo hi = l'.map V.int ∧ l'.length ≤ l.length ∧ ∀ x ∈ l', x ∈ l := by
  refine ⟨(l.drop (HT.sIx (l.map V.int).length 0 lo)).take (HT.sIx (l.map V.int).length (l.map V.int).length hi - HT.sIx (l.map V.int).length 0 lo), ?_, ?_, fun x hx => List.mem_of_mem_drop (List.mem_of_mem_take hx)⟩
  · unfold cutV
    rw [List.map_take, List.map_drop]
  · rw [List.length_take, List.length_drop]
    omega
def spBox (g : Wd) : Sp := fun vs H Q _ => ∃ (sc : Addr) (a : Int) (ns : List Int), vs = [.ref sc, .int a] ∧ ns.length ≤ 63 ∧ SqL g.K H sc (ns.map V.int) ∧ 0 ≤ a ∧ a ≤ 100 ∧ ∀ b H', Gr H H' → H b = none → BoxAt H' b 0 → Q (.ref b) H'
theorem p_box (T : Top g) : FnG g 2 (gad g.K "_law_box") (spBox g) := fk__law_box T 0 fun vs H Q E ⟨sc, a, ns, ev, hl, hsc, ha, ha2, h⟩ => by
  subst ev
  obtain ⟨cs, ec, lc, _⟩ := cut_map ns none (some 63)
  refine ⟨rfl, SlP.l hsc fun r hr => ?_⟩
  rw [ec]
  refine SeqP.l rfl (.of upd_same) fun D hD => ?_
  refine lc_list (xs := cs.map V.int) (fun i H' => Gr H H' ∧ H' r = some (.lst (cs.map V.int)) ∧ ∃ ms : List Int, ms.length ≤ i ∧ H' D = some (.lst (ms.map V.int))) ?_ (fun i H' hi ⟨_, e, _⟩ => .of e) ?_ ?_
  · have hrD : r ≠ D := fun e => by rw [← e, upd_same] at hD; cases hD
    exact ⟨(Gr.new hr).trans (Gr.new hD), by rw [upd_ne hrD, upd_same], [], Nat.zero_le _, upd_same⟩
  · rintro i x H' hx ⟨k, e1, ms, lm, e2⟩
    rw [List.getElem?_map] at hx
    cases q : cs[i]? with
    | none => rw [q] at hx; cases hx
    | some y =>
      rw [q] at hx
      cases hx
      have hi : i < cs.length := (List.getElem?_eq_some_iff.mp q).1
      have hrD : r ≠ D := fun e => by
        rw [e, upd_same] at hD; cases hD
      have hD0 : H D = none := by
        rw [upd_ne (Ne.symm hrD)] at hD; exact hD
      refine ⟨rfl, ⟨(by decide : (0 : Int) < 1000003), ms.map V.int, e2, by rw [List.length_map, sizeLine_eq]; omega, gr_upd k hD0, by rw [upd_ne hrD]; exact e1, ms ++ [y % 1000003], ?_, ?_⟩⟩
      · rw [List.length_append]; simp; omega
      · rw [List.map_append]; exact upd_same
  · rintro H' ⟨k, e1, ms, lm, e2⟩
    refine SumP.l (.of e2) ⟨?_, ?_⟩
    · show (7919 : Int).natAbs.log2 + a.natAbs.log2 < 1000000
      have := lg31 ha (by omega)
      have e : (7919 : Int).natAbs.log2 = 12 := by decide +kernel
      omega
    refine ⟨(by decide : (0 : Int) < 2147483647), (by decide : 4 ≤ sizeLine), fun b hb => ?_⟩
    have hb0 : H b = none := by
      cases q : H b with
      | none => rfl
      | some o => have := k _ _ q; rw [hb] at this; cases this
    exact h b _ (k.trans (Gr.new hb)) hb0 ⟨_, _, _, _, upd_same, by decide, Int.emod_nonneg _ (by decide), Int.emod_lt_of_pos _ (by decide), by decide, by decide, ha⟩
theorem at_int {l : List Int} {d : Int} (h0 : 0 ≤ d) (h1 : d < l.length) : ∃ v, v ∈ l ∧ atI (l.map V.int) d = some (.int v) := by
  have hlt : d.toNat < l.length := by omega
  exact ⟨l[d.toNat]'hlt, List.getElem_mem hlt, at_of (j := d.toNat) (by omega) (by simp [hlt])⟩
theorem none_of {H H' : Hp} {b p : Addr} {o : HO} (k : Gx b H H') (hb : H b = some o) (hb' : ∃ u, H' b = some u) (h : H' p = none) : H p = none := by
  cases q : H p with
  | none => rfl
  | some u =>
    by_cases e : p = b
    · subst e
      obtain ⟨u', e'⟩ := hb'
      rw [h] at e'; cases e'
    · have := k _ _ e q
      rw [h] at this; cases this
theorem BoxAt.some {b : Addr} {n : Int} (h : BoxAt H b n) : ∃ o, H b = some o := by
  obtain ⟨b0, b1, b2, b3, h0, _⟩ := h
  exact ⟨_, h0⟩
theorem none_bx {H H' : Hp} {b p : Addr} {n m : Int} (k : Gx b H H') (hb : BoxAt H b n) (hb' : BoxAt H' b m) (h : H' p = none) : H p = none := by
  obtain ⟨o, e⟩ := hb.some
  exact none_of k e hb'.some h
def spPays (g : Wd) : Sp := fun vs H Q _ => ∃ (sc b : Addr) (n : Int) (ns : List Int), vs = [.ref sc, .ref b] ∧ ns.length ≤ 63 ∧ Sc g H sc ns b ∧ BoxAt H b n ∧ n ≤ 10 ^ 8 ∧ ∀ (p : Addr) (bs : List Int) (H' : Hp), BsOk bs → H p = none → Gx b H H' → H' p = some (.lst (bs.map V.int)) → Q (.ref p) H'
theorem p_pays (T : Top g) : FnG g 4 (gad g.K "_law_pays") (spPays g) := fk__law_pays T 2 fun vs H Q E ⟨sc, b, n, ns, ev, hl, hsc, hb, hn, h⟩ => by
  subst ev
  refine ⟨rfl, (by decide : 0 ≤ sizeLine), fun p hp => ?_⟩
  have k0 : Gx b H (upd H p (.lst [])) := Gx.gr (Gr.new hp)
  have pb : p ≠ b := fun e => by obtain ⟨o, z⟩ := hb.some; rw [← e, hp] at z; cases z
  refine CallP.by (p_take T) (by decide) ⟨sc, b, 12, n, ns, rfl, hl, hsc.gx k0, hb.gr (Gr.new hp), by omega, by decide, by decide, fun d H1 d0 d1 k1 hb1 => ?_⟩
  refine ⟨_, rfl, by omega, by omega, ?_⟩
  have hp1 : H1 p = some (.lst []) := k1 _ _ pb upd_same
  refine for_range (fun i σ H' => Gx b H H' ∧ BoxAt H' b (n + 1 + 2 * i) ∧ (∃ bs : List Int, bs.length = i ∧ (∀ x ∈ bs, 0 ≤ x ∧ x ≤ 10 ^ 30) ∧ H' p = some (.lst (bs.map V.int))) ∧ ∃ o1 o2, σ = [some (.ref sc), some (.ref b), some (.ref p), o1, o2])
    ⟨k0.trans k1, by simpa using hb1, ⟨[], rfl, fun x hx => (by cases hx), hp1⟩, none, none, rfl⟩ ?_ ?_
  · rintro i σ H' hi ⟨k2, hb2, ⟨bs, lb, bx, e2⟩, o1, o2, rfl⟩
    have hi' : (i : Int) < 13 := by omega
    refine ⟨⟨by decide, by decide, by decide⟩, (by decide : 6 ≤ sizeLine), fun q hq => ?_⟩
    have qp : q ≠ p := fun e => by rw [e, e2] at hq; cases hq
    have qb : q ≠ b := fun e => by obtain ⟨o, z⟩ := hb2.some; rw [← e, hq] at z; cases z
    refine CallP.by (p_take T) (by decide) ⟨sc, b, 6, n + 1 + 2 * i, ns, rfl, hl, hsc.gx (k2.trans (Gx.gr (Gr.new hq))), hb2.gr (Gr.new hq), by omega, by decide, by decide, fun d2 H3 d20 d21 k3 hb3 => ?_⟩
    have hq3 : H3 q = some (.lst (([2, 4, 9, 70, 70, 10 ^ 30 + 1] : List Int).map V.int)) := k3 _ _ qb upd_same
    obtain ⟨v, hv, ev⟩ := at_int (l := [2, 4, 9, 70, 70, 10 ^ 30 + 1]) d20 (by simpa using d21)
    have hv2 : 0 < v ∧ v ≤ 10 ^ 30 + 1 := by
      simp only [List.mem_cons, List.not_mem_nil, or_false] at hv
      rcases hv with rfl | rfl | rfl | rfl | rfl | rfl <;> decide
    refine IxR'.l (.of hq3) ev ?_
    have k4 := (k2.trans (Gx.gr (Gr.new (o := .lst (([2, 4, 9, 70, 70, 10 ^ 30 + 1] : List Int).map V.int)) hq))).trans k3
    have e4 : H3 p = some (.lst (bs.map V.int)) := k3 _ _ pb (by rw [upd_ne (Ne.symm qp)]; exact e2)
    refine IsLst.by rfl (.of e4) ?_
    refine CallP.by (p_take T) (by decide) ⟨sc, b, v, n + 1 + 2 * i + 1, ns, rfl, hl, hsc.gx k4, hb3, by omega, hv2.1, by have := hv2.2; omega, fun d3 H5 d30 d31 k5 hb5 => ?_⟩
    have e5 : H5 p = some (.lst (bs.map V.int)) := k5 _ _ pb e4
    refine AppP.by e5 (by rw [List.length_map, sizeLine_eq]; omega) ?_
    refine ⟨fun a o n1 e => ?_, ?_, ⟨bs ++ [d3], by rw [List.length_append, lb]; rfl, ?_, ?_⟩, _, _, rfl⟩
    · have ap : a ≠ p := fun e' => by rw [e', hp] at e; cases e
      rw [upd_ne ap]
      exact (k4.trans k5) _ _ n1 e
    · obtain ⟨c0, c1, c2, c3, z0, z1, z2, z3, z4, z5, z6⟩ := hb5
      exact ⟨c0, c1, c2, c3, by rw [upd_ne (Ne.symm pb)]; exact z0, z1, z2, z3, z4, by omega, z6⟩
    · intro x hx
      rcases List.mem_append.mp hx with hx | hx
      · exact bx x hx
      · rw [List.mem_singleton] at hx
        subst hx
        exact ⟨d30, by omega⟩
    · rw [List.map_append]; exact upd_same
  · rintro σ H' ⟨k2, hb2, ⟨bs, lb, bx, e2⟩, o1, o2, rfl⟩
    exact h p bs H' ⟨by omega, by omega, fun x hx => (bx x hx).1, fun x hx => (bx x hx).2⟩ hp k2 e2
end
end Lw
namespace Lw
open PySem PySem.Spec PyProof.Rows L2 Cy Tx
section
variable {g : Wd} {j : Nat} {H : Hp}
theorem RoundAt.gx {H' : Hp} {r b : Addr} {bs : List Int} {n : Int} (k : Gx b H H') (hb : BoxAt H b n) (h : RoundAt g H r bs) : RoundAt g H' r bs := by
  obtain ⟨dx, t, h1, h2⟩ := h
  obtain ⟨b0, b1, b2, b3, z, _⟩ := hb
  exact ⟨dx, t, k _ _ (fun e => by rw [e, z] at h1; cases h1) h1, k _ _ (fun e => by rw [e, z] at h2; cases h2) h2⟩
def spRnd (g : Wd) : Sp := fun vs H Q _ => ∃ (p : Addr) (bs : List Int), vs = [.ref p] ∧ H p = some (.lst (bs.map V.int)) ∧ BsOk bs ∧ ∀ r H', Gr H H' → RoundAt g H' r bs → Q (.ref r) H'
theorem take_succ' {l : List Int} {i : Nat} {x : Int} (h : l[i]? = some x) : l.take (i + 1) = l.take i ++ [x] := by
  rw [List.take_succ, h]; rfl
theorem cut1 (l : List Int) : cutV (l.map V.int) (some 1) none = (l.drop 1).map V.int := by
  unfold cutV
  rw [show (1 : Int) = ((1 : Nat) : Int) from rfl, HT.sIx_nat, HT.sIx_none, List.map_drop]
  by_cases q : 1 ≤ (l.map V.int).length
  · rw [Nat.min_eq_left q]
    exact List.take_of_length_le (by rw [List.length_drop]; exact Nat.le_refl _)
  · have e : l.map V.int = [] := List.eq_nil_of_length_eq_zero (by omega)
    rw [e]; rfl
theorem p_round (T : Top g) : FnG g 13 (gad g.K "_law_round") (spRnd g) := fk__law_round T 11 fun vs H Q E ⟨p, bs, ev, hp, hb, h⟩ => by
  subst ev
  have l1 := hb.l1
  have l2 := hb.l2
  obtain ⟨b0, r0, rfl⟩ : ∃ b0 r0, bs = b0 :: r0 := by
    cases bs with
    | nil => simp at l1
    | cons a r => exact ⟨a, r, rfl⟩
  refine ⟨rfl, IxR'.l (.of hp) (v := .int b0) (at_of (j := 0) rfl rfl) ?_⟩
  refine mk_round T (bs := [b0]) (by decide) (by simp) (by simp) (fun x hx => by
    rw [List.mem_singleton] at hx; subst hx; exact hb.nn _ (List.mem_cons_self ..)) fun r H1 k1 hr0 ra => ?_
  refine SlP.l (.of (k1 _ _ hp)) fun q hq => ?_
  rw [cut1]
  refine SeqP.l rfl (.of upd_same) ?_
  have k2 := k1.trans (Gr.new (o := .lst (((b0 :: r0).drop 1).map V.int)) hq)
  refine for_list (xs := ((b0 :: r0).drop 1).map V.int) (fun i σ H' => Gr H H' ∧ H' q = some (.lst (((b0 :: r0).drop 1).map V.int)) ∧ ∃ r o, RoundAt g H' r ((b0 :: r0).take (i + 1)) ∧ σ = [some (.ref p), some (.ref r), o])
    ⟨k2, upd_same, r, none, ra.gr (Gr.new hq), rfl⟩ (fun i σ H' hi ⟨_, e, _⟩ => .of e) ?_ ?_
  · rintro i x σ H' hx ⟨k3, e3, r', o, ra', rfl⟩
    rw [List.getElem?_map] at hx
    cases qx : ((b0 :: r0).drop 1)[i]? with
    | none => rw [qx] at hx; cases hx
    | some y =>
      rw [qx] at hx
      cases hx
      have ey : (b0 :: r0)[i + 1]? = some y := by rw [List.getElem?_drop] at qx; rw [Nat.add_comm]; exact qx
      have hi : i + 1 < (b0 :: r0).length := (List.getElem?_eq_some_iff.mp ey).1
      have hy : y ∈ b0 :: r0 := List.mem_of_getElem? ey
      refine mk_round T (bs := [y]) (by decide) (by simp) (by simp) (fun x hx => by
        rw [List.mem_singleton] at hx; subst hx; exact hb.nn _ hy) fun r2 H4 k4 hr2 ra2 => ?_
      obtain ⟨dx1, t1, i1, i2⟩ := ra'.gr k4
      obtain ⟨dx2, t2, j1, j2⟩ := id ra2
      refine AddR.own (OwAdd.by i1 j1 (sf_Round T) (du_Round_add T).1 (du_Round_add T).2 (p_radd T) (by decide) ?_)
      refine ⟨r', r2, _, _, rfl, ⟨dx1, t1, i1, i2⟩, ra2, ?_, by simp, ?_, ?_, fun s H5 k5 hs ra5 => ?_⟩
      · intro e
        have := congrArg List.length e
        rw [List.length_take] at this
        simp at this
      · rw [List.length_take]; simp at l2 hi ⊢; omega
      · intro x hx
        rcases List.mem_append.mp hx with z | z
        · exact hb.nn _ (List.mem_of_mem_take z)
        · rw [List.mem_singleton] at z; subst z; exact hb.nn _ hy
      · refine ⟨(k3.trans k4).trans k5, k5 _ _ (k4 _ _ e3), s, _, ?_, rfl⟩
        rw [take_succ' ey]
        exact ra5
  · rintro σ H' ⟨k3, e3, r', o, ra', rfl⟩
    refine h r' H' k3 ?_
    have e : (b0 :: r0).take ((((b0 :: r0).drop 1).map V.int).length + 1) = b0 :: r0 := by
      rw [List.length_map, List.length_drop]
      exact List.take_of_length_le (by simp)
    rw [e] at ra'
    exact ra'
/-- a word -/
def spWord (g : Wd) : Sp := fun vs H Q _ => ∃ (sc b : Addr) (w n : Int) (ns : List Int), vs = [.ref sc, .ref b, .int w] ∧ ns.length ≤ 63 ∧ Sc g H sc ns b ∧ BoxAt H b n ∧ n ≤ 10 ^ 8 ∧ 1 ≤ w ∧ w ≤ 64 ∧ ∀ (z : Str) (H' : Hp), okW z = true → (z.length : Int) ≤ w → Gx b H H' → BoxAt H' b (n + 80) → Q (.str z) H'
theorem okL_app {l : List Nat} {c : Nat} (h : okL l = true) (hl : l ≠ []) (hc : Bit c = true) : okL (l ++ [c]) = true := by
  unfold okL at h ⊢
  obtain ⟨h1, h2⟩ := Bool.and_eq_true_iff.mp h
  have e : (l ++ [c]).head? = l.head? := by
    cases l with
    | nil => exact absurd rfl hl
    | cons a r => rfl
  rw [e, h1, List.all_append, h2]
  simp [hc]
theorem bit01 (k : Bool) : ∃ c, atI ("01" : Str).cps.toList (if k = true then 1 else 0) = some c ∧ Bit c = true := by
  cases k with
  | true => exact ⟨49, by decide +kernel, by decide⟩
  | false => exact ⟨48, by decide +kernel, by decide⟩
theorem p_word (T : Top g) : FnG g 4 (gad g.K "_law_word") (spWord g) := fk__law_word T 2 fun vs H Q E ⟨sc, b, w, n, ns, ev, hl, hsc, hb, hn, w1, w2, h⟩ => by
  subst ev
  refine ⟨rfl, CallP.by (p_take T) (by decide) ⟨sc, b, w + 1, n, ns, rfl, hl, hsc, hb, by omega, by omega, by omega, fun s0 H1 s00 s01 k1 hb1 => ?_⟩⟩
  refine CallP.by (p_take T) (by decide) ⟨sc, b, 5, n + 1, ns, rfl, hl, hsc.gx k1, hb1, by omega, by decide, by decide, fun wy H2 wy0 wy1 k2 hb2 => ?_⟩
  have k12 := k1.trans k2
  -- the tail, for any size to w
  have tail : ∀ (s : Int), 0 ≤ s → s ≤ w → tSeq (tIfS (cTest (tOp (cEqN g.K false) (cV 3) (tC (.int 0)))) (tRet (tC (.str ""))) (tNext))
    (tSeq (tAsg (cCall g 2 (fun cls d _ H => E cls d H) (gad g.K "_law_take") (tCons (cV 0) (tCons (cV 1) (tCons (tC (.int 3)) (tNil))))) (gName 5))
    (tSeq (tAsg (tC (.str "1")) (gName 6))
    (tSeq (tFor (iRng1 (tCons (tOp cSub (cV 3) (tC (.int 1))) (tNil))) (gName 7) (tSeq (tAsg (cCall g 2 (fun cls d _ H => E cls d H) (gad g.K "_law_take") (tCons (cV 0) (tCons (cV 1) (tCons (tOp (cIx g.K) (tLst (tCons (tC (.int 2)) (tCons (tC (.int 5)) (tCons (tC (.int 5)) (tNil))))) (cV 5)) (tNil))))) (gName 8))
    (tAsg (tOp (cAdd g.K noOw) (cV 6) (tOp (cIx g.K) (tC (.str "01")) (tCB (cInt) (tCons (cOrV (tOp (cEqN g.K false) (cV 8) (tC (.int 1))) (cAndV (tOp (cEqN g.K false) (cV 5) (tC (.int 2))) (tOp cGt (cV 8) (tC (.int 0))))) (tNil))))) (gName 6))))
    (tRet (cV 6))))) { nx := fun _ H1 => Q .non H1, rt := Q } [some (.ref sc), some (.ref b), some (.int w), some (.int s), some (.int wy), none, none, none, none] H2 := fun s s0 s1 => by
    refine ite_i (fun c => ?_) (fun c => ?_)
    · exact h "" H2 (by decide +kernel) (by rw [show ("" : Str).length = 0 from by decide +kernel]; omega) k12 (hb2.mono (by omega))
    have sn : ¬ s = 0 := by
      intro e; subst e; exact Bool.noConfusion c
    refine CallP.by (p_take T) (by decide) ⟨sc, b, 3, n + 1 + 1, ns, rfl, hl, hsc.gx k12, hb2, by omega, by decide, by decide, fun kd H3 kd0 kd1 k3 hb3 => ?_⟩
    refine ⟨_, rfl, by omega, by omega, ?_⟩
    refine for_range (fun i σ H' => Gx b H H' ∧ BoxAt H' b (n + 3 + i) ∧ ∃ (z : Str) (o1 o2 : Option V), okW z = true ∧ z.length = i + 1 ∧ σ = [some (.ref sc), some (.ref b), some (.int w), some (.int s), some (.int wy), some (.int kd), some (.str z), o1, o2])
      ⟨k12.trans k3, hb3.mono (by omega), "1", none, none, by decide +kernel, len1, rfl⟩ ?_ ?_
    · rintro i σ H' hi ⟨k4, hb4, z, o1, o2, oz, lz, rfl⟩
      refine ⟨(by decide : 3 ≤ sizeLine), fun q hq => ?_⟩
      obtain ⟨v, hv, ev⟩ := at_int (l := [2, 5, 5]) kd0 (by simpa using kd1)
      have hv2 : 0 < v ∧ v ≤ 5 := by
        simp only [List.mem_cons, List.not_mem_nil, or_false] at hv
        rcases hv with rfl | rfl | rfl <;> decide
      refine IxR'.l (xs := ([2, 5, 5] : List Int).map V.int) (.of upd_same) ev ?_
      refine CallP.by (p_take T) (by decide) ⟨sc, b, v, n + 3 + i, ns, rfl, hl, hsc.gx (k4.trans (Gx.gr (Gr.new hq))), hb4.gr (Gr.new hq), by omega, hv2.1, by omega, fun d H5 d0 d1 k5 hb5 => ?_⟩
      have k6 := (k4.trans (Gx.gr (Gr.new (o := .lst (([2, 5, 5] : List Int).map V.int)) hq))).trans k5
      have fin : ∀ k : Bool, (("01" : Str).length ≤ sizeLine ∧ ∃ c, atI ("01" : Str).cps.toList (if k = true then 1 else 0) = some c ∧ (z.length + (⟨#[c]⟩ : Str).length ≤ sizeLine ∧
          (Gx b H H5 ∧ BoxAt H5 b (n + 3 + (i + 1 : Nat)) ∧ ∃ (z' : Str) (o1 o2 : Option V), okW z' = true ∧ z'.length = i + 1 + 1 ∧ [some (.ref sc), some (.ref b), some (.int w), some (.int s), some (.int wy), some (.int kd), some (.str (z ++ ⟨#[c]⟩)), some (.int (0 + i)), some (.int d)] = [some (.ref sc), some (.ref b), some (.int w), some (.int s), some (.int wy), some (.int kd), some (.str z'), o1, o2]))) := fun k => by
        obtain ⟨c, hc, bc⟩ := bit01 k
        refine ⟨by decide +kernel, c, hc, ?_, k6, hb5.mono (by omega), z ++ ⟨#[c]⟩, _, _, ?_, ?_, rfl⟩
        · show z.length + 1 ≤ sizeLine
          rw [sizeLine_eq]; omega
        · rw [okW_eq] at oz ⊢
          rw [ls_app]
          refine okL_app oz (fun e => ?_) bc
          rw [ls_len, e] at lz
          simp at lz
        · rw [len_app, lz]
          rfl
      refine ite_i (fun _ => fin true) (fun _ => ?_)
      refine ite_i (fun _ => fin _) (fun _ => fin false)
    · rintro σ H' ⟨k4, hb4, z, o1, o2, oz, lz, rfl⟩
      exact h z H' oz (by omega) k4 (hb4.mono (by omega))
  have d4 : CDivW 0 4 := ⟨(by decide : (0 : Int) < 4), (by decide +kernel : (4 : Int).natAbs.log2 < 9000)⟩
  have step : ∀ (s : Int), 0 ≤ s → s ≤ w → 0 ≤ max 0 (w - 1 - s / 4) ∧ max 0 (w - 1 - s / 4) ≤ w := fun s a b => by omega
  refine ite_i (fun c => ?_) (fun c => ?_)
  · refine ite_i (fun c => ?_) (fun c => ?_)
    · refine ite_i (fun _ => ?_) (fun z => Bool.noConfusion z)
      exact ⟨d4, tail _ (step w (by omega) (by omega)).1 (step w (by omega) (by omega)).2⟩
    · refine ite_i (fun _ => ?_) (fun _ => tail w (by omega) (by omega))
      exact ⟨d4, tail _ (step w (by omega) (by omega)).1 (step w (by omega) (by omega)).2⟩
  · refine ite_i (fun c => ?_) (fun c => ?_)
    · refine ite_i (fun _ => ?_) (fun z => Bool.noConfusion z)
      exact ⟨d4, tail _ (step s0 s00 (by omega)).1 (step s0 s00 (by omega)).2⟩
    · refine ite_i (fun _ => ?_) (fun _ => tail s0 s00 (by omega))
      exact ⟨d4, tail _ (step s0 s00 (by omega)).1 (step s0 s00 (by omega)).2⟩
end
end Lw
namespace Lw
open PySem PySem.Spec PyProof.Rows L2 Cy Tx
section
variable {g : Wd} {j : Nat} {H : Hp}
/-- a standing [word, places, phase] -/
structure StV (z : Str) (w t : Int) : Prop where
  ok : okW z = true
  w1 : 1 ≤ w
  w2 : w ≤ 64
  lz : (z.length : Int) ≤ w
  t0 : 0 ≤ t
  t1 : t < 10 ^ 6
def Stn (H : Hp) (p : Addr) (z : Str) (w t : Int) : Prop := H p = some (.lst [.str z, .int w, .int t]) ∧ StV z w t
def spStand (g : Wd) : Sp := fun vs H Q _ => ∃ (sc b : Addr) (n : Int) (ns : List Int), vs = [.ref sc, .ref b] ∧ ns.length ≤ 63 ∧ Sc g H sc ns b ∧ BoxAt H b n ∧ n ≤ 10 ^ 7 ∧ ∀ (p : Addr) (z : Str) (w t : Int) (H' : Hp), H p = none → Gx b H H' → BoxAt H' b (n + 100) → Stn H' p z w t → Q (.ref p) H'
theorem p_stand (T : Top g) : FnG g 6 (gad g.K "_law_stand") (spStand g) := fk__law_stand T 4 fun vs H Q E ⟨sc, b, n, ns, ev, hl, hsc, hb, hn, h⟩ => by
  subst ev
  refine ⟨rfl, (by decide : 3 ≤ sizeLine), fun q hq => ?_⟩
  have qb : q ≠ b := fun e => by obtain ⟨o, z⟩ := hb.some; rw [← e, hq] at z; cases z
  have k0 : Gx b H (upd H q (.lst (([6, 64, 64] : List Int).map V.int))) := Gx.gr (Gr.new hq)
  refine CallP.by (p_take T) (by decide) ⟨sc, b, 3, n, ns, rfl, hl, hsc.gx k0, hb.gr (Gr.new hq), by omega, by decide, by decide, fun d H1 d0 d1 k1 hb1 => ?_⟩
  obtain ⟨v, hv, ev⟩ := at_int (l := [6, 64, 64]) d0 (by simpa using d1)
  have hv2 : 6 ≤ v ∧ v ≤ 64 := by
    simp only [List.mem_cons, List.not_mem_nil, or_false] at hv
    rcases hv with rfl | rfl | rfl <;> decide
  refine IxR'.l (.of (k1 _ _ qb upd_same)) ev ?_
  have k01 := k0.trans k1
  refine CallP.by (p_take T) (by decide) ⟨sc, b, v, n + 1, ns, rfl, hl, hsc.gx k01, hb1, by omega, by omega, by omega, fun wd H2 wd0 wd1 k2 hb2 => ?_⟩
  have k02 := k01.trans k2
  refine ⟨⟨by decide, by decide, by decide⟩, (by decide : 3 ≤ sizeLine), fun q2 hq2 => ?_⟩
  have q2b : q2 ≠ b := fun e => by obtain ⟨o, z⟩ := hb2.some; rw [← e, hq2] at z; cases z
  have k3 : Gx b H2 (upd H2 q2 (.lst (([12, 12, 10 ^ 6] : List Int).map V.int))) := Gx.gr (Gr.new hq2)
  have hb3 := hb2.gr (Gr.new (o := .lst (([12, 12, 10 ^ 6] : List Int).map V.int)) hq2)
  refine CallP.by (p_take T) (by decide) ⟨sc, b, 3, n + 2, ns, rfl, hl, hsc.gx (k02.trans k3), hb3.mono (by omega), by omega, by decide, by decide, fun d2 H4 d20 d21 k4 hb4 => ?_⟩
  obtain ⟨u, hu, eu⟩ := at_int (l := [12, 12, 10 ^ 6]) d20 (by simpa using d21)
  have hu2 : 0 < u ∧ u ≤ 10 ^ 6 := by
    simp only [List.mem_cons, List.not_mem_nil, or_false] at hu
    rcases hu with rfl | rfl | rfl <;> decide
  refine IxR'.l (.of (k4 _ _ q2b upd_same)) eu ?_
  have k04 := (k02.trans k3).trans k4
  refine CallP.by (p_take T) (by decide) ⟨sc, b, u, n + 3, ns, rfl, hl, hsc.gx k04, hb4.mono (by omega), by omega, by omega, by omega, fun t H5 t0 t1 k5 hb5 => ?_⟩
  have k05 := k04.trans k5
  refine CallP.by (p_word T) (by decide) ⟨sc, b, 1 + wd, n + 4, ns, rfl, hl, hsc.gx k05, hb5.mono (by omega), by omega, by omega, by omega, fun z H6 oz lz k6 hb6 => ?_⟩
  have k06 := k05.trans k6
  refine ⟨(by decide : 3 ≤ sizeLine), fun p hp => ?_⟩
  have hp0 : H p = none := none_bx k06 hb hb6 hp
  exact h p z (1 + wd) t _ hp0 (k06.trans (Gx.gr (Gr.new hp))) ((hb6.gr (Gr.new hp)).mono (by omega)) ⟨upd_same, oz, by omega, by omega, lz, t0, by omega⟩
theorem Stn.gx {H' : Hp} {b p : Addr} {n : Int} {z : Str} {w t : Int} (k : Gx b H H') (hb : BoxAt H b n) (h : Stn H p z w t) : Stn H' p z w t := by
  refine ⟨k _ _ (fun e => ?_) h.1, h.2⟩
  obtain ⟨b0, b1, b2, b3, z0, _⟩ := hb
  have h1 := h.1
  rw [e, z0] at h1
  have h2 := HO.lst.inj (Option.some.inj h1)
  have h3 := congrArg List.length h2
  simp at h3
theorem Stn.gr {H' : Hp} {p : Addr} {z : Str} {w t : Int} (k : Gr H H') (h : Stn H p z w t) : Stn H' p z w t := ⟨k _ _ h.1, h.2⟩
/-- the list of two standings -/
structure Sts (H : Hp) (s p1 p2 : Addr) (z1 : Str) (w1 t1 : Int) (z2 : Str) (w2 t2 : Int) : Prop where
  l : H s = some (.lst [.ref p1, .ref p2])
  s1 : Stn H p1 z1 w1 t1
  s2 : Stn H p2 z2 w2 t2
theorem Sts.gx {H' : Hp} {b s p1 p2 : Addr} {n : Int} {z1 z2 : Str} {w1 t1 w2 t2 : Int} (k : Gx b H H') (hb : BoxAt H b n) (h : Sts H s p1 p2 z1 w1 t1 z2 w2 t2) : Sts H' s p1 p2 z1 w1 t1 z2 w2 t2 := by
  refine ⟨k _ _ (fun e => ?_) h.l, h.s1.gx k hb, h.s2.gx k hb⟩
  obtain ⟨b0, b1, b2, b3, z0, _⟩ := hb
  have h1 := h.l
  rw [e, z0] at h1
  have h3 := congrArg List.length (HO.lst.inj (Option.some.inj h1))
  simp at h3
theorem Sts.gr {H' : Hp} {s p1 p2 : Addr} {z1 z2 : Str} {w1 t1 w2 t2 : Int} (k : Gr H H') (h : Sts H s p1 p2 z1 w1 t1 z2 w2 t2) : Sts H' s p1 p2 z1 w1 t1 z2 w2 t2 := ⟨k _ _ h.l, h.s1.gr k, h.s2.gr k⟩
theorem Sts.at {s p1 p2 : Addr} {z1 z2 : Str} {w1 t1 w2 t2 : Int} (h : Sts H s p1 p2 z1 w1 t1 z2 w2 t2) {d : Int} (h0 : 0 ≤ d) (h1 : d < 2) : ∃ (p : Addr) (z : Str) (w t : Int), atI [V.ref p1, .ref p2] d = some (.ref p) ∧ Stn H p z w t := by
  have : d = 0 ∨ d = 1 := by omega
  rcases this with rfl | rfl
  · exact ⟨p1, z1, w1, t1, at_of (j := 0) rfl rfl, h.s1⟩
  · exact ⟨p2, z2, w2, t2, at_of (j := 1) rfl rfl, h.s2⟩
def MkOk (m : Int) : Prop := 0 ≤ m ∧ m ≤ 10 ^ 31
def spMarks (g : Wd) : Sp := fun vs H Q _ => ∃ (sc b s p1 p2 : Addr) (n : Int) (ns : List Int) (z1 : Str) (w1 t1 : Int) (z2 : Str) (w2 t2 : Int), vs = [.ref sc, .ref b, .ref s] ∧ ns.length ≤ 63 ∧ Sc g H sc ns b ∧ BoxAt H b n ∧ n ≤ 10 ^ 7 ∧ Sts H s p1 p2 z1 w1 t1 z2 w2 t2 ∧
  ∀ (p : Addr) (m0 m1 m2 : Int) (H' : Hp), H p = none → Gx b H H' → BoxAt H' b (n + 100) → MkOk m0 → MkOk m1 → MkOk m2 → H' p = some (.lst [.int m0, .int m1, .int m2]) → Q (.ref p) H'
theorem p_marks (T : Top g) : FnG g 4 (gad g.K "_law_marks") (spMarks g) := fk__law_marks T 2 fun vs H Q E ⟨sc, b, s, p1, p2, n, ns, z1, w1, t1, z2, w2, t2, ev, hl, hsc, hb, hn, hs, h⟩ => by
  subst ev
  refine ⟨rfl, (by decide : 0 ≤ sizeLine), fun p hp => ?_⟩
  have k0 : Gx b H (upd H p (.lst [])) := Gx.gr (Gr.new hp)
  have pb : p ≠ b := fun e => by obtain ⟨o, z⟩ := hb.some; rw [← e, hp] at z; cases z
  refine ⟨3, rfl, by decide, by decide, ?_⟩
  refine for_range (fun i σ H' => Gx b H H' ∧ BoxAt H' b (n + 3 * i) ∧ (∃ ms : List Int, ms.length = i ∧ (∀ x ∈ ms, MkOk x) ∧ H' p = some (.lst (ms.map V.int))) ∧ ∃ o1 o2 o3 o4, σ = [some (.ref sc), some (.ref b), some (.ref s), some (.ref p), o1, o2, o3, o4])
    ⟨k0, by simpa using hb.gr (Gr.new hp), ⟨[], rfl, fun x hx => (by cases hx), upd_same⟩, none, none, none, none, rfl⟩ ?_ ?_
  · rintro i σ H1 hi ⟨k1, hb1, ⟨ms, lm, mx, e1⟩, o1, o2, o3, o4, rfl⟩
    have hi' : (i : Int) < 3 := by omega
    have hs1 := hs.gx k1 hb
    refine CallP.by (p_take T) (by decide) ⟨sc, b, 4, n + 3 * i, ns, rfl, hl, hsc.gx k1, hb1, by omega, by decide, by decide, fun wy H2 wy0 wy1 k2 hb2 => ?_⟩
    have hs2 := hs1.gx k2 hb1
    refine CallP.by (p_take T) (by decide) ⟨sc, b, 2, n + 3 * i + 1, ns, rfl, hl, hsc.gx (k1.trans k2), hb2, by omega, by decide, by decide, fun sd H3 sd0 sd1 k3 hb3 => ?_⟩
    have hs3 := hs2.gx k3 hb2
    obtain ⟨ps, zs, ws, ts, es, hst⟩ := hs3.at sd0 sd1
    refine IxR'.l (.of hs3.l) es ?_
    have k03 := (k1.trans k2).trans k3
    have e3 : H3 p = some (.lst (ms.map V.int)) := k3 _ _ pb (k2 _ _ pb e1)
    refine ⟨⟨by decide, by decide, by decide⟩, (by decide : 4 ≤ sizeLine), fun q hq => ?_⟩
    have qp : p ≠ q := fun e => by rw [← e, e3] at hq; cases hq
    obtain ⟨u, hu, eu⟩ := at_int (l := [71, 10 ^ 30 + 1, 3, 3]) wy0 (by simpa using wy1)
    have hu2 : 0 < u ∧ u ≤ 10 ^ 30 + 1 := by
      simp only [List.mem_cons, List.not_mem_nil, or_false] at hu
      rcases hu with rfl | rfl | rfl | rfl <;> decide
    refine IxR'.l (xs := ([71, 10 ^ 30 + 1, 3, 3] : List Int).map V.int) (.of upd_same) eu ?_
    have k4 : Gx b H3 (upd H3 q (.lst (([71, 10 ^ 30 + 1, 3, 3] : List Int).map V.int))) := Gx.gr (Gr.new hq)
    have hb4 := hb3.gr (Gr.new (o := .lst (([71, 10 ^ 30 + 1, 3, 3] : List Int).map V.int)) hq)
    refine CallP.by (p_take T) (by decide) ⟨sc, b, u, n + 3 * i + 2, ns, rfl, hl, hsc.gx (k03.trans k4), hb4.mono (by omega), by omega, hu2.1, by have := hu2.2; omega, fun m H5 m0 m1 k5 hb5 => ?_⟩
    have hst5 : Stn H5 ps zs ws ts := ((hst.gr (Gr.new hq)).gx k5 hb4)
    have e5 : H5 p = some (.lst (ms.map V.int)) := k5 _ _ pb (by rw [upd_ne qp]; exact e3)
    have k05 := (k03.trans k4).trans k5
    have fin : ∀ x : Int, MkOk x → (Gx b H (upd H5 p (.lst (ms.map V.int ++ [V.int x]))) ∧ BoxAt (upd H5 p (.lst (ms.map V.int ++ [V.int x]))) b (n + 3 * ((i + 1 : Nat) : Int)) ∧ (∃ ms' : List Int, ms'.length = i + 1 ∧ (∀ y ∈ ms', MkOk y) ∧ (upd H5 p (.lst (ms.map V.int ++ [V.int x]))) p = some (.lst (ms'.map V.int)))) := fun x hx => by
      refine ⟨fun a o n1 e => ?_, ?_, ms ++ [x], by rw [List.length_append, lm]; rfl, fun y hy => ?_, ?_⟩
      · have ap : a ≠ p := fun e' => by rw [e', hp] at e; cases e
        rw [upd_ne ap]
        exact k05 _ _ n1 e
      · obtain ⟨c0, c1, c2, c3, y0, y1, y2, y3, y4, y5, y6⟩ := hb5
        exact ⟨c0, c1, c2, c3, by rw [upd_ne (Ne.symm pb)]; exact y0, y1, y2, y3, y4, by omega, y6⟩
      · rcases List.mem_append.mp hy with hy | hy
        · exact mx y hy
        · rw [List.mem_singleton] at hy; subst hy; exact hx
      · rw [List.map_append]; exact upd_same
    have mu := hu2.2
    have app : ∀ (x : Int) (o : Option V), MkOk x → IsLst g.K (.ref p) H5 fun p' => AppP p' (.int x) H5 fun _ H6 => (fun (σ : L2.St) (H' : Hp) => Gx b H H' ∧ BoxAt H' b (n + 3 * ((i + 1 : Nat) : Int)) ∧ (∃ ms' : List Int, ms'.length = i + 1 ∧ (∀ y ∈ ms', MkOk y) ∧ H' p = some (.lst (ms'.map V.int))) ∧ ∃ o1 o2 o3 o4, σ = [some (.ref sc), some (.ref b), some (.ref s), some (.ref p), o1, o2, o3, o4]) [some (.ref sc), some (.ref b), some (.ref s), some (.ref p), some (.int (0 + (i : Int))), some (.int wy), some (.ref ps), some (.int x)] H6 := fun x o hx => by
      refine IsLst.by rfl (.of e5) (AppP.by e5 (by rw [List.length_map, sizeLine_eq]; omega) ?_)
      obtain ⟨f1, f2, f3⟩ := fin x hx
      exact ⟨f1, f2, f3, _, _, _, _, rfl⟩
    refine ite_i (fun c => ?_) (fun c => ?_)
    · refine IxR'.l (.of hst5.1) (v := .int ws) rfl ?_
      refine IxR'.l (.of hst5.1) (v := .str zs) rfl ⟨ml (by have := hst5.2.lz; have := hst5.2.w2; omega), ?_⟩
      refine app _ none ⟨by omega, ?_⟩
      have := hst5.2.w2
      omega
    · exact app _ none ⟨m0, by omega⟩
  · rintro σ H' ⟨k1, hb1, ⟨ms, lm, mx, e1⟩, o1, o2, o3, o4, rfl⟩
    match ms, lm, mx, e1 with
    | [a0, a1, a2], lm, mx, e1 =>
      exact h p a0 a1 a2 H' hp k1 (hb1.mono (by omega)) (mx _ (by simp)) (mx _ (by simp)) (mx _ (by simp)) e1
end
end Lw
namespace Lw
open PySem PySem.Spec PyProof.Rows L2 Cy Tx
section
variable {g : Wd} {j : Nat} {H : Hp}
def spIc : Sp := fun vs H Q _ => ∃ i : Int, vs = [.int i] ∧ Q (.bl true) H
theorem p_ic (T : Top g) : FnG g 2 (gad g.K "_law_is_count") spIc := fk__law_is_count T 0 fun vs H Q E ⟨i, ev, h⟩ => by
  subst ev
  refine ⟨rfl, IsiP.sc (n := "int") (m := "int") (b := true) rfl rfl rfl ?_⟩
  refine ite_i (fun _ => ?_) (fun c => Bool.noConfusion c)
  exact IsiP.sc (n := "int") (m := "bool") (b := false) rfl rfl rfl h
def dueV (kd : Str) (m : Int) (z : Str) (w t : Int) (bs : List Int) : Int := if (z.length : Int) = w then 0 else if kd = "rest" then 0 else if kd = "lazy" ∧ m < w - (z.length : Int) then 0 else min (bat bs t) (Txt.count z "1")
def spDue : Sp := fun vs H Q _ => ∃ (pl st pp : Addr) (kd : Str) (m : Int) (z : Str) (w t : Int) (bs : List Int), vs = [.ref pl, .ref st, .ref pp] ∧ H pl = some (.lst [.str kd, .int m]) ∧ Stn H st z w t ∧ H pp = some (.lst (bs.map V.int)) ∧ BsOk bs ∧ Q (.int (dueV kd m z w t bs)) H
theorem p_due (T : Top g) : FnG g 2 (gad g.K "_law_due") spDue := fk__law_due T 0 fun vs H Q E ⟨pl, st, pp, kd, m, z, w, t, bs, ev, hpl, ⟨hst, sv⟩, hpp, hb, h⟩ => by
  subst ev
  have lz : z.length ≤ 100000 := by have := sv.lz; have := sv.w2; omega
  refine ⟨rfl, IxR'.l (.of hst) (v := .str z) rfl ?_⟩
  refine IxR'.l (.of hst) (v := .int t) rfl ?_
  refine LenP.l (.of hpp) ⟨by rw [List.length_map]; have := hb.l1; omega, ?_⟩
  rw [List.length_map]
  obtain ⟨k, hk, ek⟩ := nat_mod (a := t) hb.l1
  refine IxR'.l (.of hpp) (v := .int (bat bs t)) (at_of ek (by unfold bat; rw [ek]; simp [List.getD, hk])) ?_
  refine ⟨ml lz, ?_⟩
  refine IxR'.l (.of hst) (v := .int w) rfl ?_
  have d0 : (z.length : Int) = w → Q (.int 0) H := fun e => by unfold dueV at h; rw [if_pos e] at h; exact h
  have d1 : ¬(z.length : Int) = w → kd = "rest" → Q (.int 0) H := fun e e2 => by unfold dueV at h; rw [if_neg e, if_pos e2] at h; exact h
  have d2 : ¬(z.length : Int) = w → ¬kd = "rest" → kd = "lazy" → m < w - (z.length : Int) → Q (.int 0) H := fun e e2 e3 e4 => by unfold dueV at h; rw [if_neg e, if_neg e2, if_pos ⟨e3, e4⟩] at h; exact h
  have d3 : ¬(z.length : Int) = w → ¬kd = "rest" → ¬(kd = "lazy" ∧ m < w - (z.length : Int)) → Q (.int (min (bat bs t) (Txt.count z "1"))) H := fun e e2 e3 => by unfold dueV at h; rw [if_neg e, if_neg e2, if_neg e3] at h; exact h
  have ne : ∀ {a b : Prop} [Decidable a], (false != decide a) = true → a := fun {a b _} c => by
    revert c
    by_cases q : a <;> simp [q]
  have nf : ∀ {a : Prop} [Decidable a], (false != decide a) = false → ¬ a := fun {a _} c => by
    revert c
    by_cases q : a <;> simp [q]
  refine ite_i (fun c => ?_) (fun c => ?_)
  · exact ite_i (fun _ => d0 (ne (b := True) c)) (fun z => Bool.noConfusion z)
  have c0 := nf c
  refine IxR'.l (.of hpl) (v := .str kd) rfl ?_
  refine ite_i (fun c => d1 c0 (ne (b := True) c)) (fun c => ?_)
  have c1 := nf c
  refine IxR'.l (.of hpl) (v := .str kd) rfl ?_
  refine ite_i (fun c => ?_) (fun c => ?_)
  · have c2 := ne (b := True) c
    refine IxR'.l (.of hst) (v := .int w) rfl ⟨ml lz, ?_⟩
    refine IxR'.l (.of hpl) (v := .int m) rfl ?_
    refine ite_i (fun c => d2 c0 c1 c2 (dt c)) (fun c => d3 c0 c1 fun e => df c e.2)
  · exact ite_i (fun z => Bool.noConfusion z) (fun _ => d3 c0 c1 fun e => nf c e.1)
/-- the keepers that look -/
inductive Kpr (g : Wd) (H : Hp) (k : Addr) : Str → Int → Prop
  | rest {dx : Addr} (h : H k = some (.ins (gad g.K "Keeper") dx [])) : Kpr g H k "rest" 0
  | greedy {dx : Addr} (h : H k = some (.ins (gad g.K "Greedy") dx [])) : Kpr g H k "greedy" 0
  | lzy {m : Int} (h : OneF g "Lazy" "_mark" m k H) (hm : MkOk m) : Kpr g H k "lazy" m
theorem Kpr.gr {H' : Hp} {k : Addr} {kd : Str} {m : Int} (q : Gr H H') (h : Kpr g H k kd m) : Kpr g H' k kd m := by
  cases h with
  | rest h => exact .rest (q _ _ h)
  | greedy h => exact .greedy (q _ _ h)
  | lzy h hm => exact .lzy (h.gr q) hm
theorem ge_due {z : Str} {w t : Int} {bs : List Int} : mostA z w bs t = dueV "greedy" 0 z w t bs := by
  unfold mostA dueV
  rw [if_neg (show ¬("greedy" : Str) = "rest" by decide +kernel), if_neg (show ¬(("greedy" : Str) = "lazy" ∧ 0 < w - (z.length : Int)) from fun e => absurd e.1 (by decide +kernel))]
theorem re_due {z : Str} {m w t : Int} {bs : List Int} : (0 : Int) = dueV "rest" m z w t bs := by
  unfold dueV
  rw [if_pos (show ("rest" : Str) = "rest" from rfl)]
  split <;> rfl
theorem la_due {z : Str} {m w t : Int} {bs : List Int} : (if m < w - (z.length : Int) then 0 else mostA z w bs t) = dueV "lazy" m z w t bs := by
  unfold dueV mostA
  rw [if_neg (show ¬("lazy" : Str) = "rest" by decide +kernel)]
  by_cases c : m < w - (z.length : Int)
  · rw [if_pos c, if_pos (show ("lazy" : Str) = "lazy" ∧ m < w - (z.length : Int) from ⟨rfl, c⟩)]
    split <;> rfl
  · rw [if_neg c, if_neg (show ¬(("lazy" : Str) = "lazy" ∧ m < w - (z.length : Int)) from fun e => c e.2)]
theorem st_moment {z : Str} {w t : Int} (s : StV z w t) : moment z w t = none := by
  unfold moment
  rw [if_neg (by rw [s.ok]; decide), if_neg (by have := s.w1; omega), if_neg (by have := s.t0; omega), if_neg (by have := s.lz; omega)]
theorem Kpr.choose (T : Top g) {k r : Addr} {kd : Str} {m w t : Int} {z : Str} {bs : List Int} {R : Addr → Addr → Prop} (h : Kpr g H k kd m) (hj : 10 ≤ j) (s : StV z w t) (hr : RoundAt g H r bs) (hb : BsOk bs)
    (hR : ∀ f, (∀ {Q : VK} {E : XK}, Q (.int (dueV kd m z w t bs)) H → CallP g j f [.ref k, .str z, .int w, .ref r, .int t] H Q E) → R k f) : MethP g "choose" (.ref k) H R := by
  have lz : z.length ≤ 90000 := by have := s.lz; have := s.w2; omega
  have lb : 0 < bs.length := hb.l1
  cases h with
  | rest h =>
    refine MethP.own rfl h (cl_Keeper T) (mt_Keeper_choose T) rfl (hR _ fun {Q E} q => ?_)
    refine CallP.by (p_kch T) (by omega) ⟨k, z, w, t, r, bs, rfl, lz, trivial, hr, lb, ?_⟩
    rw [st_moment s]
    rw [← re_due] at q
    exact q
  | greedy h =>
    refine MethP.own rfl h (cl_Greedy T) (mt_Greedy_choose T) rfl (hR _ fun {Q E} q => ?_)
    refine CallP.by (p_gch T) (by omega) ⟨k, z, w, t, r, bs, rfl, lz, trivial, hr, lb, ?_⟩
    rw [st_moment s]
    rw [← ge_due] at q
    exact q
  | lzy h hm =>
    obtain ⟨dx, h⟩ := h
    refine MethP.own rfl h (cl_Lazy T) (mt_Lazy_choose T) (lkn (by decide)) (hR _ fun {Q E} q => ?_)
    refine CallP.by (p_lch T m) (by omega) ⟨k, z, w, t, r, bs, rfl, lz, ⟨dx, h⟩, hr, lb, ?_⟩
    rw [st_moment s]
    rw [← la_due] at q
    exact q
def labV (kd : Str) (m : Int) : Str := if kd = "lazy" then "lazy " ++ Str.ofString (toString m) else kd
theorem mk_log {m : Int} (h : MkOk m) : m.natAbs.log2 < 1920 := by
  have := lg100 h.1 h.2
  omega
theorem Kpr.label (T : Top g) {k : Addr} {kd : Str} {m : Int} {Q : VK} {E : XK} (h : Kpr g H k kd m) (hj : 2 ≤ j) (q : Q (.str (labV kd m)) H) :
    MethP g "label" (.ref k) H fun a f => CallP g j f [.ref a] H Q E := by
  cases h with
  | rest h =>
    refine MethP.own rfl h (cl_Keeper T) (mt_Keeper_label T) rfl ?_
    unfold labV at q
    rw [if_neg (by decide +kernel)] at q
    exact CallP.by (p_klab T) hj ⟨k, rfl, trivial, q⟩
  | greedy h =>
    refine MethP.own rfl h (cl_Greedy T) (mt_Greedy_label T) rfl ?_
    unfold labV at q
    rw [if_neg (by decide +kernel)] at q
    exact CallP.by (p_glab T) hj ⟨k, rfl, trivial, q⟩
  | lzy h hm =>
    obtain ⟨dx, h⟩ := h
    refine MethP.own rfl h (cl_Lazy T) (mt_Lazy_label T) (lkn (by decide)) ?_
    unfold labV at q
    rw [if_pos rfl] at q
    exact CallP.by (p_llab T m (mk_log hm)) hj ⟨k, rfl, ⟨dx, h⟩, q⟩
theorem Kpr.isi (T : Top g) {k : Addr} {kd : Str} {m : Int} {Q : VK} (h : Kpr g H k kd m) (q : Q (.bl true) H) : IsiP g.K (.ref k) (.ref (gad g.K "Keeper")) H Q := by
  cases h with
  | rest h => exact .own (ty_Keeper T h) rfl (kt_Keeper_Keeper T) q
  | greedy h => exact .own (ty_Greedy T h) rfl (kt_Greedy_Keeper T) q
  | lzy h hm =>
    obtain ⟨dx, h⟩ := h
    exact .own (ty_Lazy T h) rfl (kt_Lazy_Keeper T) q
theorem Kpr.mark (T : Top g) {k : Addr} {kd : Str} {m : Int} {Q : VK} (h : Kpr g H k kd m) (e : kd = "lazy") (hj : 2 ≤ j) (q : Q (.int m) H) : PropP g j "mark" (.ref k) H Q := by
  cases h with
  | rest h => exact absurd e (by decide +kernel)
  | greedy h => exact absurd e (by decide +kernel)
  | lzy h hm =>
    obtain ⟨dx, h⟩ := h
    exact PropP.by rfl h (cl_Lazy T) (pr_Lazy_mark T) (p_mark T) hj ⟨k, m, rfl, ⟨dx, h⟩, q⟩
end
end Lw
namespace Lw
open PySem PySem.Spec PyProof.Rows L2 Cy Tx
section
variable {g : Wd} {j : Nat} {H : Hp}
/-- what looks is given -/
structure Lk (g : Wd) (H : Hp) (s pp r p1 p2 : Addr) (bs : List Int) (z1 : Str) (w1 t1 : Int) (z2 : Str) (w2 t2 : Int) : Prop where
  sts : Sts H s p1 p2 z1 w1 t1 z2 w2 t2
  hpp : H pp = some (.lst (bs.map V.int))
  bo : BsOk bs
  ra : RoundAt g H r bs
theorem Lk.gr {H' : Hp} {s pp r p1 p2 : Addr} {bs : List Int} {z1 z2 : Str} {w1 t1 w2 t2 : Int} (k : Gr H H') (h : Lk g H s pp r p1 p2 bs z1 w1 t1 z2 w2 t2) : Lk g H' s pp r p1 p2 bs z1 w1 t1 z2 w2 t2 := ⟨h.sts.gr k, k _ _ h.hpp, h.bo, h.ra.gr k⟩
def spLooks (g : Wd) (p1 p2 : Addr) (bs : List Int) (z1 : Str) (w1 t1 : Int) (z2 : Str) (w2 t2 : Int) : Sp := fun vs H Q _ => ∃ (k pl s pp r : Addr) (kd : Str) (m : Int), vs = [.ref k, .ref pl, .ref s, .ref pp, .ref r] ∧ Kpr g H k kd m ∧ H pl = some (.lst [.str kd, .int m]) ∧ Lk g H s pp r p1 p2 bs z1 w1 t1 z2 w2 t2 ∧ ∀ H', Gr H H' → Q (.bl true) H'
theorem eq_bl {a b : V} : True := trivial
theorem p_looks (T : Top g) (p1 p2 : Addr) (bs : List Int) (z1 : Str) (w1 t1 : Int) (z2 : Str) (w2 t2 : Int) : FnG g 13 (gad g.K "_law_looks") (spLooks g p1 p2 bs z1 w1 t1 z2 w2 t2) := fk__law_looks T 11 fun vs H Q E ⟨k, pl, s, pp, r, kd, m, ev, hk, hpl, hl, h⟩ => by
  subst ev
  refine ⟨rfl, GvP.by (gv_Keeper T) (hk.isi T ?_)⟩
  refine ite_i (fun c => Bool.noConfusion c) (fun _ => ?_)
  refine SlP.l (.of hl.sts.l) fun q hq => ?_
  have ec : cutV [V.ref p1, .ref p2] none (some 1) = [.ref p1] := rfl
  rw [ec]
  have k1 := Gr.new (o := .lst [V.ref p1]) hq
  refine AddR.lst _ _ (k1 _ _ hl.sts.l) upd_same (by decide : 3 ≤ sizeLine) fun u hu => ?_
  have k2 := k1.trans (Gr.new (o := .lst ([V.ref p1, .ref p2] ++ [.ref p1])) hu)
  refine SeqP.l rfl (.of upd_same) ?_
  refine for_list (xs := [V.ref p1, .ref p2] ++ [.ref p1]) (fun i σ H' => H' = upd (upd H q (.lst [V.ref p1])) u (.lst ([V.ref p1, .ref p2] ++ [.ref p1])) ∧ ∃ o1 o2, σ = [some (.ref k), some (.ref pl), some (.ref s), some (.ref pp), some (.ref r), o1, o2, none])
    ⟨rfl, none, none, rfl⟩ (fun i σ H' hi ⟨e, _⟩ => by rw [e]; exact .of upd_same) ?_ ?_
  · rintro i x σ H' hx ⟨rfl, o1, o2, rfl⟩
    have hl2 := hl.gr k2
    obtain ⟨p, z, w, t, ex, hst⟩ : ∃ (p : Addr) (z : Str) (w t : Int), x = .ref p ∧ Stn (upd (upd H q (.lst [V.ref p1])) u (.lst ([V.ref p1, .ref p2] ++ [.ref p1]))) p z w t := by
      have hi : i < 3 := (List.getElem?_eq_some_iff.mp hx).1
      have : i = 0 ∨ i = 1 ∨ i = 2 := by omega
      rcases this with rfl | rfl | rfl
      · cases hx; exact ⟨_, _, _, _, rfl, hl2.sts.s1⟩
      · cases hx; exact ⟨_, _, _, _, rfl, hl2.sts.s2⟩
      · cases hx; exact ⟨_, _, _, _, rfl, hl2.sts.s1⟩
    subst ex
    refine (hk.gr k2).choose T (j := 11) (by decide) hst.2 hl2.ra hl2.bo fun f hf => ?_
    refine IxR'.l (.of hst.1) (v := .str z) rfl ?_
    refine IxR'.l (.of hst.1) (v := .int w) rfl ?_
    refine IxR'.l (.of hst.1) (v := .int t) rfl ?_
    refine hf ?_
    refine CallP.by (p_ic T) (by decide) ⟨_, rfl, ?_⟩
    refine ite_i (fun c => ?_) (fun c => ?_)
    · exact Bool.noConfusion c
    refine CallP.by (p_due T) (by decide) ⟨pl, p, pp, kd, m, z, w, t, bs, rfl, k2 _ _ hpl, hst, hl2.hpp, hl.bo, ?_⟩
    refine ite_i (fun c => ?_) (fun c => ?_)
    · exact absurd c (by simp)
    · exact ⟨rfl, _, _, rfl⟩
  · rintro σ H' ⟨rfl, o1, o2, rfl⟩
    have hpl2 := k2 _ _ hpl
    refine IxR'.l (.of hpl2) (v := .str kd) rfl ?_
    refine IxR'.l (.of hpl2) (v := .str kd) rfl ?_
    have hk2 := hk.gr k2
    have fin : ∀ y : Str, y = labV kd m → Q (.bl (false != decide (labV kd m = y))) (upd (upd H q (.lst [V.ref p1])) u (.lst ([V.ref p1, .ref p2] ++ [.ref p1]))) := fun y e => by
      rw [e]
      have : (false != decide (labV kd m = labV kd m)) = true := by simp
      rw [this]
      exact h _ k2
    refine ite_i (fun c => ?_) (fun c => ?_)
    · have e : kd = "lazy" := by
        revert c
        by_cases q : kd = "lazy" <;> simp [q]
      have hm : MkOk m := by
        cases hk with
        | rest h => exact absurd e (by decide +kernel)
        | greedy h => exact absurd e (by decide +kernel)
        | lzy h hm => exact hm
      refine IxR'.l (.of hpl2) (v := .int m) rfl ⟨mk_log hm, ?_, ?_⟩
      · have := int_len (mk_log hm)
        have e5 : ("lazy " : Str).length = 5 := by decide +kernel
        show ("lazy " : Str).length + (Str.ofString (toString m)).length ≤ sizeLine
        rw [sizeLine_eq]; omega
      refine hk2.mark T e (by decide) ?_
      refine CallP.by (p_ic T) (by decide) ⟨_, rfl, ?_⟩
      refine ite_i (fun c => ?_) (fun c => ?_)
      · exact Bool.noConfusion c
      refine hk2.mark T e (by decide) ?_
      refine IxR'.l (.of hpl2) (v := .int m) rfl ?_
      refine ite_i (fun c => ?_) (fun c => ?_)
      · exact absurd c (by simp)
      refine hk2.label T (by decide) (fin _ ?_)
      unfold labV
      rw [if_pos e]
    · have e : ¬kd = "lazy" := by
        revert c
        by_cases q : kd = "lazy" <;> simp [q]
      refine hk2.label T (by decide) (fin _ ?_)
      unfold labV
      rw [if_neg e]
end
end Lw
namespace Lw
open PySem PySem.Spec PyProof.Rows L2 Cy Tx
section
variable {g : Wd} {j : Nat} {H : Hp}
theorem gr_made {H : Hp} {x dx C : Addr} (hx : H x = none) (hdx : H dx = none) (hne : dx ≠ x) : Gr H (upd (upd H dx (.own x)) x (.ins C dx [])) := fun a o e => by
  rw [upd_ne (ne_of_none e hx), upd_ne (ne_of_none e hdx)]
  exact e
/-- C(m), C a keeper with one field -/
theorem mk_one (T : Top g) {C f fn : Str} {lo m : Int} {Q : VK} {E : XK} (M : Mk g.K (gad g.K C) (mad g.K (gad g.K C) "__init__")) (F : FnG g 6 (mad g.K (gad g.K C) "__init__") (spOne g C f fn lo)) (hj : 7 ≤ j)
    (h : Ans g (if m < lo then some fn else none) H (∀ k H', Gr H H' → H k = none → OneF g C f m k H' → Q (.ref k) H') E) : MakeP g j (gad g.K C) [.int m] H Q E :=
  MakeP.by M F hj fun x dx hx hdx hne => ⟨x, dx, m, rfl, upd_same, by
    by_cases c : m < lo
    · rw [if_pos c] at h ⊢
      exact Inp.gr h (gr_made hx hdx hne)
    · rw [if_neg c] at h ⊢
      refine ⟨rfl, h x _ (fun a o e => ?_) hx ⟨dx, upd_same⟩⟩
      rw [upd_ne (ne_of_none e hx)]
      exact gr_made hx hdx hne a o e⟩
theorem mk_lazy (T : Top g) {m : Int} {Q : VK} {E : XK} (hj : 7 ≤ j) (hm : 0 ≤ m) (h : ∀ k H', Gr H H' → H k = none → OneF g "Lazy" "_mark" m k H' → Q (.ref k) H') : MakeP g j (gad g.K "Lazy") [.int m] H Q E :=
  mk_one T (mk_Lazy T) (p_linit T) hj (by rw [if_neg (by omega)]; exact h)
theorem mk_thr (T : Top g) {m : Int} {Q : VK} {E : XK} (hj : 7 ≤ j) (hm : 1 ≤ m) (h : ∀ k H', Gr H H' → H k = none → OneF g "Thrifty" "_limit" m k H' → Q (.ref k) H') : MakeP g j (gad g.K "Thrifty") [.int m] H Q E :=
  mk_one T (mk_Thrifty T) (p_tinit T) hj (by rw [if_neg (by omega)]; exact h)
theorem new_k (T : Top g) {Q : VK} {E : XK} (h : ∀ k H', Gr H H' → H k = none → Kpr g H' k "rest" 0 → Q (.ref k) H') : New0P g j (gad g.K "Keeper") H Q E :=
  .obj (mz_Keeper T) fun x dx hx hdx hne => h x _ (gr_made hx hdx hne) hx (.rest upd_same)
theorem new_g (T : Top g) {Q : VK} {E : XK} (h : ∀ k H', Gr H H' → H k = none → Kpr g H' k "greedy" 0 → Q (.ref k) H') : New0P g j (gad g.K "Greedy") H Q E :=
  .obj (mz_Greedy T) fun x dx hx hdx hne => h x _ (gr_made hx hdx hne) hx (.greedy upd_same)
/-- looks asked with a new plan -/
theorem looks_call (T : Top g) {k s pp r p1 p2 : Addr} {bs : List Int} {z1 z2 : Str} {w1 t1 w2 t2 m : Int} {kd : Str} {Q : VK} {E : XK} (hj : 13 ≤ j) (hk : Kpr g H k kd m) (hl : Lk g H s pp r p1 p2 bs z1 w1 t1 z2 w2 t2) (h : ∀ H', Gr H H' → Q (.bl true) H') :
    ∀ pl, H pl = none → CallP g j (gad g.K "_law_looks") [.ref k, .ref pl, .ref s, .ref pp, .ref r] (upd H pl (.lst [.str kd, .int m])) Q E := fun pl hpl =>
  CallP.by (p_looks T p1 p2 bs z1 w1 t1 z2 w2 t2) hj ⟨k, pl, s, pp, r, kd, m, rfl, hk.gr (Gr.new hpl), upd_same, hl.gr (Gr.new hpl), fun H' k' => h H' ((Gr.new hpl).trans k')⟩
theorem Lk.up {s pp r p1 p2 k : Addr} {bs : List Int} {z1 z2 : Str} {w1 t1 w2 t2 : Int} {o : HO} (h : Lk g H s pp r p1 p2 bs z1 w1 t1 z2 w2 t2) (hk : ∃ dx fs, H k = some (.ins (gad g.K "Lazy") dx fs)) (hr : k ≠ r) : Lk g (upd H k o) s pp r p1 p2 bs z1 w1 t1 z2 w2 t2 := by
  obtain ⟨dx, fs, hk⟩ := hk
  have nl : ∀ {a : Addr} {xs : List V}, H a = some (.lst xs) → upd H k o a = some (.lst xs) := fun {a xs} e => by
    rw [upd_ne (fun e2 => by rw [e2, hk] at e; cases e)]; exact e
  refine ⟨⟨nl h.sts.l, ⟨nl h.sts.s1.1, h.sts.s1.2⟩, ⟨nl h.sts.s2.1, h.sts.s2.2⟩⟩, nl h.hpp, h.bo, ?_⟩
  obtain ⟨dr, t, h1, h2⟩ := h.ra
  exact ⟨dr, t, by rw [upd_ne (Ne.symm hr)]; exact h1, by rw [upd_ne (fun e2 => by rw [e2, hk] at h2; cases h2)]; exact h2⟩
/-- k.set_mark(m) -/
theorem setm_call (T : Top g) {k : Addr} {m n : Int} {R : Addr → Addr → Prop} (hj : 6 ≤ j) (hk : OneF g "Lazy" "_mark" n k H) (hR : ∀ f, (∀ {Q : VK} {E : XK}, Ans g (if m < 0 then some "mark" else none) H (∀ dx, H k = some (.ins (gad g.K "Lazy") dx [("_mark", .int n)]) → Q .non (upd H k (.ins (gad g.K "Lazy") dx [("_mark", .int m)]))) E → CallP g j f [.ref k, .int m] H Q E) → R k f) :
    MethP g "set_mark" (.ref k) H R := by
  obtain ⟨dx, hk⟩ := hk
  refine MethP.own rfl hk (cl_Lazy T) (mt_Lazy_set_mark T) (lkn (by decide)) (hR _ fun {Q E} q => ?_)
  exact CallP.by (p_setm T) hj ⟨k, dx, m, n, rfl, hk, ans_bind q fun _ z => z dx hk⟩
def spFam (g : Wd) (p1 p2 : Addr) (bs : List Int) (z1 : Str) (w1 t1 : Int) (z2 : Str) (w2 t2 : Int) : Sp := fun vs H Q _ => ∃ (mk s pp r : Addr) (m0 m1 m2 : Int), vs = [.ref mk, .ref s, .ref pp, .ref r] ∧ H mk = some (.lst [.int m0, .int m1, .int m2]) ∧ MkOk m0 ∧ MkOk m1 ∧ MkOk m2 ∧ Lk g H s pp r p1 p2 bs z1 w1 t1 z2 w2 t2 ∧ ∀ H', Gr H H' → Q (.bl true) H'
theorem nt {b : Bool} {A B : Prop} (e : b = true) (h : A) : if b = true then A else B := by rw [if_pos e]; exact h
theorem p_fam (T : Top g) (p1 p2 : Addr) (bs : List Int) (z1 : Str) (w1 t1 : Int) (z2 : Str) (w2 t2 : Int) : FnG g 15 (gad g.K "_law_family") (spFam g p1 p2 bs z1 w1 t1 z2 w2 t2) := fk__law_family T 13 fun vs H Q E ⟨mk, s, pp, r, m0, m1, m2, ev, hmk, o0, o1, o2, hl, h⟩ => by
  subst ev
  have hrH : ∃ o, H r = some o := by obtain ⟨dr, t, h1, _⟩ := hl.ra; exact ⟨_, h1⟩
  have mkk : ∀ {H' : Hp}, Gr H H' → H' mk = some (.lst [.int m0, .int m1, .int m2]) := fun k => k _ _ hmk
  refine ⟨rfl, IxR'.l (.of hmk) (v := .int m0) rfl ?_⟩
  refine mk_lazy T (by decide) o0.1 fun ka H1 k1 na fa => ?_
  refine IxR'.l (.of (mkk k1)) (v := .int m1) rfl ?_
  refine mk_lazy T (by decide) o1.1 fun kb H2 k2 nb1 fb => ?_
  have k02 := k1.trans k2
  have fa2 := fa.gr k2
  have nb : H kb = none := by
    cases q : H kb with
    | none => rfl
    | some o => have := k1 _ _ q; rw [nb1] at this; cases this
  have nab : ka ≠ kb := fun e => by obtain ⟨dx, z⟩ := fa; rw [e, nb1] at z; cases z
  have nar : ka ≠ r := fun e => by obtain ⟨o, z⟩ := hrH; rw [← e, na] at z; cases z
  -- a keeper that is new each time
  refine new_k T fun kc H3 k3 nc fc => ⟨(by decide : 2 ≤ sizeLine), looks_call T (by decide) fc (hl.gr (k02.trans k3)) fun H4 k4 => ?_⟩
  refine new_g T fun kd H5 k5 nd fd => ⟨(by decide : 2 ≤ sizeLine), looks_call T (by decide) fd (hl.gr (((k02.trans k3).trans k4).trans k5)) fun H6 k6 => ?_⟩
  have k06 := (((k02.trans k3).trans k4).trans k5).trans k6
  have g26 := ((k3.trans k4).trans k5).trans k6
  refine IxR'.l (.of (mkk k06)) (v := .int m0) rfl ⟨(by decide : 2 ≤ sizeLine), looks_call T (by decide) (.lzy (fa2.gr g26) o0) (hl.gr k06) fun H7 k7 => ?_⟩
  have k07 := k06.trans k7
  refine IxR'.l (.of (mkk k07)) (v := .int m1) rfl ⟨(by decide : 2 ≤ sizeLine), looks_call T (by decide) (.lzy (fb.gr (g26.trans k7)) o1) (hl.gr k07) fun H8 k8 => ?_⟩
  have k08 := k07.trans k8
  have g28 := (g26.trans k7).trans k8
  refine setm_call T (m := m2) (j := 13) (by decide) (fa2.gr g28) fun f hf => ?_
  refine IxR'.l (.of (mkk k08)) (v := .int m2) rfl (hf ?_)
  rw [if_neg (by have := o2.1; omega)]
  intro dx hdx
  have k9 : Gr H (upd H8 ka (.ins (gad g.K "Lazy") dx [("_mark", .int m2)])) := gr_upd k08 na
  have fa9 : OneF g "Lazy" "_mark" m2 ka (upd H8 ka (.ins (gad g.K "Lazy") dx [("_mark", .int m2)])) := ⟨dx, upd_same⟩
  have fb9 : OneF g "Lazy" "_mark" m1 kb (upd H8 ka (.ins (gad g.K "Lazy") dx [("_mark", .int m2)])) := by
    obtain ⟨db, z⟩ := fb.gr g28
    exact ⟨db, by rw [upd_ne (Ne.symm nab)]; exact z⟩
  have hl9 : Lk g (upd H8 ka (.ins (gad g.K "Lazy") dx [("_mark", .int m2)])) s pp r p1 p2 bs z1 w1 t1 z2 w2 t2 := (hl.gr k08).up ⟨dx, _, hdx⟩ nar
  refine IxR'.l (.of (mkk k9)) (v := .int m2) rfl ⟨(by decide : 2 ≤ sizeLine), looks_call T (by decide) (.lzy fa9 o2) hl9 fun H10 k10 => ?_⟩
  have k010 := k9.trans k10
  refine IxR'.l (.of (mkk k010)) (v := .int m1) rfl ⟨(by decide : 2 ≤ sizeLine), looks_call T (by decide) (.lzy (fb9.gr k10) o1) (hl9.gr k10) fun H11 k11 => ?_⟩
  have k011 := k010.trans k11
  refine setm_call T (m := 0) (j := 13) (by decide) (fa9.gr (k10.trans k11)) fun f hf => ?_
  refine hf ?_
  rw [if_neg (by decide)]
  intro dx2 hdx2
  have k12 : Gr H (upd H11 ka (.ins (gad g.K "Lazy") dx2 [("_mark", .int 0)])) := gr_upd k011 na
  have hl12 : Lk g (upd H11 ka (.ins (gad g.K "Lazy") dx2 [("_mark", .int 0)])) s pp r p1 p2 bs z1 w1 t1 z2 w2 t2 := (hl.gr k011).up ⟨dx2, _, hdx2⟩ nar
  refine ⟨(by decide : 2 ≤ sizeLine), looks_call T (by decide) (.lzy ⟨dx2, upd_same⟩ ⟨by decide, by decide⟩) hl12 fun H13 k13 => h H13 (k12.trans k13)⟩
end
end Lw
namespace Lw
open PySem PySem.Spec PyProof.Rows L2 Cy Tx
section
variable {g : Wd} {j : Nat} {H : Hp}
def spIsF (g : Wd) : SpX := fun a cls d vs H Q => ∃ (dd : Addr) (z : Str), vs = [.ref a, .str z] ∧ cls = .ref (gad g.K "InvalidInput") ∧ d = some dd ∧ H dd = some (.xd [("field", .str z)]) ∧ Q (.bl true) H
theorem p_isf (T : Top g) : FnP g 2 (gad g.K "_law_is_field") (spIsF g) := by
  obtain ⟨fd, F⟩ := fd__law_is_field T
  have hb : Binds g.K fd ["_law_raised", "_law_due_here"] [] := FunD.bindsN F fun _ _ _ _ _ _ us hl => match us, hl with | [_, _], _ => rfl
  obtain ⟨oc, od, dV, kV, doc, pm, an, cdv, ct, osl, rfl, lk, hcd, hD, _⟩ := F.ex
  refine fn_ofP (f := gad g.K "_law_is_field") lk hcd sc__law_is_field hb (fun a c d vs H Q ⟨dd, z, ev, _⟩ => by subst ev; rfl) fun A outer s H vs Q p cls d hr hz hfv ⟨dd, z, ev, ec, ed, eh, q⟩ => ⟨rd__law_is_field g 0 p.1 cls d, dv__law_is_field T hr hz hfv, ?_⟩
  subst ev
  refine XfP.by rfl ec (xf_InvalidInput T) (na_InvalidInput_field T) ed eh lk1 ?_
  have e : (false != decide (z = z)) = true := by simp
  refine ite_i (fun _ => ?_) (fun c => ?_)
  · refine GvP.by (gv_StoreError T) ?_
    refine IsxP.own rfl ec (ec_InvalidInput T) ed eh rfl (kt_InvalidInput_StoreError T) ?_
    refine ite_i (fun _ => ?_) (fun c => Bool.noConfusion c)
    exact IsxP.ty rfl ec (ec_InvalidInput T) ed eh rfl (kv_InvalidInput T) q
  · exact absurd c (by simp)
def spNo : Sp := fun vs H Q _ => ∃ n : Int, vs = [.int n] ∧ n < 0 ∧ ∀ H', Gr H H' → Q (.bl true) H'
theorem caught (T : Top g) {i : Nat} {ts : Addr → Value → Option Addr → TS} {Wout : WX} {D : Ends} {σ : L2.St} {z : Str}
    (h : ∀ a d H1, Gr H H1 → H1 d = some (.xd [("field", .str z)]) → H1 a = none → ts a (.ref (gad g.K "InvalidInput")) (some d) { nx := fun σ' H' => D.nx (σ'.set i none) H', rt := D.rt, bk := fun σ' H' => D.bk (σ'.set i none) H', ct := fun σ' H' => D.ct (σ'.set i none) H' } (σ.set i (some (.ref a))) H1) :
    Inp g (fun cls d H' => wAs g.K (.ref (gad g.K "InvalidInput")) i ts Wout D cls d σ H') H z := fun H1 d k e =>
  ⟨true, em_InvalidInput_InvalidInput T, fun _ a ha => h a d H1 k e ha, fun z => Bool.noConfusion z⟩
theorem p_nolazy (T : Top g) : FnG g 10 (gad g.K "_law_no_lazy") spNo := fk__law_no_lazy T 8 fun vs H Q E ⟨n, ev, hn, h⟩ => by
  subst ev
  refine ⟨rfl, mk_one T (mk_Lazy T) (p_linit T) (by decide) ?_⟩
  rw [if_pos hn]
  refine caught T fun a d H1 k e ha => ?_
  exact CallX.by (p_isf T) (by decide) ⟨d, "mark", rfl, rfl, rfl, e, h _ k⟩
theorem p_nothr (T : Top g) : FnG g 10 (gad g.K "_law_no_thrifty") (fun vs H Q E => ∃ n : Int, vs = [.int n] ∧ n < 1 ∧ ∀ H', Gr H H' → Q (.bl true) H') := fk__law_no_thrifty T 8 fun vs H Q E ⟨n, ev, hn, h⟩ => by
  subst ev
  refine ⟨rfl, mk_one T (mk_Thrifty T) (p_tinit T) (by decide) ?_⟩
  rw [if_pos hn]
  refine caught T fun a d H1 k e ha => ?_
  exact CallX.by (p_isf T) (by decide) ⟨d, "limit", rfl, rfl, rfl, e, h _ k⟩
def spNoM (g : Wd) : Sp := fun vs H Q _ => ∃ (k : Addr) (n m : Int), vs = [.ref k, .int n] ∧ n < 0 ∧ OneF g "Lazy" "_mark" m k H ∧ ∀ H', Gr H H' → Q (.bl true) H'
theorem p_nomark (T : Top g) : FnG g 10 (gad g.K "_law_no_mark") (spNoM g) := fk__law_no_mark T 8 fun vs H Q E ⟨k, n, m, ev, hn, hk, h⟩ => by
  subst ev
  refine ⟨rfl, setm_call T (m := n) (j := 8) (by decide) hk fun f hf => ?_⟩
  refine hf ?_
  rw [if_pos hn]
  refine caught T fun a d H1 k e ha => ?_
  exact CallX.by (p_isf T) (by decide) ⟨d, "mark", rfl, rfl, rfl, e, h _ k⟩
end
end Lw
namespace Lw
open PySem PySem.Spec PyProof.Rows L2 Cy Tx
section
variable {g : Wd} {j : Nat} {H : Hp}
/-- any keeper -/
inductive KpA (g : Wd) (H : Hp) (k : Addr) : Prop
  | kp {kd : Str} {m : Int} (h : Kpr g H k kd m)
  | thr {m : Int} (hm : 1 ≤ m) (h : OneF g "Thrifty" "_limit" m k H)
  | rule (h : RuleAt g k H)
theorem KpA.refuse (T : Top g) {k r : Addr} {p ph : Int} {z due : Str} {bs : List Int} {R : Addr → Addr → Prop} (h : KpA g H k) (hj : 20 ≤ j) (lz : z.length ≤ 60000) (hr : RoundAt g H r bs) (hb : BsOk bs) (hm : moment z p ph = some due)
    (hR : ∀ f, (∀ {Q : VK} {E : XK}, Inp g E H due → CallP g j f [.ref k, .str z, .int p, .ref r, .int ph] H Q E) → R k f) : MethP g "choose" (.ref k) H R := by
  have lb : 0 < bs.length := hb.l1
  cases h with
  | kp h =>
    cases h with
    | rest h =>
      refine MethP.own rfl h (cl_Keeper T) (mt_Keeper_choose T) rfl (hR _ fun {Q E} q => ?_)
      refine CallP.by (p_kch T) (by omega) ⟨k, z, p, ph, r, bs, rfl, by omega, trivial, hr, lb, ?_⟩
      rw [hm]; exact q
    | greedy h =>
      refine MethP.own rfl h (cl_Greedy T) (mt_Greedy_choose T) rfl (hR _ fun {Q E} q => ?_)
      refine CallP.by (p_gch T) (by omega) ⟨k, z, p, ph, r, bs, rfl, by omega, trivial, hr, lb, ?_⟩
      rw [hm]; exact q
    | lzy h hmm =>
      obtain ⟨dx, h⟩ := h
      refine MethP.own rfl h (cl_Lazy T) (mt_Lazy_choose T) (lkn (by decide)) (hR _ fun {Q E} q => ?_)
      refine CallP.by (p_lch T _) (by omega) ⟨k, z, p, ph, r, bs, rfl, by omega, ⟨dx, h⟩, hr, lb, ?_⟩
      rw [hm]; exact q
  | thr h1 h =>
    obtain ⟨dx, h⟩ := h
    refine MethP.own rfl h (cl_Thrifty T) (mt_Thrifty_choose T) (lkn (by decide)) (hR _ fun {Q E} q => ?_)
    refine CallP.by (p_tch T _ h1) (by omega) ⟨⟨k, z, p, ph, r, bs, rfl, by omega, ⟨dx, h⟩, hr, lb, ?_⟩, fun y hy => ?_⟩
    · rw [hm]; exact q
    · have : y = z := by simpa using hy
      rw [this]; exact lz
  | rule h =>
    obtain ⟨dx, l, v, h, h2⟩ := h
    refine MethP.own rfl h (cl_RuleKeeper T) (mt_RuleKeeper_choose T) (lkn (by decide)) (hR _ fun {Q E} q => ?_)
    refine CallP.by (p_ruch T) (by omega) ⟨k, z, p, ph, r, bs, rfl, by omega, trivial, hr, lb, ?_⟩
    rw [hm]; exact q
theorem KpA.gr {H' : Hp} {k : Addr} (q : Gr H H') (h : KpA g H k) : KpA g H' k := by
  cases h with
  | kp h => exact .kp (h.gr q)
  | thr hm h => exact .thr hm (h.gr q)
  | rule h => exact .rule (h.gr q)
theorem nb_ins {b k : Addr} {n : Int} {C dx : Addr} {fs : List (Str × V)} (hb : BoxAt H b n) (h : H k = some (.ins C dx fs)) : k ≠ b := fun e => by
  obtain ⟨b0, b1, b2, b3, z, _⟩ := hb
  rw [e, z] at h; cases h
theorem KpA.gx {H' : Hp} {k b : Addr} {n : Int} (q : Gx b H H') (hb : BoxAt H b n) (h : KpA g H k) : KpA g H' k := by
  cases h with
  | kp h =>
    cases h with
    | rest h => exact .kp (.rest (q _ _ (nb_ins hb h) h))
    | greedy h => exact .kp (.greedy (q _ _ (nb_ins hb h) h))
    | lzy h hm =>
      obtain ⟨dx, h⟩ := h
      exact .kp (.lzy ⟨dx, q _ _ (nb_ins hb h) h⟩ hm)
  | thr hm h =>
    obtain ⟨dx, h⟩ := h
    exact .thr hm ⟨dx, q _ _ (nb_ins hb h) h⟩
  | rule h =>
    obtain ⟨dx, l, v, h, h2⟩ := h
    refine .rule ⟨dx, l, v, q _ _ (nb_ins hb h) h, q _ _ (fun e => ?_) h2⟩
    obtain ⟨b0, b1, b2, b3, z, _⟩ := hb
    rw [e, z] at h2
    have h3 := congrArg List.length (HO.lst.inj (Option.some.inj h2))
    simp at h3
def spRef (g : Wd) : Sp := fun vs H Q _ => ∃ (k r : Addr) (z due : Str) (p ph : Int) (bs : List Int), vs = [.ref k, .str z, .int p, .ref r, .int ph, .str due] ∧ KpA g H k ∧ z.length ≤ 60000 ∧ RoundAt g H r bs ∧ BsOk bs ∧ moment z p ph = some due ∧ ∀ H', Gr H H' → Q (.bl true) H'
theorem p_ref (T : Top g) : FnG g 22 (gad g.K "_law_refused") (spRef g) := fk__law_refused T 20 fun vs H Q E ⟨k, r, z, due, p, ph, bs, ev, hk, lz, hr, hb, hm, h⟩ => by
  subst ev
  refine ⟨rfl, hk.refuse T (j := 20) (by decide) lz hr hb hm fun f hf => hf ?_⟩
  refine caught T fun a d H1 k e ha => ?_
  exact CallX.by (p_isf T) (by decide) ⟨d, due, rfl, rfl, rfl, e, h _ k⟩
theorem Lk.gx {H' : Hp} {b s pp r p1 p2 : Addr} {n : Int} {bs : List Int} {z1 z2 : Str} {w1 t1 w2 t2 : Int} (q : Gx b H H') (hb : BoxAt H b n) (np : pp ≠ b) (h : Lk g H s pp r p1 p2 bs z1 w1 t1 z2 w2 t2) : Lk g H' s pp r p1 p2 bs z1 w1 t1 z2 w2 t2 :=
  ⟨h.sts.gx q hb, q _ _ np h.hpp, h.bo, h.ra.gx q hb⟩
theorem nb_mk {b mk : Addr} {n : Int} {m0 m1 m2 : Int} (hb : BoxAt H b n) (h : H mk = some (.lst [.int m0, .int m1, .int m2])) : mk ≠ b := fun e => by
  obtain ⟨b0, b1, b2, b3, z, _⟩ := hb
  rw [e, z] at h
  have h3 := congrArg List.length (HO.lst.inj (Option.some.inj h))
  simp at h3
/-- a draw of [3, 10 ** 30][take 2] -/
theorem low_take (T : Top g) {sc b : Addr} {n : Int} {ns : List Int} {Q : VK} {E : XK} (hj : 2 ≤ j) (hl : ns.length ≤ 63) (hsc : Sc g H sc ns b) (hb : BoxAt H b n) (hn : n ≤ 10 ^ 8)
    (h : ∀ d H', 0 ≤ d → d ≤ 10 ^ 30 → Gx b H H' → BoxAt H' b (n + 2) → Q (.int d) H') :
    CPow 10 30 ∧ (2 ≤ sizeLine ∧ ∀ q, H q = none → CallP g j (gad g.K "_law_take") [.ref sc, .ref b, .int 2] (upd H q (.lst [.int 3, .int (10 ^ 30)])) (fun x H1 => cIx g.K (.ref q) x H1 fun y H2 => CallP g j (gad g.K "_law_take") [.ref sc, .ref b, y] H2 Q E) E) := by
  refine ⟨⟨by decide, by decide, by decide⟩, (by decide : 2 ≤ sizeLine), fun q hq => ?_⟩
  have qb : q ≠ b := fun e => by obtain ⟨o, z⟩ := hb.some; rw [← e, hq] at z; cases z
  have k0 : Gx b H (upd H q (.lst [.int 3, .int (10 ^ 30)])) := Gx.gr (Gr.new hq)
  refine CallP.by (p_take T) hj ⟨sc, b, 2, n, ns, rfl, hl, hsc.gx k0, hb.gr (Gr.new hq), by omega, by decide, by decide, fun d H1 d0 d1 k1 hb1 => ?_⟩
  have : d = 0 ∨ d = 1 := by omega
  have fin : ∀ v : Int, (v = 3 ∨ v = 10 ^ 30) → CallP g j (gad g.K "_law_take") [.ref sc, .ref b, .int v] H1 Q E := fun v hv => by
    refine CallP.by (p_take T) hj ⟨sc, b, v, n + 1, ns, rfl, hl, hsc.gx (k0.trans k1), hb1, by omega, by rcases hv with rfl | rfl <;> decide, by rcases hv with rfl | rfl <;> decide, fun d2 H2 d20 d21 k2 hb2 => ?_⟩
    refine h d2 H2 d20 ?_ ((k0.trans k1).trans k2) (hb2.mono (by omega))
    rcases hv with rfl | rfl <;> omega
  rcases this with rfl | rfl
  · exact IxR'.l (.of (k1 _ _ qb upd_same)) (v := .int 3) (at_of (j := 0) rfl rfl) (fin _ (.inl rfl))
  · exact IxR'.l (.of (k1 _ _ qb upd_same)) (v := .int (10 ^ 30)) (at_of (j := 1) rfl rfl) (fin _ (.inr rfl))
end
end Lw
namespace Lw
open PySem PySem.Spec PyProof.Rows L2 Cy Tx
section
variable {g : Wd} {j : Nat} {H : Hp}
def spBad (g : Wd) (p1 p2 : Addr) (bs : List Int) (z1 : Str) (w1 t1 : Int) (z2 : Str) (w2 t2 : Int) : Sp := fun vs H Q _ => ∃ (sc b mk s pp r : Addr) (n m0 m1 m2 : Int) (ns : List Int), vs = [.ref sc, .ref b, .ref mk, .ref s, .ref pp, .ref r] ∧ ns.length ≤ 63 ∧ Sc g H sc ns b ∧ BoxAt H b n ∧ n ≤ 10 ^ 7 ∧ pp ≠ b ∧
  H mk = some (.lst [.int m0, .int m1, .int m2]) ∧ MkOk m0 ∧ MkOk m1 ∧ MkOk m2 ∧ Lk g H s pp r p1 p2 bs z1 w1 t1 z2 w2 t2 ∧ ∀ H', Gx b H H' → BoxAt H' b (n + 100) → Q (.bl true) H'
theorem thr_lab (T : Top g) {k : Addr} {m : Int} {Q : VK} {E : XK} (h : OneF g "Thrifty" "_limit" m k H) (hm : m.natAbs.log2 < 1920) (hj : 2 ≤ j) (q : Q (.str ("thrifty " ++ Str.ofString (toString m))) H) : MethP g "label" (.ref k) H fun a f => CallP g j f [.ref a] H Q E := by
  obtain ⟨dx, h⟩ := h
  refine MethP.own rfl h (cl_Thrifty T) (mt_Thrifty_label T) (lkn (by decide)) ?_
  exact CallP.by (p_tlab T m hm) hj ⟨k, rfl, ⟨dx, h⟩, q⟩
theorem thr_lab' (T : Top g) {k : Addr} {m : Int} {y : Str} {Q : VK} {E : XK} (h : OneF g "Thrifty" "_limit" m k H) (hm : m.natAbs.log2 < 1920) (hj : 2 ≤ j) (hy : "thrifty " ++ Str.ofString (toString m) = y) (q : Q (.str y) H) : MethP g "label" (.ref k) H fun a f => CallP g j f [.ref a] H Q E := by
  subst hy
  exact thr_lab T h hm hj q
theorem p_bad (T : Top g) (p1 p2 : Addr) (bs : List Int) (z1 : Str) (w1 t1 : Int) (z2 : Str) (w2 t2 : Int) : FnG g 15 (gad g.K "_law_bad_numbers") (spBad g p1 p2 bs z1 w1 t1 z2 w2 t2) := fk__law_bad_numbers T 13 fun vs H Q E ⟨sc, b, mk, s, pp, r, n, m0, m1, m2, ns, ev, hl, hsc, hb, hn, hpb, hmk, o0, o1, o2, lk, h⟩ => by
  subst ev
  refine ⟨rfl, low_take T (j := 13) (by decide) hl hsc hb (by omega) fun d H1 d0 d1 k1 hb1 => ?_⟩
  have lk1 := lk.gx k1 hb hpb
  have mk1 := k1 _ _ (nb_mk hb hmk) hmk
  have hrH : ∃ o, H1 r = some o := by obtain ⟨dr, t, h1, _⟩ := lk1.ra; exact ⟨_, h1⟩
  -- from here on the heap grows
  have fin : ∀ H', Gr H1 H' → Q (.bl true) H' := fun H' k => h H' (k1.trans (Gx.gr k)) ((hb1.gr k).mono (by omega))
  have mkk : ∀ {H' : Hp}, Gr H1 H' → H' mk = some (.lst [.int m0, .int m1, .int m2]) := fun k => k _ _ mk1
  refine IxR'.l (.of mk1) (v := .int m0) rfl ?_
  refine mk_lazy T (by decide) o0.1 fun ka H2 k2 na fa => ?_
  have nar : ka ≠ r := fun e => by obtain ⟨o, z⟩ := hrH; rw [← e, na] at z; cases z
  refine CallP.by (p_nolazy T) (by decide) ⟨_, rfl, by omega, fun H3 k3 => ?_⟩
  have k13 := k2.trans k3
  refine CallP.by (p_nomark T) (by decide) ⟨ka, _, m0, rfl, by omega, fa.gr k3, fun H4 k4 => ?_⟩
  have k14 := k13.trans k4
  refine IxR'.l (.of (mkk k14)) (v := .int m0) rfl ⟨(by decide : 2 ≤ sizeLine), looks_call T (by decide) (.lzy (fa.gr (k3.trans k4)) o0) (lk1.gr k14) fun H5 k5 => ?_⟩
  have k15 := k14.trans k5
  refine setm_call T (m := m1) (j := 13) (by decide) (fa.gr ((k3.trans k4).trans k5)) fun f hf => ?_
  refine IxR'.l (.of (mkk k15)) (v := .int m1) rfl (hf ?_)
  rw [if_neg (by have := o1.1; omega)]
  intro dx hdx
  have k6 : Gr H1 (upd H5 ka (.ins (gad g.K "Lazy") dx [("_mark", .int m1)])) := gr_upd k15 na
  have fa6 : OneF g "Lazy" "_mark" m1 ka (upd H5 ka (.ins (gad g.K "Lazy") dx [("_mark", .int m1)])) := ⟨dx, upd_same⟩
  have lk6 : Lk g (upd H5 ka (.ins (gad g.K "Lazy") dx [("_mark", .int m1)])) s pp r p1 p2 bs z1 w1 t1 z2 w2 t2 := (lk1.gr k15).up ⟨dx, _, hdx⟩ nar
  refine CallP.by (p_nomark T) (by decide) ⟨ka, -1, m1, rfl, by decide, fa6, fun H7 k7 => ?_⟩
  have k17 := k6.trans k7
  refine IxR'.l (.of (mkk k17)) (v := .int m1) rfl ⟨(by decide : 2 ≤ sizeLine), looks_call T (by decide) (.lzy (fa6.gr k7) o1) (lk6.gr k7) fun H8 k8 => ?_⟩
  have k18 := k17.trans k8
  refine CallP.by (p_nothr T) (by decide) ⟨0, rfl, by decide, fun H9 k9 => ?_⟩
  refine CallP.by (p_nothr T) (by decide) ⟨_, rfl, by omega, fun H10 k10 => ?_⟩
  have k110 := (k18.trans k9).trans k10
  refine mk_thr T (m := 1) (by decide) (by decide) fun kt H11 k11 nt ft => ?_
  obtain ⟨y, ey⟩ : ∃ y : Str, y = "thrifty 1" := ⟨_, rfl⟩
  refine thr_lab' T ft (by decide) (by decide) (y := y) (by rw [ey]; decide +kernel) ?_
  refine ite_i (fun _ => ?_) (fun c => ?_)
  · have lg1 : (1 - (-1 - d)).natAbs.log2 < 1920 := by
      have := lg100 (x := 1 - (-1 - d)) (by omega) (by omega)
      omega
    refine mk_thr T (m := 1 - (-1 - d)) (by decide) (by omega) fun ku H12 k12 nu fu => ?_
    refine thr_lab T fu lg1 (by decide) ⟨lg1, ?_, ?_⟩
    · have := int_len lg1
      have e5 : ("thrifty " : Str).length = 8 := by decide +kernel
      show ("thrifty " : Str).length + (Str.ofString (toString (1 - (-1 - d)))).length ≤ sizeLine
      rw [sizeLine_eq]; omega
    · have e : (false != decide (("thrifty " ++ Str.ofString (toString (1 - (-1 - d))) : Str) = "thrifty " ++ Str.ofString (toString (1 - (-1 - d))))) = true := by simp
      show Q (.bl (false != decide (("thrifty " ++ Str.ofString (toString (1 - (-1 - d))) : Str) = "thrifty " ++ Str.ofString (toString (1 - (-1 - d)))))) H12
      rw [e]
      exact fin _ ((k110.trans k11).trans k12)
  · exact absurd c (by rw [ey]; decide +kernel)
end
end Lw
namespace Lw
open PySem PySem.Spec PyProof.Rows L2 Cy Tx
section
variable {g : Wd} {j : Nat} {H : Hp}
theorem cnt_le (z : Str) : 0 ≤ Txt.count z "1" ∧ Txt.count z "1" ≤ (z.length : Int) := by
  rw [count1, ls_len]
  have := List.count_le_length (a := 49) (l := ls z)
  omega
theorem okW_e : okW "" = true := by decide +kernel
theorem most_bd {z : Str} {w t : Int} {bs : List Int} (hb : BsOk bs) (t0 : 0 ≤ t) (lz : (z.length : Int) ≤ 64) : 0 ≤ mostA z w bs t ∧ mostA z w bs t < 2 ^ 61 := by
  unfold mostA
  have hc := cnt_le z
  split
  · omega
  · have hbat : 0 ≤ bat bs t := by
      unfold bat
      obtain ⟨k, hk, ek⟩ := nat_mod (a := t) hb.l1
      rw [ek]
      have : bs.getD (k : Int).toNat 0 = bs[k]'hk := by simp [List.getD, hk]
      rw [this]
      exact hb.nn _ (List.getElem_mem hk)
    omega
def spThr (g : Wd) : Sp := fun vs H Q _ => ∃ (sc b st pp r : Addr) (n : Int) (ns bs : List Int) (z : Str) (w t : Int), vs = [.ref sc, .ref b, .ref st, .ref pp, .ref r] ∧ ns.length ≤ 63 ∧ Sc g H sc ns b ∧ BoxAt H b n ∧ n ≤ 10 ^ 7 ∧ pp ≠ b ∧ Stn H st z w t ∧ H pp = some (.lst (bs.map V.int)) ∧ BsOk bs ∧ RoundAt g H r bs ∧
  ∀ H', Gx b H H' → BoxAt H' b (n + 10) → Q (.bl true) H'
theorem p_thr (T : Top g) : FnG g 22 (gad g.K "_law_thrifty") (spThr g) := fk__law_thrifty T 20 fun vs H Q E ⟨sc, b, st, pp, r, n, ns, bs, z, w, t, ev, hl, hsc, hb, hn, hpb, ⟨hst, sv⟩, hpp, bo, ra, h⟩ => by
  subst ev
  refine ⟨rfl, IxR'.l (.of hst) (v := .str z) rfl ?_⟩
  refine IxR'.l (.of hst) (v := .int w) rfl ?_
  have cz := cnt_le z
  have hw1 := sv.w1
  have hw2 := sv.w2
  have hlz := sv.lz
  have ht0 := sv.t0
  -- the tail, for the word that is left
  have tail : ∀ y : Str, okW y = true → (y.length : Int) ≤ w → Txt.count y "1" < w →
    tSeq (tAsg (tOp (cAdd g.K noOw) (tOp (cAdd g.K noOw) (tC (.int 1)) (cStrM mCount (cV 5) (tCons (tC (.str "1")) (tNil)))) (cCall g 20 (fun cls d _ H => E cls d H) (gad g.K "_law_take") (tCons (cV 0) (tCons (cV 1) (tCons (tOp cSub (cV 6) (cStrM mCount (cV 5) (tCons (tC (.str "1")) (tNil)))) (tNil)))))) (gName 7))
    (tSeq (tAsg (cMake g 20 (fun cls d _ H => E cls d H) (gad g.K "Thrifty") (tCons (cV 7) (tNil))) (gName 8))
    (tSeq (tAsg (cMeth g 20 (fun cls d _ H => E cls d H) "choose" (cV 8) (tCons (cV 5) (tCons (cV 6) (tCons (cV 4) (tCons (tOp (cIx g.K) (cV 2) (tC (.int 2))) (tNil)))))) (gName 9))
    (tSeq (tIfS (tOr (tNot (cTru g.K (tCB (cIsi g.K) (tCons (cV 8) (tCons (cGv g "Keeper") (tNil)))))) (cTest (tOp (cEqN g.K true) (cMeth g 20 (fun cls d _ H => E cls d H) "label" (cV 8) tNil) (tOp (cAdd g.K noOw) (tC (.str "thrifty ")) (tCB (cStr) (tCons (cV 7) (tNil))))))) (tRet (tC (.bl false))) (tNext))
    (tRet (cAndV (cCall g 20 (fun cls d _ H => E cls d H) (gad g.K "_law_is_count") (tCons (cV 9) (tNil))) (cChain cLe cLe (tC (.int 0)) (cV 9) (cCall g 20 (fun cls d _ H => E cls d H) (gad g.K "_law_due") (tCons (tLst (tCons (tC (.str "greedy")) (tCons (tC (.int 0)) (tNil)))) (tCons (tLst (tCons (cV 5) (tCons (cV 6) (tCons (tOp (cIx g.K) (cV 2) (tC (.int 2))) (tNil))))) (tCons (cV 3) (tNil))))))))))) { nx := fun _ H1 => Q .non H1, rt := Q } [some (.ref sc), some (.ref b), some (.ref st), some (.ref pp), some (.ref r), some (.str y), some (.int w), none, none, none] H := fun y oy ly cy => by
    have cy0 := (cnt_le y).1
    refine CallP.by (p_take T) (by decide) ⟨sc, b, w - Txt.count y "1", n, ns, rfl, hl, hsc, hb, by omega, by omega, by omega, fun d H1 d0 d1 k1 hb1 => ?_⟩
    have nst : Stn H1 st z w t := Stn.gx k1 hb ⟨hst, sv⟩
    have hpp1 := k1 _ _ hpb hpp
    have ra1 := ra.gx k1 hb
    have fin : ∀ H', Gr H1 H' → Q (.bl true) H' := fun H' k => h H' (k1.trans (Gx.gr k)) ((hb1.gr k).mono (by omega))
    have hm1 : 1 ≤ 1 + Txt.count y "1" + d := by omega
    refine mk_thr T (by decide) hm1 fun k H2 k2 nk fk => ?_
    have lm : (1 + Txt.count y "1" + d).natAbs.log2 < 1920 := by
      have := lg31 (x := 1 + Txt.count y "1" + d) (by omega) (by omega)
      omega
    obtain ⟨dk, hk⟩ := id fk
    refine MethP.own rfl hk (cl_Thrifty T) (mt_Thrifty_choose T) (lkn (by decide)) ?_
    have nst2 := nst.gr k2
    refine IxR'.l (.of nst2.1) (v := .int t) rfl ?_
    have sv' : StV y w t := ⟨oy, hw1, hw2, ly, ht0, sv.t1⟩
    refine CallP.by (p_tch T _ hm1) (by decide) ⟨⟨k, y, w, t, r, bs, rfl, by omega, fk, ra1.gr k2, bo.l1, ?_⟩, fun x hx => ?_⟩
    rotate_left
    · have : x = y := by simpa using hx
      rw [this]; omega
    rw [st_moment sv']
    refine ⟨most_bd bo ht0 (by omega), by omega, bo, fun c H3 c0 c1 k3 => ?_⟩
    have k23 := k2.trans k3
    have fk3 := fk.gr k3
    obtain ⟨dk3, hk3⟩ := id fk3
    refine GvP.by (gv_Keeper T) ?_
    refine IsiP.own (ty_Thrifty T hk3) rfl (kt_Thrifty_Keeper T) ?_
    refine ite_i (fun c => Bool.noConfusion c) (fun _ => ?_)
    obtain ⟨q1, e1⟩ : ∃ q1 : Str, "thrifty " ++ Str.ofString (toString (1 + Txt.count y "1" + d)) = q1 := ⟨_, rfl⟩
    refine thr_lab' T fk3 lm (by decide) e1 ⟨lm, ?_, ?_⟩
    · have := int_len lm
      have e5 : ("thrifty " : Str).length = 8 := by decide +kernel
      show ("thrifty " : Str).length + (Str.ofString (toString (1 + Txt.count y "1" + d))).length ≤ sizeLine
      rw [sizeLine_eq]; omega
    refine ite_i (fun c => ?_) (fun _ => ?_)
    · refine absurd c ?_
      have e2 : ("thrifty " ++ Str.ofString (toString (1 + Txt.count y "1" + d)) : Str) = q1 := e1
      show ¬ (true != decide (q1 = "thrifty " ++ Str.ofString (toString (1 + Txt.count y "1" + d)))) = true
      rw [e2]
      simp
    refine CallP.by (p_ic T) (by decide) ⟨c, rfl, ?_⟩
    refine ite_i (fun _ => ?_) (fun c => Bool.noConfusion c)
    refine ite_i (fun _ => ?_) (fun c2 => absurd c0 (df c2))
    refine ⟨(by decide : 2 ≤ sizeLine), fun pl hpl => ?_⟩
    have nst3 := (nst2.gr k3).gr (Gr.new (o := .lst [.str "greedy", .int 0]) hpl)
    refine IxR'.l (.of nst3.1) (v := .int t) rfl ⟨(by decide : 3 ≤ sizeLine), fun ps hps => ?_⟩
    have npl : pl ≠ ps := fun e => by rw [← e, upd_same] at hps; cases hps
    have k4 : Gr H3 (upd (upd H3 pl (.lst [.str "greedy", .int 0])) ps (.lst [.str y, .int w, .int t])) := (Gr.new hpl).trans (Gr.new hps)
    refine CallP.by (p_due T) (by decide) ⟨pl, ps, pp, "greedy", 0, y, w, t, bs, rfl, by rw [upd_ne npl, upd_same], ⟨upd_same, sv'⟩, k4 _ _ (k23 _ _ hpp1), bo, ?_⟩
    have e : decide (c ≤ dueV "greedy" 0 y w t bs) = true := by rw [← ge_due]; exact decide_eq_true c1
    show Q (.bl (decide (c ≤ dueV "greedy" 0 y w t bs))) _
    rw [e]
    exact fin _ (k23.trans k4)
  refine ite_i (fun c => ?_) (fun c => ?_)
  · exact tail "" okW_e (by rw [show ("" : Str).length = 0 from by decide +kernel]; omega) (by rw [show Txt.count "" "1" = 0 from by decide +kernel]; omega)
  · have cn : ¬ Txt.count z "1" = w := by
      revert c
      by_cases q : Txt.count z "1" = w <;> simp [q]
    exact tail z sv.ok hlz (by omega)
end
end Lw
namespace Lw
open PySem PySem.Spec PyProof.Rows L2 Cy Tx
theorem bad_mem {y : Str} {c : Nat} (h : c ∈ ls y) (hc : Bit c = false) : okW y = false := by
  rw [okW_eq]
  unfold okL
  have : (ls y).all Bit = false := by
    rw [List.all_eq_false]
    exact ⟨c, h, by rw [hc]; decide⟩
  rw [this, Bool.and_false]
theorem bad_head {y : Str} (h : (ls y).head? = some 48) : okW y = false := by
  rw [okW_eq]
  unfold okL
  rw [h]
  rfl
def odds (z : Str) : List Str := ["0", "01", "1 ", " 1", "12", "a", "1\n", "0" ++ z, z ++ "2", z ++ " ", "-" ++ z, "1 1", "1a1", "102011"]
theorem odds_bad {z y : Str} (hz : z.length ≤ 64) (h : y ∈ odds z) : okW y = false ∧ y.length ≤ 100 := by
  have e1 : ∀ (a b : Str), (a ++ b).length = a.length + b.length := len_app
  have l0 : ("0" : Str).length = 1 := by decide +kernel
  have l2 : ("2" : Str).length = 1 := by decide +kernel
  have l3 : (" " : Str).length = 1 := by decide +kernel
  have l4 : ("-" : Str).length = 1 := by decide +kernel
  unfold odds at h
  simp only [List.mem_cons, List.not_mem_nil, or_false] at h
  rcases h with rfl | rfl | rfl | rfl | rfl | rfl | rfl | rfl | rfl | rfl | rfl | rfl | rfl | rfl
  · decide +kernel
  · decide +kernel
  · decide +kernel
  · decide +kernel
  · decide +kernel
  · decide +kernel
  · decide +kernel
  · refine ⟨bad_head ?_, by rw [e1]; omega⟩
    rw [ls_app]
    have : ls ("0" : Str) = [48] := by decide +kernel
    rw [this]; rfl
  · refine ⟨bad_mem (c := 50) ?_ (by decide), by rw [e1]; omega⟩
    rw [ls_app]
    exact List.mem_append_right _ (by decide +kernel)
  · refine ⟨bad_mem (c := 32) ?_ (by decide), by rw [e1]; omega⟩
    rw [ls_app]
    exact List.mem_append_right _ (by decide +kernel)
  · refine ⟨bad_mem (c := 45) ?_ (by decide), by rw [e1]; omega⟩
    rw [ls_app]
    exact List.mem_append_left _ (by decide +kernel)
  · decide +kernel
  · decide +kernel
  · decide +kernel
theorem mo_word {y : Str} {p ph : Int} (h : okW y = false) : moment y p ph = some ("word" : Str) := by unfold moment; rw [if_pos h]
theorem mo_pl {y : Str} {p ph : Int} (h : okW y = true) (hp : p < 1) : moment y p ph = some ("places" : Str) := by unfold moment; rw [if_neg (by rw [h]; decide), if_pos hp]
theorem mo_ph {y : Str} {p ph : Int} (h : okW y = true) (hp : 1 ≤ p) (hh : ph < 0) : moment y p ph = some ("phase" : Str) := by unfold moment; rw [if_neg (by rw [h]; decide), if_neg (by omega), if_pos hh]
theorem mo_pl2 {y : Str} {p ph : Int} (h : okW y = true) (hp : 1 ≤ p) (hh : 0 ≤ ph) (hl : p < (y.length : Int)) : moment y p ph = some ("places" : Str) := by unfold moment; rw [if_neg (by rw [h]; decide), if_neg (by omega), if_neg (by omega), if_pos hl]
section
variable {g : Wd} {j : Nat} {H : Hp}
def spRfs (g : Wd) : Sp := fun vs H Q _ => ∃ (sc b k st r : Addr) (n : Int) (ns bs : List Int) (z : Str) (w t : Int), vs = [.ref sc, .ref b, .ref k, .ref st, .ref r] ∧ ns.length ≤ 63 ∧ Sc g H sc ns b ∧ BoxAt H b n ∧ n ≤ 10 ^ 7 ∧ KpA g H k ∧ Stn H st z w t ∧ BsOk bs ∧ RoundAt g H r bs ∧
  ∀ H', Gx b H H' → BoxAt H' b (n + 10) → Q (.bl true) H'
theorem p_rfs (T : Top g) : FnG g 24 (gad g.K "_law_refusals") (spRfs g) := fk__law_refusals T 22 fun vs H Q E ⟨sc, b, k, st, r, n, ns, bs, z, w, t, ev, hl, hsc, hb, hn, hk, ⟨hst, sv⟩, bo, ra, h⟩ => by
  subst ev
  have hw1 := sv.w1
  have hw2 := sv.w2
  have hlz := sv.lz
  have ht0 := sv.t0
  have lz : z.length ≤ 64 := by omega
  have ap : ∀ (a b : Str), a.length ≤ 64 → b.length ≤ 64 → a.length + b.length ≤ sizeLine := fun a b h1 h2 => by rw [sizeLine_eq]; omega
  refine ⟨rfl, IxR'.l (.of hst) (v := .str z) rfl ?_⟩
  refine IxR'.l (.of hst) (v := .int w) rfl ?_
  refine ⟨ap _ _ (by decide +kernel) lz, ap _ _ lz (by decide +kernel), ap _ _ lz (by decide +kernel), ap _ _ (by decide +kernel) lz, (by decide : 14 ≤ sizeLine), fun q hq => ?_⟩
  have qb : q ≠ b := fun e => by obtain ⟨o, y⟩ := hb.some; rw [← e, hq] at y; cases y
  have hq1 : upd H q (.lst ((odds z).map V.str)) q = some (.lst ((odds z).map V.str)) := upd_same
  have k0 : Gx b H (upd H q (.lst ((odds z).map V.str))) := Gx.gr (Gr.new hq)
  refine LenP.l (.of hq1) ?_
  refine CallP.by (p_take T) (by decide) ⟨sc, b, 14, n, ns, rfl, hl, hsc.gx k0, hb.gr (Gr.new hq), by omega, by decide, by decide, fun d H1 d0 d1 k1 hb1 => ?_⟩
  obtain ⟨y, hy, ey⟩ : ∃ y ∈ odds z, atI ((odds z).map V.str) d = some (.str y) := by
    have hlt : d.toNat < (odds z).length := by show d.toNat < 14; omega
    exact ⟨(odds z)[d.toNat]'hlt, List.getElem_mem hlt, at_of (j := d.toNat) (by omega) (by simp [hlt])⟩
  obtain ⟨by1, by2⟩ := odds_bad lz hy
  refine IxR'.l (.of (k1 _ _ qb hq1)) ey ?_
  have k01 := k0.trans k1
  refine low_take T (j := 22) (by decide) hl (hsc.gx k01) hb1 (by omega) fun e1 H2 e10 e11 k2 hb2 => ?_
  have k02 := k01.trans k2
  refine low_take T (j := 22) (by decide) hl (hsc.gx k02) hb2 (by omega) fun e2 H3 e20 e21 k3 hb3 => ?_
  have k03 := k02.trans k3
  have st3 : Stn H3 st z w t := Stn.gx k03 hb ⟨hst, sv⟩
  -- the tail, for the long word
  have tail : ∀ lg : Str, okW lg = true → 2 ≤ lg.length → lg.length ≤ 64 →
    (tSeq (tAsg (tOp (cAdd g.K noOw) (tC (.int 1)) (cCall g 22 (fun cls d _ H => E cls d H) (gad g.K "_law_take") (tCons (cV 0) (tCons (cV 1) (tCons (tOp cSub (tCB (cLen g 22) (tCons (cV 10) (tNil))) (tC (.int 1))) (tNil)))))) (gName 11))
  (tSeq (tIfS (tNot (cTru g.K (cCall g 22 (fun cls d _ H => E cls d H) (gad g.K "_law_refused") (tCons (cV 2) (tCons (cV 7) (tCons (cV 8) (tCons (cV 4) (tCons (cV 9) (tCons (tC (.str "word")) (tNil)))))))))) (tRet (tC (.bl false))) (tNext))
  (tSeq (tIfS (tNot (cTru g.K (cCall g 22 (fun cls d _ H => E cls d H) (gad g.K "_law_refused") (tCons (cV 2) (tCons (cV 7) (tCons (tC (.int 64)) (tCons (cV 4) (tCons (tOp (cIx g.K) (cV 3) (tC (.int 2))) (tCons (tC (.str "word")) (tNil)))))))))) (tRet (tC (.bl false))) (tNext))
  (tSeq (tIfS (tNot (cTru g.K (cCall g 22 (fun cls d _ H => E cls d H) (gad g.K "_law_refused") (tCons (cV 2) (tCons (cV 5) (tCons (cV 8) (tCons (cV 4) (tCons (cV 9) (tCons (tC (.str "places")) (tNil)))))))))) (tRet (tC (.bl false))) (tNext))
  (tSeq (tIfS (tNot (cTru g.K (cCall g 22 (fun cls d _ H => E cls d H) (gad g.K "_law_refused") (tCons (cV 2) (tCons (cV 5) (tCons (cV 8) (tCons (cV 4) (tCons (tOp (cIx g.K) (cV 3) (tC (.int 2))) (tCons (tC (.str "places")) (tNil)))))))))) (tRet (tC (.bl false))) (tNext))
  (tSeq (tIfS (tNot (cTru g.K (cCall g 22 (fun cls d _ H => E cls d H) (gad g.K "_law_refused") (tCons (cV 2) (tCons (cV 10) (tCons (cV 11) (tCons (cV 4) (tCons (cV 9) (tCons (tC (.str "phase")) (tNil)))))))))) (tRet (tC (.bl false))) (tNext))
  (tSeq (tIfS (tNot (cTru g.K (cCall g 22 (fun cls d _ H => E cls d H) (gad g.K "_law_refused") (tCons (cV 2) (tCons (cV 10) (tCons (cV 11) (tCons (cV 4) (tCons (tOp (cIx g.K) (cV 3) (tC (.int 2))) (tCons (tC (.str "places")) (tNil)))))))))) (tRet (tC (.bl false))) (tNext))
  (tRet (cCall g 22 (fun cls d _ H => E cls d H) (gad g.K "_law_refused") (tCons (cV 2) (tCons (cV 5) (tCons (cV 6) (tCons (cV 4) (tCons (cV 9) (tCons (tC (.str "phase")) (tNil)))))))))))))))) { nx := fun _ H1 => Q .non H1, rt := Q } [some (.ref sc), some (.ref b), some (.ref k), some (.ref st), some (.ref r), some (.str z), some (.int w), some (.str y), some (.int (0 - e1)), some (.int (-1 - e2)), some (.str lg), none] H3 := fun lg og l2 l64 => by
    refine ⟨ml (by omega), CallP.by (p_take T) (by decide) ⟨sc, b, (lg.length : Int) - 1, n + 5, ns, rfl, hl, hsc.gx k03, hb3.mono (by omega), by omega, by omega, by omega, fun sh H4 sh0 sh1 k4 hb4 => ?_⟩⟩
    have k04 := k03.trans k4
    have hk4 := hk.gx k04 hb
    have ra4 := ra.gx k04 hb
    have st4 := st3.gx k4 hb3
    have fin : ∀ H', Gr H4 H' → Q (.bl true) H' := fun H' kk => h H' (k04.trans (Gx.gr kk)) ((hb4.gr kk).mono (by omega))
    refine CallP.by (p_ref T) (by decide) ⟨k, r, y, "word", 0 - e1, -1 - e2, bs, rfl, hk4, by omega, ra4, bo, mo_word by1, fun H5 k5 => ?_⟩
    refine IxR'.l (.of (st4.gr k5).1) (v := .int t) rfl ?_
    refine CallP.by (p_ref T) (by decide) ⟨k, r, y, "word", 64, t, bs, rfl, hk4.gr k5, by omega, ra4.gr k5, bo, mo_word by1, fun H6 k6 => ?_⟩
    have k46 := k5.trans k6
    refine CallP.by (p_ref T) (by decide) ⟨k, r, z, "places", 0 - e1, -1 - e2, bs, rfl, hk4.gr k46, by omega, ra4.gr k46, bo, mo_pl sv.ok (by omega), fun H7 k7 => ?_⟩
    have k47 := k46.trans k7
    refine IxR'.l (.of (st4.gr k47).1) (v := .int t) rfl ?_
    refine CallP.by (p_ref T) (by decide) ⟨k, r, z, "places", 0 - e1, t, bs, rfl, hk4.gr k47, by omega, ra4.gr k47, bo, mo_pl sv.ok (by omega), fun H8 k8 => ?_⟩
    have k48 := k47.trans k8
    refine CallP.by (p_ref T) (by decide) ⟨k, r, lg, "phase", 1 + sh, -1 - e2, bs, rfl, hk4.gr k48, by omega, ra4.gr k48, bo, mo_ph og (by omega) (by omega), fun H9 k9 => ?_⟩
    have k49 := k48.trans k9
    refine IxR'.l (.of (st4.gr k49).1) (v := .int t) rfl ?_
    refine CallP.by (p_ref T) (by decide) ⟨k, r, lg, "places", 1 + sh, t, bs, rfl, hk4.gr k49, by omega, ra4.gr k49, bo, mo_pl2 og (by omega) ht0 (by omega), fun H10 k10 => ?_⟩
    have k410 := k49.trans k10
    exact CallP.by (p_ref T) (by decide) ⟨k, r, z, "phase", w, -1 - e2, bs, rfl, hk4.gr k410, by omega, ra4.gr k410, bo, mo_ph sv.ok hw1 (by omega), fun H11 k11 => fin _ (k410.trans k11)⟩
  refine ⟨ml (by omega), ite_i (fun c => ?_) (fun c => ?_)⟩
  · have := dt c
    exact tail z sv.ok (by omega) lz
  · exact tail "11" (by decide +kernel) (by decide +kernel) (by decide +kernel)
end
end Lw
namespace Lw
open PySem PySem.Spec PyProof.Rows L2 Cy Tx
section
variable {g : Wd} {j : Nat} {H : Hp}
theorem RoundAt.up {r k : Addr} {bs : List Int} {o : HO} (h : RoundAt g H r bs) (hk : H k = none) : RoundAt g (upd H k o) r bs := h.gr (Gr.new hk)
/-- RuleKeeper('else carry all') -/
theorem mk_rule (T : Top g) {Q : VK} {E : XK} (hj : 7 ≤ j) (h : ∀ k H', Gr H H' → H k = none → RuleAt g k H' → Q (.ref k) H') : MakeP g j (gad g.K "RuleKeeper") [.str "else carry all"] H Q E :=
  MakeP.by (mk_RuleKeeper T) (p_ruinit T) hj fun x dx hx hdx hne => ⟨x, dx, rfl, upd_same, fun H' k ra => ⟨rfl, h x H' (fun a o e => k _ _ (ne_of_none e hx) (gr_made hx hdx hne a o e)) hx ra⟩⟩
theorem KpA.isi (T : Top g) {k : Addr} {Q : VK} (h : KpA g H k) (q : Q (.bl true) H) : IsiP g.K (.ref k) (.ref (gad g.K "Keeper")) H Q := by
  cases h with
  | kp h => exact h.isi T q
  | thr hm h =>
    obtain ⟨dx, h⟩ := h
    exact .own (ty_Thrifty T h) rfl (kt_Thrifty_Keeper T) q
  | rule h =>
    obtain ⟨dx, l, v, h, _⟩ := h
    exact .own (ty_RuleKeeper T h) rfl (kt_RuleKeeper_Keeper T) q
theorem Kpr.gx {H' : Hp} {k b : Addr} {n m : Int} {kd : Str} (q : Gx b H H') (hb : BoxAt H b n) (h : Kpr g H k kd m) : Kpr g H' k kd m := by
  cases h with
  | rest h => exact .rest (q _ _ (nb_ins hb h) h)
  | greedy h => exact .greedy (q _ _ (nb_ins hb h) h)
  | lzy h hm =>
    obtain ⟨dx, h⟩ := h
    exact .lzy ⟨dx, q _ _ (nb_ins hb h) h⟩ hm
def spAll (g : Wd) (p1 p2 : Addr) (bs : List Int) (z1 : Str) (w1 t1 : Int) (z2 : Str) (w2 t2 : Int) : Sp := fun vs H Q _ => ∃ (sc b mk s pp r : Addr) (n m0 m1 m2 : Int) (ns : List Int), vs = [.ref sc, .ref b, .ref mk, .ref s, .ref pp, .ref r] ∧ ns.length ≤ 63 ∧ Sc g H sc ns b ∧ BoxAt H b n ∧ n ≤ 10 ^ 6 ∧ pp ≠ b ∧
  H mk = some (.lst [.int m0, .int m1, .int m2]) ∧ MkOk m0 ∧ Lk g H s pp r p1 p2 bs z1 w1 t1 z2 w2 t2 ∧ ∀ H', Gx b H H' → Q (.bl true) H'
theorem p_all (T : Top g) (p1 p2 : Addr) (bs : List Int) (z1 : Str) (w1 t1 : Int) (z2 : Str) (w2 t2 : Int) : FnG g 26 (gad g.K "_law_all_refuse") (spAll g p1 p2 bs z1 w1 t1 z2 w2 t2) := fk__law_all_refuse T 24 fun vs H Q E ⟨sc, b, mk, s, pp, r, n, m0, m1, m2, ns, ev, hl, hsc, hb, hn, hpb, hmk, o0, lk, h⟩ => by
  subst ev
  refine ⟨rfl, new_g T fun kg H1 k1 ng fg => ?_⟩
  refine mk_rule T (by decide) fun kr H2 k2 nr fr => ?_
  have k02 := k1.trans k2
  refine IxR'.l (.of (k02 _ _ hmk)) (v := .int m0) rfl ?_
  refine mk_lazy T (by decide) o0.1 fun kl H3 k3 nl fl => ?_
  have k03 := k02.trans k3
  obtain ⟨dr, lr, vr, hr1, hr2⟩ := fr.gr k3
  obtain ⟨y, ey⟩ : ∃ y : Str, y = "rule 1" := ⟨_, rfl⟩
  refine MethP.own rfl hr1 (cl_RuleKeeper T) (mt_RuleKeeper_label T) (lkn (by decide)) ?_
  have lab : FnG g 2 (mad g.K (gad g.K "RuleKeeper") "label") (spLab (RuleAt g) y) := by rw [ey]; exact p_rlab T
  refine CallP.by lab (by decide) ⟨kr, rfl, ⟨dr, lr, vr, hr1, hr2⟩, ?_⟩
  refine ite_i (fun c => ?_) (fun _ => ?_)
  · exact absurd c (by rw [ey]; decide +kernel)
  refine new_k T fun kk H4 k4 nk fk => ?_
  refine mk_thr T (m := 2) (by decide) (by decide) fun kt H5 k5 nt ft => ⟨(by decide : 5 ≤ sizeLine), fun q hq => ?_⟩
  have k05 := (k03.trans k4).trans k5
  have k06 : Gr H (upd H5 q (.lst [.ref kk, .ref kg, .ref kl, .ref kt, .ref kr])) := k05.trans (Gr.new hq)
  have k56 : Gr H5 (upd H5 q (.lst [.ref kk, .ref kg, .ref kl, .ref kt, .ref kr])) := Gr.new hq
  have hb6 := hb.gr k06
  have qb : q ≠ b := fun e => by obtain ⟨o, y⟩ := (hb.gr k05).some; rw [← e, hq] at y; cases y
  refine SeqP.l rfl (.of upd_same) ?_
  have fg6 : Kpr g (upd H5 q (.lst [.ref kk, .ref kg, .ref kl, .ref kt, .ref kr])) kg "greedy" 0 := fg.gr ((((k2.trans k3).trans k4).trans k5).trans k56)
  have fl6 : Kpr g (upd H5 q (.lst [.ref kk, .ref kg, .ref kl, .ref kt, .ref kr])) kl "lazy" m0 := .lzy (fl.gr ((k4.trans k5).trans k56)) o0
  have fk6 : Kpr g (upd H5 q (.lst [.ref kk, .ref kg, .ref kl, .ref kt, .ref kr])) kk "rest" 0 := fk.gr (k5.trans k56)
  have ft6 : OneF g "Thrifty" "_limit" 2 kt (upd H5 q (.lst [.ref kk, .ref kg, .ref kl, .ref kt, .ref kr])) := ft.gr k56
  have fr6 : RuleAt g kr (upd H5 q (.lst [.ref kk, .ref kg, .ref kl, .ref kt, .ref kr])) := fr.gr (((k3.trans k4).trans k5).trans k56)
  have lk6 := lk.gr k06
  refine for_list (xs := [V.ref kk, .ref kg, .ref kl, .ref kt, .ref kr]) (fun i σ H' => Gx b (upd H5 q (.lst [.ref kk, .ref kg, .ref kl, .ref kt, .ref kr])) H' ∧ BoxAt H' b (n + 10 * i) ∧ ∃ o, σ = [some (.ref sc), some (.ref b), some (.ref mk), some (.ref s), some (.ref pp), some (.ref r), some (.ref kg), some (.ref kr), some (.ref kl), o])
    ⟨Gx.refl, by simpa using hb6, none, rfl⟩ (fun i σ H' hi ⟨e, _⟩ => .of (e _ _ qb upd_same)) ?_ ?_
  · rintro i x σ H' hx ⟨k7, hb7, o, rfl⟩
    have hi : i < 5 := (List.getElem?_eq_some_iff.mp hx).1
    obtain ⟨k, ex, ka⟩ : ∃ k, x = .ref k ∧ KpA g H' k := by
      have : i = 0 ∨ i = 1 ∨ i = 2 ∨ i = 3 ∨ i = 4 := by omega
      rcases this with rfl | rfl | rfl | rfl | rfl
      · cases hx; exact ⟨_, rfl, KpA.gx k7 hb6 (.kp fk6)⟩
      · cases hx; exact ⟨_, rfl, KpA.gx k7 hb6 (.kp fg6)⟩
      · cases hx; exact ⟨_, rfl, KpA.gx k7 hb6 (.kp fl6)⟩
      · cases hx; exact ⟨_, rfl, KpA.gx k7 hb6 (.thr (by decide) ft6)⟩
      · cases hx; exact ⟨_, rfl, KpA.gx k7 hb6 (.rule fr6)⟩
    subst ex
    have lk7 := lk6.gx k7 hb6 hpb
    refine GvP.by (gv_Keeper T) (ka.isi T ?_)
    refine ite_i (fun c => Bool.noConfusion c) (fun _ => ?_)
    refine IxR'.l (.of lk7.sts.l) (v := .ref p1) rfl ?_
    refine CallP.by (p_rfs T) (by decide) ⟨sc, b, k, p1, r, n + 10 * i, ns, bs, z1, w1, t1, rfl, hl, (hsc.gx (Gx.gr k06)).gx k7, hb7, by omega, ka, lk7.sts.s1, lk7.bo, lk7.ra, fun H8 k8 hb8 => ?_⟩
    refine ite_i (fun c => Bool.noConfusion c) (fun _ => ?_)
    exact ⟨k7.trans k8, hb8.mono (by omega), _, rfl⟩
  · rintro σ H' ⟨k7, hb7, o, rfl⟩
    have lk7 := lk6.gx k7 hb6 hpb
    refine ⟨(by decide : 2 ≤ sizeLine), looks_call T (by decide) (fg6.gx k7 hb6) lk7 fun H8 k8 => ?_⟩
    have mk8 : H8 mk = some (.lst [.int m0, .int m1, .int m2]) := k8 _ _ (k7 _ _ (nb_mk hb hmk) (k06 _ _ hmk))
    refine IxR'.l (.of mk8) (v := .int m0) rfl ⟨(by decide : 2 ≤ sizeLine), looks_call T (by decide) ((fl6.gx k7 hb6).gr k8) (lk7.gr k8) fun H9 k9 => ?_⟩
    exact h H9 (((Gx.gr k06).trans k7).trans (Gx.gr (k8.trans k9)))
end
end Lw
namespace Lw
open PySem PySem.Spec PyProof.Rows L2 Cy Tx
section
variable {g : Wd} {j : Nat} {H : Hp}
theorem dpAll_ints {K : PySem.W.Frag} : ∀ l : List Int, DpAll K H (l.map V.int) (l.map PyData.int)
  | [] => .nil
  | a :: r => .cons (.int a) (dpAll_ints r)
theorem eq_ints {K : PySem.W.Frag} {p q : Addr} {l : List Int} {Q : VK} (h1 : H p = some (.lst (l.map V.int))) (h2 : H q = some (.lst (l.map V.int))) (k : Q (.bl true) H) : EqR K p q H false Q := by
  refine .dat (.list (l.map PyData.int)) (.list (l.map PyData.int)) (.lst (.of h1) (dpAll_ints l)) (.lst (.of h2) (dpAll_ints l)) (PySem.W.shaped_ints l) (PySem.W.shaped_ints l) ?_
  rw [PySem.SeqAt.eqv_refl _ (PySem.SeqAt.canLay_of_shaped (PySem.W.shaped_ints l))]
  exact k
theorem BoxAt.gxo {H' : Hp} {b b' : Addr} {n : Int} (k : Gx b' H H') (nb : b ≠ b') (h : BoxAt H b n) : BoxAt H' b n := by
  obtain ⟨b0, b1, b2, b3, h0, h'⟩ := h
  exact ⟨b0, b1, b2, b3, k _ _ nb h0, h'⟩
theorem none_gr {H' : Hp} {p : Addr} (k : Gr H H') (h : H' p = none) : H p = none := by
  cases q : H p with
  | none => rfl
  | some o => have := k _ _ q; rw [h] at this; cases this
def spLaw (g : Wd) : Sp := fun vs H Q _ => ∃ (a : Addr) (ns : List Int), vs = [.ref a] ∧ ns.length ≤ 63 ∧ SqL g.K H a (ns.map V.int) ∧ ∀ H', Q (.bl true) H'
theorem ok_the_law (T : Top g) {fd : FuncData} (F : FunD g.K "law" "law" (defArgs (top 72)) (defBody (top 72)) (defScope (top 72)) [] [] (gad g.K "law") fd) :
    FnOk g.P g.w g.K g.mg g.base (L2.CX g.P g.w) 28 (gad g.K "law") fd ["_law_script"] (spLaw g) := ok_law T F (j := 26) fun vs H Q E ⟨sc, ns, ev, hl, hsq, h⟩ => by
  subst ev
  refine ⟨rfl, CallP.by (p_box T) (by decide) ⟨sc, 0, ns, rfl, hl, hsq, by decide, by decide, fun b H1 k1 nb hb => ?_⟩⟩
  have hsc1 : Sc g H1 sc ns b := Sc.new hsq k1 nb
  refine CallP.by (p_box T) (by decide) ⟨sc, 1, ns, rfl, hl, hsc1.sq, by decide, by decide, fun bq H2 k2 nbq hbq => ?_⟩
  have nbb : b ≠ bq := fun e => by obtain ⟨o, z⟩ := hb.some; rw [e, nbq] at z; cases z
  have hsc2 : Sc g H2 sc ns bq := Sc.new hsc1.sq k2 nbq
  refine CallP.by (p_pays T) (by decide) ⟨sc, bq, 0, ns, rfl, hl, hsc2, hbq, by decide, fun pp bs H3 bo npp k3 hpp => ?_⟩
  have hb3 : BoxAt H3 b 0 := (hb.gr k2).gxo k3 nbb
  have hsc3b : Sc g H2 sc ns b := hsc1.gx (Gx.gr k2)
  have hsc3 : Sc g H3 sc ns bq := hsc2.gx k3
  have nppb : pp ≠ b := fun e => by obtain ⟨o, z⟩ := (hb.gr k2).some; rw [← e, npp] at z; cases z
  refine CallP.by (p_round T) (by decide) ⟨pp, bs, rfl, hpp, bo, fun r H4 k4 ra => ?_⟩
  have hb4 := hb3.gr k4
  -- the script beside the first box
  have hscb : Sc g H4 sc ns b := by
    rcases hsc1 with ⟨_, nsb⟩ | z
    · rcases hsc3 with ⟨hr, _⟩ | z
      · exact .inl ⟨Rd.gr k4 hr, nsb⟩
      · exact .inr z
    · exact .inr z
  refine CallP.by (p_stand T) (by decide) ⟨sc, b, 0, ns, rfl, hl, hscb, hb4, by decide, fun p1 z1 w1 t1 H5 np1 k5 hb5 st1 => ?_⟩
  refine ⟨(by decide : 1 ≤ sizeLine), fun s ns5 => ?_⟩
  have hs6 : upd H5 s (.lst [.ref p1]) s = some (.lst [.ref p1]) := upd_same
  have k6 : Gr H5 (upd H5 s (.lst [.ref p1])) := Gr.new ns5
  refine IsLst.by rfl (.of hs6) ?_
  have hb6 := hb5.gr k6
  have nsb : s ≠ b := fun e => by obtain ⟨o, z⟩ := hb5.some; rw [← e, ns5] at z; cases z
  refine CallP.by (p_stand T) (by decide) ⟨sc, b, 100, ns, rfl, hl, (hscb.gx k5).gx (Gx.gr k6), hb6, by decide, fun p2 z2 w2 t2 H7 np2 k7 hb7 st2 => ?_⟩
  have hs7 := k7 _ _ nsb hs6
  refine AppP.by hs7 (by decide : 1 < sizeLine) ?_
  have st17 : Stn H7 p1 z1 w1 t1 := (st1.gr k6).gx k7 hb6
  have np1s : p1 ≠ s := fun e => by
    have z := st1.1
    rw [e, ns5] at z; cases z
  have np2s : p2 ≠ s := fun e => by
    have z := st2.1
    rw [e, hs7] at z
    have := congrArg List.length (HO.lst.inj (Option.some.inj z))
    simp at this
  have sts : Sts (upd H7 s (.lst ([.ref p1] ++ [.ref p2]))) s p1 p2 z1 w1 t1 z2 w2 t2 := ⟨upd_same, ⟨by rw [upd_ne np1s]; exact st17.1, st17.2⟩, ⟨by rw [upd_ne np2s]; exact st2.1, st2.2⟩⟩
  have hb8 : BoxAt (upd H7 s (.lst ([.ref p1] ++ [.ref p2]))) b (100 + 100) := by
    obtain ⟨c0, c1, c2, c3, y0, y'⟩ := hb7
    exact ⟨c0, c1, c2, c3, by rw [upd_ne (Ne.symm nsb)]; exact y0, y'⟩
  -- what stands at H4 stands on, but s and b
  have k48 : ∀ a o, a ≠ b → H4 a = some o → upd H7 s (.lst ([.ref p1] ++ [.ref p2])) a = some o := fun a o n1 e => by
    have e5 := k5 _ _ n1 e
    have ns : a ≠ s := fun e' => by rw [e', ns5] at e5; cases e5
    rw [upd_ne ns]
    exact k7 _ _ n1 (k6 _ _ e5)
  have hpp8 := k48 _ _ nppb (k4 _ _ hpp)
  have ra8 : RoundAt g (upd H7 s (.lst ([.ref p1] ++ [.ref p2]))) r bs := ra.gx k48 hb4
  have lk8 : Lk g (upd H7 s (.lst ([.ref p1] ++ [.ref p2]))) s pp r p1 p2 bs z1 w1 t1 z2 w2 t2 := ⟨sts, hpp8, bo, ra8⟩
  have hsc8 : Sc g (upd H7 s (.lst ([.ref p1] ++ [.ref p2]))) sc ns b := hscb.gx k48
  revert hs7 hb8 k48 hpp8 ra8 lk8 hsc8 sts
  generalize upd H7 s (.lst ([.ref p1] ++ [.ref p2])) = H8
  intro hs7 sts hb8 k48 hpp8 ra8 lk8 hsc8
  -- the marks
  refine CallP.by (p_box T) (by decide) ⟨sc, 2, ns, rfl, hl, hsc8.sq, by decide, by decide, fun bm H9 k9 nbm hbm => ?_⟩
  have hscm : Sc g H9 sc ns bm := Sc.new hsc8.sq k9 nbm
  have lk9 := lk8.gr k9
  have npm : pp ≠ bm := fun e => by rw [← e, hpp8] at nbm; cases nbm
  refine CallP.by (p_marks T) (by decide) ⟨sc, bm, s, p1, p2, 0, ns, z1, w1, t1, z2, w2, t2, rfl, hl, hscm, hbm, by decide, lk9.sts, fun mk m0 m1 m2 H10 nmk k10 hbm10 o0 o1 o2 hmk => ?_⟩
  have lk10 := lk9.gx k10 hbm npm
  have sq10 : SqL g.K H10 sc (ns.map V.int) := (hscm.gx k10).sq
  refine CallP.by (p_fam T p1 p2 bs z1 w1 t1 z2 w2 t2) (by decide) ⟨mk, s, pp, r, m0, m1, m2, rfl, hmk, o0, o1, o2, lk10, fun H11 k11 => ?_⟩
  have lk11 := lk10.gr k11
  have mk11 := k11 _ _ hmk
  refine CallP.by (p_box T) (by decide) ⟨sc, 3, ns, rfl, hl, SqL_gr k11 sq10, by decide, by decide, fun b3 H12 k12 nb3 hb12 => ?_⟩
  have hsc12 : Sc g H12 sc ns b3 := Sc.new (SqL_gr k11 sq10) k12 nb3
  have lk12 := lk11.gr k12
  have np3 : pp ≠ b3 := fun e => by rw [← e, lk11.hpp] at nb3; cases nb3
  refine CallP.by (p_bad T p1 p2 bs z1 w1 t1 z2 w2 t2) (by decide) ⟨sc, b3, mk, s, pp, r, 0, m0, m1, m2, ns, rfl, hl, hsc12, hb12, by decide, np3, k12 _ _ mk11, o0, o1, o2, lk12, fun H13 k13 hb13 => ?_⟩
  have lk13 := lk12.gx k13 hb12 np3
  have mk13 := k13 _ _ (nb_mk hb12 (k12 _ _ mk11)) (k12 _ _ mk11)
  have hsc13 := hsc12.gx k13
  refine SeqP.l rfl (.of lk13.sts.l) ?_
  refine for_list (xs := [V.ref p1, .ref p2]) (fun i σ H' => Gx b3 H13 H' ∧ BoxAt H' b3 (100 + 10 * i) ∧ ∃ o, σ = [some (.ref sc), some (.ref b3), some (.ref pp), some (.ref r), some (.ref s), some (.ref mk), o])
    ⟨Gx.refl, hb13.mono (by omega), none, rfl⟩ (fun i σ H' hi ⟨e, _⟩ => .of ((lk13.gx e hb13 np3).sts.l)) ?_ ?_
  · rintro i x σ H' hx ⟨k14, hb14, o, rfl⟩
    have lk14 := lk13.gx k14 hb13 np3
    have hi : i < 2 := (List.getElem?_eq_some_iff.mp hx).1
    obtain ⟨p, z, w, t, ex, hst⟩ : ∃ (p : Addr) (z : Str) (w t : Int), x = .ref p ∧ Stn H' p z w t := by
      have : i = 0 ∨ i = 1 := by omega
      rcases this with rfl | rfl
      · cases hx; exact ⟨_, _, _, _, rfl, lk14.sts.s1⟩
      · cases hx; exact ⟨_, _, _, _, rfl, lk14.sts.s2⟩
    subst ex
    refine CallP.by (p_thr T) (by decide) ⟨sc, b3, p, pp, r, 100 + 10 * i, ns, bs, z, w, t, rfl, hl, hsc13.gx k14, hb14, by omega, np3, hst, lk14.hpp, bo, lk14.ra, fun H15 k15 hb15 => ?_⟩
    refine ite_i (fun c => Bool.noConfusion c) (fun _ => ?_)
    exact ⟨k14.trans k15, hb15.mono (by omega), _, rfl⟩
  · rintro σ H14 ⟨k14, hb14, o, rfl⟩
    have lk14 := lk13.gx k14 hb13 np3
    have mk14 := k14 _ _ (nb_mk hb13 mk13) mk13
    have hsc14 := hsc13.gx k14
    refine CallP.by (p_box T) (by decide) ⟨sc, 4, ns, rfl, hl, hsc14.sq, by decide, by decide, fun b4 H15 k15 nb4 hb15 => ?_⟩
    have hsc15 : Sc g H15 sc ns b4 := Sc.new hsc14.sq k15 nb4
    have lk15 := lk14.gr k15
    have np4 : pp ≠ b4 := fun e => by rw [← e, lk14.hpp] at nb4; cases nb4
    refine CallP.by (p_all T p1 p2 bs z1 w1 t1 z2 w2 t2) (by decide) ⟨sc, b4, mk, s, pp, r, 0, m0, m1, m2, ns, rfl, hl, hsc15, hb15, by decide, np4, k15 _ _ mk14, o0, lk15, fun H16 k16 => ?_⟩
    have lk16 := lk15.gx k16 hb15 np4
    refine ite_i (fun _ => ?_) (fun c => Bool.noConfusion c)
    obtain ⟨dr, tr, i1, i2⟩ := lk16.ra
    refine PropP.by rfl i1 (cl_Round T) (pr_Round_budgets T) (p_rbud T) (by decide) ⟨r, bs, rfl, ⟨dr, tr, i1, i2⟩, fun q hq => ?_⟩
    exact eq_ints upd_same ((Gr.new hq) _ _ lk16.hpp) (h _)
end
end Lw
namespace Hd
open PySem PySem.Spec PyProof.Rows L2 Cy
/-- what a def lets out, in some world -/
def cxA (P : Program) : CXT := fun outer H s E e s' => ∃ w, L2.CX P w outer H s E e s'
theorem ok_cx {P : Program} {w : World} {K : PySem.W.Frag} {mg : Str → Option Value} {base : Heap} {k : Nat} {f : Addr} {fd : FuncData} {ps : List Str} {sp : Sp} (F : FnOk P w K mg base (L2.CX P w) k f fd ps sp) : FnOk P w K mg base (cxA P) k f fd ps sp :=
  ⟨F.len, fun A outer s H args us vs Q E hr e0 hb r hs => codeAny_mono (F.run A outer s H args us vs Q E hr e0 hb r hs) fun z s' q => by
    cases z with
    | error e => exact ⟨w, q⟩
    | ok fl =>
      cases fl with
      | ret u => exact q
      | next => exact q
      | brk => exact q
      | cont => exact q⟩
end Hd
open PySem PySem.W PySem.Calls PyProof.Rows
set_option maxHeartbeats 0 in
theorem PySem.Challenge.cw_carrylog_k54_choose_family_holds : PySem.Challenge.rw_carrylog_k54_choose_family.Holds := by
  w_on; o_law
  refine HandSHeadRun.head_any (r := OpenLaw.row PySem.Challenge.rw_carrylog_k54_choose_family) (q := view (OpenLaw.row PySem.Challenge.rw_carrylog_k54_choose_family).prog [72]) (H := Hd.hk) (ob := Hd.ob) (M := 40000) (loose := Hd.loose) (d := HandSHeadRun.topDef (OpenLaw.row PySem.Challenge.rw_carrylog_k54_choose_family).prog 72) (kwd := []) Hd.ob_eq
    (by kernel_rfl) (fun s => by kernel_rfl) Hd.run (by kernel_rfl) (by kernel_rfl) (by kernel_rfl) (by rfl) (by first | assumption | decide +kernel) (by decide +kernel) ⟨rfl, rfl, rfl, rfl, rfl, by decide +kernel⟩ ?hw ?hc
  case hw => w_witness2
  case hc =>
    refine L2.walk_ofE (l := PySem.Challenge.rw_carrylog_k54_choose_family) (n := 63) (k := 28) (x := "_law_script") (CX := Hd.cxA PySem.Challenge.pw_carrylog_k54_choose_family) rfl (by decide) (by kernel_rfl) ⟨rfl, by decide, by decide⟩ ?F (fun _ _ _ _ z => by
      obtain ⟨w, _, _, _, _, _, _, _, _, _, _, _, _, z⟩ := z
      exact z)
    intro w mg fa h Y G hmg0
    obtain ⟨K, KX, c⟩ := Y
    have hmg : mg ("law" : PySem.Str) = some (.ref fa) := by
      have e : (HandSHeadRun.topDef (OpenLaw.row PySem.Challenge.rw_carrylog_k54_choose_family).prog 72).name = ("law" : PySem.Str) := by kernel_rfl
      rw [← e]
      exact hmg0
    have T : ∀ base : Heap, Lw.Top ⟨PySem.Challenge.pw_carrylog_k54_choose_family, w, K, mg, base⟩ := fun base => ⟨rfl, h, KX, G, c⟩
    obtain ⟨fd, F⟩ := Lw.fd_law (T h)
    have hf : fa = Cy.gad K "law" := by
      have := (Lw.gf_law (T h)).mg
      exact Value.ref.inj (Option.some.inj (hmg.symm.trans this))
    subst hf
    exact ⟨K, fd, Lw.spLaw ⟨PySem.Challenge.pw_carrylog_k54_choose_family, w, K, mg, h⟩, KX, fun s v => L2.FunD.bindsA (ps := ["_law_script"]) F (fun _ _ _ _ _ _ us hl => match us, hl with | [_], _ => rfl) s [v] rfl,
      fun H a ns hl _ hS => ⟨a, ns, rfl, hl, hS, fun _ => rfl⟩, fun base _ _ => Hd.ok_cx (Lw.ok_the_law (T base) F)⟩
