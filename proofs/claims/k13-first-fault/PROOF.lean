import PyProof.Rows.All
import Wide.All
import OpenK.AllK
import Wide.FinOn
import KE.KStateDown
import Lean
import HandS.ForMost
import HandS.ForExc
import HandS.More
import HandS.Flow
import HandS.IsInst
import HandS.Defaults
import HandS.Head0
import HandS.Head1
import HandS.Head2
import HandS.HeadEnd
import HandS.HeadHook1
import HandS.HeadHook2
import HandS.HeadHook3
import HandS.TupAny
import HandS.Star
import HandS.Wide
import HandS.Zip
import HandS.Rev
import HandS.TryMany
import HandS.Small
import HandS.RaiseMore
import HandS.OwnEq
import HandS.Walk
import HandS.Deep
import HandS.ExcInit
import HandS.ExcField
import HandS.RevRange
import PySem.Challenge.RW_penhome_k13_first_fault_in_reading_order
set_option Elab.async false
set_option linter.all false
set_option maxRecDepth 100000
set_option maxHeartbeats 4000000
namespace PH
open PySem PySem.Spec PyProof.Rows L2
section
variable {X : Cx}
theorem PE_imp {e : Expr} {t u : TE} (h : PE X e t) (i : ∀ σ H Q, u σ H Q → t σ H Q) : PE X e u := ⟨fun pins s σ H Q I q => h.run pins s σ H Q I (i σ H Q q)⟩
theorem PT_imp {e : Expr} {t u : TT} (h : PT X e t) (i : ∀ σ H Q, u σ H Q → t σ H Q) : PT X e u := ⟨fun pins s σ H Q I q => h.run pins s σ H Q I (i σ H Q q)⟩
theorem OpR_imp {f : Value → Value → Sem Value} {r u : R2} (h : OpR X f r) (i : ∀ x y H Q, u x y H Q → r x y H Q) : OpR X f u := fun pins s σ H x y v w Q I rx ry q => h pins s σ H x y v w Q I rx ry (i x y H Q q)
theorem CallR_imp {f : Value} {r u : List V → Hp → VK → Prop} (h : CallR X f r) (i : ∀ xs H Q, u xs H Q → r xs H Q) : CallR X f u := fun pins s σ H xs us Q I rx q => h pins s σ H xs us Q I rx (i xs H Q q)
theorem IxR_imp {r u : R2} (h : IxR X r) (i : ∀ x y H Q, u x y H Q → r x y H Q) : IxR X u := fun e1 e2 pins s σ H x y v w Q I rx ry q => h e1 e2 pins s σ H x y v w Q I rx ry (i x y H Q q)
/-- the i-th slot -/
def sl : L2.St → Nat → Option V
  | [], _ => none
  | x :: _, 0 => x
  | _ :: r, n + 1 => sl r n
theorem sl_at : ∀ {σ : L2.St} {i : Nat} {v : V}, sl σ i = some v → σ[i]? = some (some v)
  | [], _, _, h => by cases h
  | x :: _, 0, v, h => by
    have e : x = some v := h
    rw [e]; rfl
  | _ :: r, n + 1, v, h => by
    have e := sl_at (σ := r) (i := n) (v := v) h
    simpa using e
def cVar (i : Nat) : TE := fun σ H Q => match sl σ i with
  | some v => Q v H
  | none => False
theorem cv (i : Nat) {x : Str} {pos : Pos} (hN : X.N[i]? = some x := by rfl) (hv : Vis X.env.scope x := by first | exact Or.inl rfl | exact Or.inr (Or.inl rfl) | exact Or.inr (Or.inr rfl)) (hd : (x == ("__debug__" : Str)) = false := by decide)
    (hcd : (x == ("__classdict__" : Str)) = false := by decide) : PE X (.Name x pos) (cVar i) := PE_imp (pe_var hN hv hd hcd) fun σ H Q h => by
  unfold cVar at h
  cases e : sl σ i with
  | none => rw [e] at h; exact h.elim
  | some v => rw [e] at h; exact ⟨v, sl_at e, h⟩
def cI0 (g : Int → Int → V) : R2 := fun x y H Q => match x, y with
  | .int i, .int j => Q (g i j) H
  | _, _ => False
def cI (C : Int → Int → Prop) (g : Int → Int → V) : R2 := fun x y H Q => match x, y with
  | .int i, .int j => C i j ∧ Q (g i j) H
  | _, _ => False
theorem cI0_to {g : Int → Int → V} : ∀ x y H Q, cI0 g x y H Q → rI0 g x y H Q := fun x y H Q h => by
  cases x with
  | int i => cases y with
    | int j => exact ⟨i, j, rfl, rfl, h⟩
    | _ => exact h.elim
  | _ => exact h.elim
theorem cI_to {C : Int → Int → Prop} {g : Int → Int → V} : ∀ x y H Q, cI C g x y H Q → rI C g x y H Q := fun x y H Q h => by
  cases x with
  | int i => cases y with
    | int j => exact ⟨i, j, rfl, rfl, h.1, h.2⟩
    | _ => exact h.elim
  | _ => exact h.elim
def rAddI : R2 := fun x y H Q => match x, y with
  | .int i, .int j => Q (.int (i + j)) H
  | _, _ => False
def rSubC : R2 := fun x y H Q => match x, y with
  | .int i, .int j => Q (.int (i - j)) H
  | _, _ => False
def rMulC : R2 := fun x y H Q => match x, y with
  | .int i, .int j => IntMulOk i j ∧ Q (.int (i * j)) H
  | _, _ => False
def rModC : R2 := fun x y H Q => match x, y with
  | .int i, .int j => (0 < j) ∧ Q (.int (i % j)) H
  | _, _ => False
def rFdivC : R2 := fun x y H Q => match x, y with
  | .int i, .int j => (CDiv i j) ∧ Q (.int (i / j)) H
  | _, _ => False
def rPowC : R2 := fun x y H Q => match x, y with
  | .int i, .int j => (CPow i j) ∧ Q (.int (i ^ j.toNat)) H
  | _, _ => False
def rLtC : R2 := fun x y H Q => match x, y with
  | .int i, .int j => Q (.bl (decide (i < j))) H
  | _, _ => False
def rLeC : R2 := fun x y H Q => match x, y with
  | .int i, .int j => Q (.bl (decide (i ≤ j))) H
  | _, _ => False
def rGtC : R2 := fun x y H Q => match x, y with
  | .int i, .int j => Q (.bl (decide (j < i))) H
  | _, _ => False
def rGeC : R2 := fun x y H Q => match x, y with
  | .int i, .int j => Q (.bl (decide (j ≤ i))) H
  | _, _ => False
/-- x + y: ints, texts, lists, tuples -/
def cAdd (K : PySem.W.Frag) : R2 := fun x y H Q => match x, y with
  | .int i, .int j => Q (.int (i + j)) H
  | .str a, .str b => a.length + b.length ≤ sizeLine ∧ Q (.str (a ++ b)) H
  | .ref _, .ref _ => rCat x y H Q ∨ rCatA K x y H Q
  | _, _ => False
theorem op_addC : OpR X (binaryOp .Add) (cAdd X.K) := by
  refine OpR_imp (OpR.or (X := X) op_add (OpR.or op_add_str (OpR.or op_cat op_catA))) fun x y H Q h => ?_
  cases x with
  | int i => cases y with
    | int j => exact .inl ⟨i, j, rfl, rfl, h⟩
    | _ => exact h.elim
  | str i => cases y with
    | str j => exact .inr (.inl ⟨i, j, rfl, rfl, h.1, h.2⟩)
    | _ => exact h.elim
  | ref i => cases y with
    | ref j => exact .inr (.inr h)
    | _ => exact h.elim
  | _ => exact h.elim
theorem op_subC : OpR X (binaryOp .Sub) rSubC := OpR_imp op_sub fun x y H Q h => cI0_to (g := fun i j => .int (i - j)) x y H Q h
theorem op_mulO : OpR X (binaryOp .Mult) (rI IntMulOk fun i j => .int (i * j)) := opI fun _ _ _ _ _ _ _ hc q => mul_int q hc
theorem op_mulC : OpR X (binaryOp .Mult) rMulC := OpR_imp op_mulO fun x y H Q h => cI_to (C := IntMulOk) (g := fun i j => .int (i * j)) x y H Q h
theorem mulL {i j : Int} (h1 : -(2 ^ 64) < i) (h2 : i < 2 ^ 64) : IntMulOk i j := CMul.ok (.inl ⟨h1, h2⟩)
theorem mulR {i j : Int} (h1 : -(2 ^ 64) < j) (h2 : j < 2 ^ 64) : IntMulOk i j := CMul.ok (.inr ⟨h1, h2⟩)
theorem op_modC : OpR X (binaryOp .Mod) rModC := OpR_imp op_mod fun x y H Q h => cI_to (C := fun _ j => 0 < j) (g := fun i j => .int (i % j)) x y H Q h
theorem op_fdivC : OpR X (binaryOp .FloorDiv) rFdivC := OpR_imp op_fdiv fun x y H Q h => cI_to (C := CDiv) (g := fun i j => .int (i / j)) x y H Q h
theorem op_powC : OpR X (binaryOp .Pow) rPowC := OpR_imp op_pow fun x y H Q h => cI_to (C := CPow) (g := fun i j => .int (i ^ j.toNat)) x y H Q h
theorem op_ltC : OpR X (compareOp .Lt) rLtC := OpR_imp op_lt fun x y H Q h => cI0_to (g := fun i j => .bl (decide (i < j))) x y H Q h
theorem op_leC : OpR X (compareOp .LtE) rLeC := OpR_imp op_le fun x y H Q h => cI0_to (g := fun i j => .bl (decide (i ≤ j))) x y H Q h
theorem op_gtC : OpR X (compareOp .Gt) rGtC := OpR_imp op_gt fun x y H Q h => cI0_to (g := fun i j => .bl (decide (j < i))) x y H Q h
theorem op_geC : OpR X (compareOp .GtE) rGeC := OpR_imp op_ge fun x y H Q h => cI0_to (g := fun i j => .bl (decide (j ≤ i))) x y H Q h
def cNeg : V → Hp → VK → Prop := fun x H Q => match x with
  | .int i => Q (.int (-i)) H
  | _ => False
theorem un_negC : UnR X (unaryOp .USub) cNeg := fun pins s σ H x v Q I rx h => un_neg pins s σ H x v Q I rx (by
  cases x with
  | int i => exact ⟨i, rfl, h⟩
  | _ => exact h.elim)
/-- == by values: ints and texts at once, the rest as data -/
def cEq (K : PySem.W.Frag) : R2 := fun x y H Q => match x, y with
  | .int i, .int j => Q (.bl (decide (i = j))) H
  | .str i, .str j => Q (.bl (decide (i = j))) H
  | _, _ => rEqD K x y H Q
def cNe (K : PySem.W.Frag) : R2 := fun x y H Q => match x, y with
  | .int i, .int j => Q (.bl (!decide (i = j))) H
  | .str i, .str j => Q (.bl (!decide (i = j))) H
  | _, _ => rNeD K x y H Q
theorem dI {i j : Int} : decide (V.int i = V.int j) = decide (i = j) := by
  by_cases h : i = j
  · rw [decide_eq_true h, h, decide_eq_true rfl]
  · rw [decide_eq_false h, decide_eq_false fun e => h (V.int.inj e)]
theorem dS {i j : Str} : decide (V.str i = V.str j) = decide (i = j) := by
  by_cases h : i = j
  · rw [decide_eq_true h, h, decide_eq_true rfl]
  · rw [decide_eq_false h, decide_eq_false fun e => h (V.str.inj e)]
theorem op_eqC (hu : X.A.units + 64 < cLine) : OpR X (compareOp .Eq) (cEq X.K) := by
  refine OpR_imp (OpR.or (X := X) op_eq (op_eqD hu)) fun x y H Q h => ?_
  cases x with
  | int i => cases y with
    | int j => exact .inl ⟨rfl, by rw [dI]; exact h⟩
    | _ => exact .inr h
  | str i => cases y with
    | str j => exact .inl ⟨rfl, by rw [dS]; exact h⟩
    | _ => exact .inr h
  | _ => exact .inr h
theorem op_neC (hu : X.A.units + 64 < cLine) : OpR X (compareOp .NotEq) (cNe X.K) := by
  refine OpR_imp (OpR.or (X := X) op_ne (op_neD hu)) fun x y H Q h => ?_
  cases x with
  | int i => cases y with
    | int j => exact .inl ⟨rfl, by rw [dI]; exact h⟩
    | _ => exact .inr h
  | str i => cases y with
    | str j => exact .inl ⟨rfl, by rw [dS]; exact h⟩
    | _ => exact .inr h
  | _ => exact .inr h
variable {a b c : Expr} {ta tb tc : TE} {pos : Pos}
def cT (K : PySem.W.Frag) : V → Hp → (Bool → Hp → Prop) → Prop := fun x H Q => match x with
  | .bl k => Q k H
  | .non => Q false H
  | .int i => Q (i != 0) H
  | x => ∃ k, TruV K x H k ∧ Q k H
def cTest (K : PySem.W.Frag) (t : TE) : TT := fun σ H Q => t σ H fun x H' => cT K x H' Q
theorem cT_to {K : PySem.W.Frag} : ∀ x H Q, cT K x H Q → ∃ k, TruV K x H k ∧ Q k H := fun x H Q h => by
  cases x with
  | bl k => exact ⟨k, rfl, h⟩
  | non => exact ⟨false, rfl, h⟩
  | int i => exact ⟨_, rfl, h⟩
  | _ => exact h
theorem t_val (ha : PE X a ta) (he : ∀ whole, isTrue a X.env whole = (do let v ← whole; standAt a.pos; holding [v] (truthy v)) := by intro _; rfl) : PT X a (cTest X.K ta) := by
  refine ⟨fun pins s σ H Q I h => ?_⟩
  exact isTrue_plain (thn (ha.run pins s σ H _ I h) fun v s1 ⟨x, H1, I1, r1, q1⟩ => tru_ok pins s1 σ H1 x v Q I1 r1 (cT_to x H1 Q q1)) (he _)
def cB (t : TE) : TT := fun σ H Q => t σ H fun x H' => match x with
  | .bl k => Q k H'
  | _ => False
theorem cB_tTest {t : TE} (h : PT X a (tTest t)) (mono : ∀ σ H (Q Q' : VK), (∀ x H', Q x H' → Q' x H') → t σ H Q → t σ H Q') : PT X a (cB t) := PT_imp h fun σ H Q h => mono σ H _ _ (fun x H' q => by
  cases x with
  | bl k => exact ⟨k, rfl, q⟩
  | _ => exact q.elim) h
theorem t_cmp {op : CmpOp} {r : R2} (ho : OpR X (compareOp op) r) (ha : PE X a ta) (hb : PE X b tb) (hm : behindInMarks op b = false := by rfl) : PT X (.Compare a [op] [b] pos) (cB (tOp r ta tb)) := by
  refine ⟨fun pins s σ H Q I h => ?_⟩
  have h' : ta σ H fun x H1 => tb σ H1 fun y H2 => r x y H2 fun z H3 => (match z with | .bl k => Q k H3 | _ => False) := h
  refine wpAny_isTrue_Compare1 (thn (ha.run pins s σ H _ I h') fun v s1 ⟨x, H1, I1, r1, q1⟩ => thn (hb.run pins s1 σ H1 _ I1 q1) fun u s2 ⟨y, H2, I2, r2, q2⟩ => thn (ho pins s2 σ H2 x y v u _ I2 r1 r2 q2) fun d s3 hz => ?_) hm
  obtain ⟨z, H3, I3, r3, q3⟩ := hz
  cases z with
  | bl k => cases r3; exact wpAny_truthy_bool ⟨H3, I3, q3⟩
  | _ => exact q3.elim
theorem e_cmp {op : CmpOp} {r : R2} (ho : OpR X (compareOp op) r) (ha : PE X a ta) (hb : PE X b tb) (hm : behindInMarks op b = false := by rfl) : PE X (.Compare a [op] [b] pos) (tOp r ta tb) := pe_cmpR ho ha hb hm
end
section
variable {X : Cx} {a b c : Expr} {ta tb tc : TE} {pos : Pos}
variable {rest : List Expr}
def cAndV (ta tb : TE) : TE := fun σ H Q => ta σ H fun x H1 => match x with
  | .bl c => if c = true then tb σ H1 Q else Q (.bl false) H1
  | _ => False
def cOrV (ta tb : TE) : TE := fun σ H Q => ta σ H fun x H1 => match x with
  | .bl c => if c = true then Q (.bl true) H1 else tb σ H1 Q
  | _ => False
def cNotV (K : PySem.W.Frag) (ta : TE) : TE := fun σ H Q => ta σ H fun x H1 => cT K x H1 fun k H2 => Q (.bl (!k)) H2
theorem e_and (ha : PE X a ta) (hb : PE X (.BoolOp .And (b :: rest) pos) tb) : PE X (.BoolOp .And (a :: b :: rest) pos) (cAndV ta tb) := by
  refine ⟨fun pins s σ H Q I h => ?_⟩
  refine BoolOp_and (thn (ha.run pins s σ H _ I h) fun v s1 hq => ?_)
  obtain ⟨x, H1, I1, r1, q1⟩ := hq
  cases x with
  | bl c =>
    cases r1
    refine wpAny_truthy_bool ?_
    cases c with
    | true => exact hb.run pins s1 σ H1 Q I1 q1
    | false => exact ⟨.bl false, H1, I1, rfl, q1⟩
  | _ => exact q1.elim
theorem e_or (ha : PE X a ta) (hb : PE X (.BoolOp .Or (b :: rest) pos) tb) : PE X (.BoolOp .Or (a :: b :: rest) pos) (cOrV ta tb) := by
  refine ⟨fun pins s σ H Q I h => ?_⟩
  refine BoolOp_or (thn (ha.run pins s σ H _ I h) fun v s1 hq => ?_)
  obtain ⟨x, H1, I1, r1, q1⟩ := hq
  cases x with
  | bl c =>
    cases r1
    refine wpAny_truthy_bool ?_
    cases c with
    | false => exact hb.run pins s1 σ H1 Q I1 q1
    | true => exact ⟨.bl true, H1, I1, rfl, q1⟩
  | _ => exact q1.elim
theorem e_not (ha : PE X a ta) : PE X (.UnaryOp .Not a pos) (cNotV X.K ta) := by
  refine ⟨fun pins s σ H Q I h => ?_⟩
  refine UnaryOp_ (thn (ha.run pins s σ H _ I h) fun v s1 hq => ?_)
  obtain ⟨x, H1, I1, r1, q1⟩ := hq
  exact not_of (thn (tru_ok pins s1 σ H1 x v (fun c H2 => Q (.bl (!c)) H2) I1 r1 (cT_to x H1 _ q1)) fun c s2 ⟨H2, I2, q2⟩ => ⟨.bl (!c), H2, I2, rfl, q2⟩)
def cChainG (r r' : R2) (ta tb tc : TE) : TE := fun σ H Q => ta σ H fun x H1 => tb σ H1 fun y H2 => r x y H2 fun z H3 => match z with
  | .bl k => if k = true then tc σ H3 fun w' H4 => r' y w' H4 Q else Q (.bl false) H3
  | _ => False
theorem e_chain {op op' : CmpOp} {r r' : R2} (ho : OpR X (compareOp op) r) (ho' : OpR X (compareOp op') r') (ha : PE X a ta) (hb : PE X b tb) (hc : PE X c tc)
    (hm : lastMarks [op, op'] [b, c] = false := by with_unfolding_all rfl) : PE X (.Compare a [op, op'] [b, c] pos) (cChainG r r' ta tb tc) := by
  refine ⟨fun pins s σ H Q I h => ?_⟩
  refine Compare_chain (thn (ha.run pins s σ H _ I h) fun v s1 ⟨x, H1, I1, r1, q1⟩ => chain_link (thn (hb.run pins s1 σ H1 _ I1 q1) fun u s2 ⟨y, H2, I2, r2, q2⟩ =>
    thn (ho pins s2 σ H2 x y v u _ I2 r1 r2 q2) fun d s3 hz => ?_)) hm
  obtain ⟨z, H3, I3, r3, q3⟩ := hz
  cases z with
  | bl k =>
    cases r3
    refine wpAny_truthy_bool ?_
    cases k with
    | false => exact ite_ff ⟨.bl false, H3, I3, rfl, q3⟩
    | true => exact ite_tt (chain_last (thn (hc.run pins s3 σ H3 _ I3 q3) fun w' s4 ⟨z', H4, I4, r4, q4⟩ => ho' pins s4 σ H4 y z' u w' Q I4 r2 r4 q4))
  | _ => exact q3.elim
theorem t_chain {op op' : CmpOp} {r r' : R2} (ho : OpR X (compareOp op) r) (ho' : OpR X (compareOp op') r') (ha : PE X a ta) (hb : PE X b tb) (hc : PE X c tc)
    (hm : lastMarks [op, op'] [b, c] = false := by with_unfolding_all rfl) : PT X (.Compare a [op, op'] [b, c] pos) (cB (cChainG r r' ta tb tc)) := by
  refine ⟨fun pins s σ H Q I h => ?_⟩
  refine isTrue_chain (thn (ha.run pins s σ H _ I h) fun v s1 ⟨x, H1, I1, r1, q1⟩ => test_link (thn (hb.run pins s1 σ H1 _ I1 q1) fun u s2 ⟨y, H2, I2, r2, q2⟩ =>
    thn (ho pins s2 σ H2 x y v u _ I2 r1 r2 q2) fun d s3 hz => ?_)) hm
  obtain ⟨z, H3, I3, r3, q3⟩ := hz
  cases z with
  | bl k =>
    cases r3
    refine wpAny_truthy_bool ?_
    cases k with
    | false => exact ite_ff ⟨H3, I3, q3⟩
    | true =>
      refine ite_tt (test_last (thn (hc.run pins s3 σ H3 _ I3 q3) fun w' s4 ⟨z', H4, I4, r4, q4⟩ => thn (ho' pins s4 σ H4 y z' u w' _ I4 r2 r4 q4) fun d' s5 hz2 => ?_))
      obtain ⟨z2, H5, I5, r5, q5⟩ := hz2
      cases z2 with
      | bl k2 => cases r5; exact wpAny_truthy_bool ⟨H5, I5, q5⟩
      | _ => exact q5.elim
  | _ => exact q3.elim
def cIx (K : PySem.W.Frag) : R2 := fun x y H Q => match x, y with
  | .ref p, .int i => ∃ xs v, (SqL K H p xs ∨ SqT K H p xs) ∧ atI xs i = some v ∧ Q v H
  | .str z, .int i => z.length ≤ sizeLine ∧ ∃ c, atI z.cps.toList i = some c ∧ Q (.str ⟨#[c]⟩) H
  | _, _ => False
theorem ix_C : IxR X (cIx X.K) := IxR_imp ix_seq fun x y H Q h => by
  cases x with
  | ref p => cases y with
    | int i =>
      obtain ⟨xs, v, h1 | h1, h2, q⟩ := h
      · exact .inl ⟨p, xs, i, v, rfl, rfl, h1, h2, q⟩
      · exact .inr (.inl ⟨p, xs, i, v, rfl, rfl, h1, h2, q⟩)
    | _ => exact h.elim
  | str z => cases y with
    | int i =>
      obtain ⟨h1, c, h2, q⟩ := h
      exact .inr (.inr ⟨z, i, c, rfl, rfl, h1, h2, q⟩)
    | _ => exact h.elim
  | _ => exact h.elim
theorem e_ix (ha : PE X a ta) (hb : PE X b tb) (hs : PlainIx b := by intro _ _; rfl) : PE X (.Subscript a b pos) (tOp (cIx X.K) ta tb) := pe_ix ix_C ha hb hs
def cLen (K : PySem.W.Frag) : V → Hp → VK → Prop := fun x H Q => match x with
  | .str z => z.length ≤ sizeLine ∧ Q (.int z.length) H
  | .ref p => ∃ ys, (SqL K H p ys ∨ SqT K H p ys) ∧ Q (.int ys.length) H
  | _ => False
def c1 (r : V → Hp → VK → Prop) : List V → Hp → VK → Prop := fun xs H Q => match xs with
  | [x] => r x H Q
  | _ => False
theorem e_len {p : Pos} (hm : X.mg "len" = none) (ha : PE X a ta) (hg : Gl X "len" := by rfl) (hs : starEach [a] X.env = [(false, eval a X.env)] := by rfl) : PE X (.Call (.Name "len" p) [a] [] pos) (tCB (c1 (cLen X.K)) (tCons ta tNil)) :=
  pe_callB (CallR_imp (CallR.or call_len_seq call_len_str) fun xs H Q h => by
    match xs, h with
    | [x], h =>
      cases x with
      | str z => exact .inr ⟨z, rfl, h.1, h.2⟩
      | ref p =>
        obtain ⟨ys, h1, q⟩ := h
        exact .inl ⟨p, ys, rfl, h1, q⟩
      | _ => exact h.elim) hg hm boot_len (pa_cons ha pa_nil hs) (he := hs)
def cInt : V → Hp → VK → Prop := fun x H Q => match x with
  | .int i => Q (.int i) H
  | .bl k => Q (.int (if k then 1 else 0)) H
  | _ => False
theorem e_int {p : Pos} (hm : X.mg "int" = none) (ha : PE X a ta) (hg : Gl X "int" := by rfl) (hs : starEach [a] X.env = [(false, eval a X.env)] := by rfl) : PE X (.Call (.Name "int" p) [a] [] pos) (tCB (c1 cInt) (tCons ta tNil)) :=
  pe_callTy (CallR_imp call_int1 fun xs H Q h => by
    match xs, h with
    | [x], h =>
      cases x with
      | int i => exact .inl ⟨i, rfl, h⟩
      | bl k => exact .inr ⟨k, rfl, h⟩
      | _ => exact h.elim) hg hm boot_int (pa_cons ha pa_nil hs) (he := hs)
def tyOf : V → Option String
  | .non => some "NoneType"
  | .bl _ => some "bool"
  | .int _ => some "int"
  | .str _ => some "str"
  | _ => none
def isTy (T n : String) : Bool := n == T || (n == "bool" && T == "int")
def kinds : List String := ["NoneType", "bool", "int", "str", "list", "tuple", "dict"]
def targets : List String := ["int", "bool", "str", "list", "tuple", "dict"]
theorem kit_tab (K : PySem.W.Frag) : (kinds.all fun n => targets.all fun T => decide (PySem.W.kitOne K (.type n) (.type T) = some (isTy T n))) = true := by kernel_rfl
theorem kit_at {K : PySem.W.Frag} {n T : String} (hn : n ∈ kinds) (hT : T ∈ targets) : PySem.W.kitOne K (.type n) (.type T) = some (isTy T n) :=
  of_decide_eq_true (List.all_eq_true.mp (List.all_eq_true.mp (kit_tab K) n hn) T hT)
/-- what kind of thing stands at a -/
def KindAt (K : PySem.W.Frag) (H : Hp) (a : Addr) (n : String) : Prop := n ∈ ["list", "tuple", "dict"] ∧ TyX K H (.ref a) (.type n)
def cIsi (K : PySem.W.Frag) (T : String) : V → Hp → VK → Prop := fun x H Q => match x with
  | .non => Q (.bl false) H
  | .bl _ => Q (.bl (T == "bool" || T == "int")) H
  | .int _ => Q (.bl (T == "int")) H
  | .str _ => Q (.bl (T == "str")) H
  | .ref a => ∃ n, KindAt K H a n ∧ Q (.bl (n == T)) H
  | _ => False
def cIsiL (K : PySem.W.Frag) (T : String) : List V → Hp → VK → Prop := fun xs H Q => match xs with
  | [x, .ty n] => if n = T then cIsi K T x H Q else False
  | _ => False
theorem call_isiC {T : String} (hT : T ∈ targets) : CallR X (.builtin "isinstance") (cIsiL X.K T) := CallR_imp call_isi fun xs H Q h => by
  match xs, h with
  | [x, .ty n], h =>
    have h0 : if n = T then cIsi X.K T x H Q else False := h
    by_cases e : n = T
    case neg => rw [if_neg e] at h0; exact h0.elim
    rw [if_pos e] at h0
    replace h := h0
    subst e
    have go : ∀ (k : String) (b : Bool), k ∈ kinds → TyX X.K H x (.type k) → b = isTy n k → Q (.bl b) H → rIsi X.K [x, .ty n] H Q := fun k b hk ty e q => ⟨x, .ty n, .type k, .type n, isTy n k, rfl, .ty n, ty, kit_at hk hT, by rw [← e]; exact q⟩
    have h6 : n = "int" ∨ n = "bool" ∨ n = "str" ∨ n = "list" ∨ n = "tuple" ∨ n = "dict" := by simpa [targets] using hT
    cases x with
    | non => exact go "NoneType" false (by decide) (.base .non) (by rcases h6 with e | e | e | e | e | e <;> subst e <;> decide) h
    | bl b => exact go "bool" _ (by decide) (.base (.bl b)) (by rcases h6 with e | e | e | e | e | e <;> subst e <;> decide) h
    | int b => exact go "int" _ (by decide) (.base (.int b)) (by rcases h6 with e | e | e | e | e | e <;> subst e <;> decide) h
    | str b => exact go "str" _ (by decide) (.base (.str b)) (by rcases h6 with e | e | e | e | e | e <;> subst e <;> decide) h
    | ref a =>
      obtain ⟨k, ⟨hk, ty⟩, q⟩ := h
      have h3 : k = "list" ∨ k = "tuple" ∨ k = "dict" := by simpa using hk
      exact go k _ (by rcases h3 with e | e | e <;> subst e <;> decide) ty (by rcases h6 with e | e | e | e | e | e <;> rcases h3 with e' | e' | e' <;> subst e <;> subst e' <;> decide) q
    | _ => exact h.elim
/-- isinstance(e, T) -/
def cIsE (K : PySem.W.Frag) (T : String) (ta : TE) : TE := fun σ H Q => ta σ H fun x H1 => cIsi K T x H1 Q
theorem e_isi {p q : Pos} {T : String} {y : Str} (hm : X.mg "isinstance" = none) (hmT : X.mg y = none) (ha : PE X a ta) (hT : T ∈ targets := by decide) (hv : bootBuiltins y = some (.type T) := by decide +kernel)
    (hg : Gl X "isinstance" := by rfl) (hgT : Gl X y := by rfl) (hn : y ≠ "__name__" := by decide) (hd : (y == ("__debug__" : Str)) = false := by decide) (hs : starEach [a, .Name y q] X.env = (false, eval a X.env) :: starEach [.Name y q] X.env := by rfl) :
    PE X (.Call (.Name "isinstance" p) [a, .Name y q] [] pos) (cIsE X.K T ta) :=
  PE_imp (pe_callB (call_isiC hT) hg hm boot_isinstance (pa_cons ha (pa_cons (pe_bltn (v := .ty T) hgT hmT hv rfl hn hd) pa_nil) hs) (he := hs)) fun σ H Q h => by
    show ta σ H fun x H1 => if T = T then cIsi X.K T x H1 Q else False
    simp only [if_true]
    exact h
def cAll (K : PySem.W.Frag) : V → Hp → VK → Prop := fun x H Q => match x with
  | .ref p => ∃ bs : List Bool, SqL K H p (bs.map V.bl) ∧ Q (.bl (bs.all id)) H
  | _ => False
theorem e_all {p : Pos} (hm : X.mg "all" = none) (ha : PE X a ta) (hc : X.calm = true := by rfl) (hg : Gl X "all" := by rfl) (hs : starEach [a] X.env = [(false, eval a X.env)] := by rfl) : PE X (.Call (.Name "all" p) [a] [] pos) (tCB (c1 (cAll X.K)) (tCons ta tNil)) :=
  pe_callB (CallR_imp (cr_all hc) fun xs H Q h => by
    match xs, h with
    | [x], h =>
      cases x with
      | ref p =>
        obtain ⟨bs, h1, q⟩ := h
        exact ⟨p, bs, rfl, h1, q⟩
      | _ => exact h.elim) hg hm boot_all (pa_cons ha pa_nil hs) (he := hs)
def cSum (K : PySem.W.Frag) : V → Hp → VK → Prop := fun x H Q => match x with
  | .ref p => ∃ ns : List Int, SqL K H p (ns.map V.int) ∧ Q (.int ns.sum) H
  | _ => False
theorem e_sum {p : Pos} (hm : X.mg "sum" = none) (ha : PE X a ta) (hc : X.calm = true := by rfl) (hg : Gl X "sum" := by rfl) (hs : starEach [a] X.env = [(false, eval a X.env)] := by rfl) : PE X (.Call (.Name "sum" p) [a] [] pos) (tCB (c1 (cSum X.K)) (tCons ta tNil)) :=
  pe_callB (CallR_imp (cr_sum hc) fun xs H Q h => by
    match xs, h with
    | [x], h =>
      cases x with
      | ref p =>
        obtain ⟨bs, h1, q⟩ := h
        exact ⟨p, bs, rfl, h1, q⟩
      | _ => exact h.elim) hg hm boot_sum (pa_cons ha pa_nil hs) (he := hs)
def cList (K : PySem.W.Frag) : V → Hp → VK → Prop := fun x H Q => match x with
  | .ref p => ∃ ys, (SqL K H p ys ∨ SqT K H p ys) ∧ ∀ l, H l = none → Q (.ref l) (upd H l (.lst ys))
  | _ => False
theorem e_list {p : Pos} (hm : X.mg "list" = none) (ha : PE X a ta) (hg : Gl X "list" := by rfl) (hs : starEach [a] X.env = [(false, eval a X.env)] := by rfl) : PE X (.Call (.Name "list" p) [a] [] pos) (tCB (c1 (cList X.K)) (tCons ta tNil)) :=
  pe_callTy (CallR_imp call_list_of fun xs H Q h => by
    match xs, h with
    | [x], h =>
      cases x with
      | ref p =>
        obtain ⟨bs, h1, q⟩ := h
        exact ⟨p, bs, rfl, h1, q⟩
      | _ => exact h.elim) hg hm boot_list (pa_cons ha pa_nil hs) (he := hs)
/-- tuple(x), x a list -/
def cTuple (K : PySem.W.Frag) : V → Hp → VK → Prop := fun x H Q => match x with
  | .ref p => ∃ ys, SqL K H p ys ∧ ∀ l, H l = none → Q (.ref l) (upd H l (.tup ys))
  | _ => False
theorem e_tuple {p : Pos} (hm : X.mg "tuple" = none) (ha : PE X a ta) (hg : Gl X "tuple" := by rfl) (hs : starEach [a] X.env = [(false, eval a X.env)] := by rfl) : PE X (.Call (.Name "tuple" p) [a] [] pos) (tCB (c1 (cTuple X.K)) (tCons ta tNil)) :=
  pe_callTy (CallR_imp call_tuple_of fun xs H Q h => by
    match xs, h with
    | [x], h =>
      cases x with
      | ref p =>
        obtain ⟨ys, h1, q⟩ := h
        exact ⟨p, ys, rfl, .inl ⟨h1, q⟩⟩
      | _ => exact h.elim) hg hm boot_tuple (pa_cons ha pa_nil hs) (he := hs)
/-- what a promise of so many arguments is -/
def sp1 (p : V → Hp → VK → Prop) : Sp := fun vs H Q _ => match vs with
  | [a] => p a H Q
  | _ => False
def sp2 (p : V → V → Hp → VK → Prop) : Sp := fun vs H Q _ => match vs with
  | [a, b] => p a b H Q
  | _ => False
def sp3 (p : V → V → V → Hp → VK → Prop) : Sp := fun vs H Q _ => match vs with
  | [a, b, c] => p a b c H Q
  | _ => False
def sp0 (p : Hp → VK → Prop) : Sp := fun vs H Q _ => match vs with
  | [] => p H Q
  | _ => False
end
/-- the def x keeps the promise sp, at the level k -/
def Ok (P : Program) (w : World) (K : PySem.W.Frag) (mg : Str → Option Value) (base : Heap) (k : Nat) (x : Str) (ps : List Str) (sp : Sp) : Prop :=
  ∃ fd, FnOk P w K mg base CX0 k (He.ga K x) fd ps sp ∧ mg x = some (.ref (He.ga K x)) ∧ PySem.W.keepIn K (.ref (He.ga K x)) = true ∧ Binds K fd ps [] ∧ ∃ oc od osl, K.lookup (He.ga K x) = some ⟨oc, od, .func fd, osl⟩
section
variable {X : Cx} {e : Expr} {es : List Expr} {t : TA} {pos p : Pos} {x : Str} {ps : List Str} {sp : Sp} {k j : Nat}
def cCall (sp : Sp) (t : TA) : TE := fun σ H Q => t σ H fun vs H1 => sp vs H1 Q E0
theorem app_nil_fun {sp : Sp} {Q : VK} {E : XK} : (fun (vs : List V) (H1 : Hp) => sp (vs ++ []) H1 Q E) = fun vs H1 => sp vs H1 Q E := by
  funext vs H1
  rw [List.append_nil]
theorem e_call (F : Ok X.prog X.w X.K X.mg X.base j x ps sp) (hr : Room k X.A) (ha : PA X (e :: es) t) (hjk : j ≤ k := by decide) (hg : Gl X x := by rfl) (hdb : (x == ("__debug__" : Str)) = false := by decide)
    (he : starEach (e :: es) X.env = (false, eval e X.env) :: starEach es X.env := by rfl) (hpl : (backTo pos (starEach es X.env)).any (·.1) = false := by rfl) : PE X (.Call (.Name x p) (e :: es) [] pos) (cCall sp t) := by
  obtain ⟨fd, F, hm, hk, hb, _⟩ := F
  refine PE_imp (pe_call F (hr.mono hjk) hg hm hk hb .nil pass0 ha hdb he hpl) fun σ H Q h => ?_
  show t σ H fun vs H1 => sp (vs ++ []) H1 Q E0
  rw [app_nil_fun]
  exact h
theorem e_call0 (F : Ok X.prog X.w X.K X.mg X.base j x ps sp) (hr : Room k X.A) (hjk : j ≤ k := by decide) (hg : Gl X x := by rfl) (hdb : (x == ("__debug__" : Str)) = false := by decide) : PE X (.Call (.Name x p) [] [] pos) (cCall sp tNil) := by
  obtain ⟨fd, F, hm, hk, hb, _⟩ := F
  exact pe_call0 F (hr.mono hjk) hg hm hk hb .nil pass0 hdb
end
section
variable {P : Program} {w : World} {K : PySem.W.Frag} {mg : Str → Option Value} {base : Heap}
abbrev FnP (K : PySem.W.Frag) (x : Str) (st : Stmt) : Prop := ∃ fd, FunD K x x (defArgs st) (defBody st) (defScope st) [] [] (He.ga K x) fd
theorem ok_of {x : Str} {st : Stmt} {N ps : List Str} {k : Nat} {sp : Sp} (F : FnP K x st) (g : mg x = some (.ref (He.ga K x))) (S : FnScope N ps (defScope st)) (len : ∀ vs H Q E, sp vs H Q E → vs.length = ps.length)
    (bnd : ∀ (kV doc pm : Value) (an : Option Addr) (cdv ct : Value) (us : List Value), us.length = ps.length → bindArgs (PySem.W.fnOf x x (defArgs st) (defBody st) (defScope st) .none kV doc pm an cdv ct) ⟨us, []⟩ = pure (ps.zip us))
    (hbody : ∀ (cdv : Value) (A : Around) (outer : List Env) (s : Shared) (H : Hp) (vs : List V) (Q : VK) (E : XK), Room k (A.deeper (envOfC x (defScope st) s.heap.objs.size (He.ga K x) cdv)) → sp vs H Q E →
      ∃ t, PSs (cxOf CX0 P w K mg base N x (defScope st) (He.ga K x) cdv A outer s H E).nox (defBody st) t ∧ t { nx := fun _ H' => Q .non H', rt := Q } (start N vs) H) : Ok P w K mg base (k + 1) x ps sp := by
  obtain ⟨fd, F⟩ := F
  refine ⟨fd, FunD.ok F S len fun cdv A outer s H vs Q E hr hsp => ?_, g, F.kp, F.bindsN bnd, ?_⟩
  case refine_2 =>
    obtain ⟨oc, od, dV, kV, doc, pm, an, cdv, ct, osl, _, lk, _⟩ := F.ex
    exact ⟨oc, od, osl, lk⟩
  obtain ⟨t, h, q⟩ := hbody cdv A outer s H vs Q E hr hsp
  exact ⟨t, h.nox, q⟩
theorem len1 {p : V → Hp → VK → Prop} {a : Str} : ∀ vs H Q E, sp1 p vs H Q E → vs.length = [a].length := fun vs H Q E h => by
  match vs, h with
  | [_], _ => rfl
theorem len2 {p : V → V → Hp → VK → Prop} {a b : Str} : ∀ vs H Q E, sp2 p vs H Q E → vs.length = [a, b].length := fun vs H Q E h => by
  match vs, h with
  | [_, _], _ => rfl
theorem len3 {p : V → V → V → Hp → VK → Prop} {a b c : Str} : ∀ vs H Q E, sp3 p vs H Q E → vs.length = [a, b, c].length := fun vs H Q E h => by
  match vs, h with
  | [_, _, _], _ => rfl
theorem len0 {p : Hp → VK → Prop} : ∀ vs H Q E, sp0 p vs H Q E → vs.length = ([] : List Str).length := fun vs H Q E h => by
  match vs, h with
  | [], _ => rfl
end
section
variable {X : Cx} {o i e : Expr} {to ti te : TE} {pos tpos : Pos}
def cGetL : V → V → Hp → VK → Prop := fun x y H Q => match x, y with
  | .ref p, .int i => ∃ xs v, H p = some (.lst xs) ∧ 0 ≤ i ∧ xs[i.toNat]? = some v ∧ Q v H
  | _, _ => False
theorem get_listC : PGet X cGetL := by
  intro pins s σ H o i ov iv Q I ro ri h
  cases o with
  | ref p => cases i with
    | int k =>
      obtain ⟨xs, v, hp, h0, hx, q⟩ := h
      cases ro
      obtain ⟨t, rfl⟩ := ri
      obtain ⟨its, r, pl, hz⟩ := I.list (.inl (.inl hp))
      obtain ⟨w, ew, rw'⟩ := r.get hx
      have hl := r.length
      have hn := line63
      have hlt : k.toNat < xs.length := (List.getElem?_eq_some_iff.mp hx).1
      exact wpAny_getItem_list pl.isList h0 (by omega) (by simpa using ew) ⟨v, H, I, rw', q⟩
    | _ => exact h.elim
  | _ => exact h.elim
def cSetL : V → V → V → Hp → (Hp → Prop) → Prop := fun o i v H Q => match o, i with
  | .ref p, .int k => ∃ xs, H p = some (.lst xs) ∧ 0 ≤ k ∧ k.toNat < xs.length ∧ Q (upd H p (.lst (xs.set k.toNat v)))
  | _, _ => False
theorem set_listC : PSet X cSetL := by
  intro pins s σ H o i v ov iv u Q I ro ri rv h
  refine set_list pins s σ H o i v ov iv u Q I ro ri rv ?_
  cases o with
  | ref p => cases i with
    | int k =>
      obtain ⟨xs, hp, h0, hk, q⟩ := h
      exact ⟨p, xs, k, k.toNat, rfl, rfl, hp, by unfold ixN; rw [if_pos h0, if_pos (by omega)], q⟩
    | _ => exact h.elim
  | _ => exact h.elim
def cIp (r : R2) : TIp := fun x y H Q => r x y H Q
theorem ip_addC : PIp X .Add (cIp rAddI) := fun pins s σ H x y v u Q I r1 r2 h => ip_add pins s σ H x y v u Q I r1 r2 (cI0_to (g := fun i j => .int (i + j)) x y H Q h)
theorem ip_subC : PIp X .Sub (cIp rSubC) := fun pins s σ H x y v u Q I r1 r2 h => ip_sub pins s σ H x y v u Q I r1 r2 (cI0_to (g := fun i j => .int (i - j)) x y H Q h)
theorem s_augS {op : Operator} {tip : TIp} (ho : PE X o to) (hi : PE X i ti) (he : PE X e te) (hp : PIp X op tip)
    (ha : ∀ ov iv new, augStore i ov iv new = (do holding [new, ov, iv] (setItem ov iv new); release [new, ov, iv] []; pure .next) := by intros; rfl) : PS X (.AugAssign (.Subscript o i tpos) op e pos) (tAugS to ti te cGetL tip cSetL) :=
  ps_augS ho hi get_listC he hp set_listC ha
end
section
variable {X : Cx} {tg e : Expr} {te : TE} {pos p : Pos}
def rIsNC : R2 := fun x y H Q => match y with
  | .non => Q (.bl (decide (x = .non))) H
  | _ => False
def rNotNC : R2 := fun x y H Q => match y with
  | .non => Q (.bl (!decide (x = .non))) H
  | _ => False
theorem op_isNC : OpR X (compareOp .Is) rIsNC := OpR_imp op_isN fun x y H Q h => by
  cases y with
  | non => exact ⟨rfl, h⟩
  | _ => exact h.elim
theorem op_notNC : OpR X (compareOp .IsNot) rNotNC := OpR_imp op_notN fun x y H Q h => by
  cases y with
  | non => exact ⟨rfl, h⟩
  | _ => exact h.elim
def cPart (t : TE) : TO := fun σ H Q => t σ H fun x H1 => match x with
  | .int i => Q (some i) H1
  | _ => False
theorem po_someC (h : PE X e te) : PO X (some e) (cPart te) := by
  refine ⟨fun pins s σ H Q I hw => ?_⟩
  rw [evalPart_some]
  refine thn (h.run pins s σ H _ I hw) fun u s1 hq => ?_
  obtain ⟨x, H1, I1, r1, q1⟩ := hq
  cases x with
  | int i =>
    obtain ⟨t, rfl⟩ := r1
    exact ⟨some i, H1, I1, .int i t, q1⟩
  | _ => exact q1.elim
theorem SlR_imp {r u : V → Option Int → Option Int → Hp → VK → Prop} (h : SlR X r) (i : ∀ x lo hi H Q, u x lo hi H Q → r x lo hi H Q) : SlR X u := by
  intro pins s σ H x v vl vu lo hi sl Q I rx hs pl pu q
  exact h pins s σ H x v vl vu lo hi sl Q I rx hs pl pu (i x lo hi H Q q)
def cSl (K : PySem.W.Frag) : V → Option Int → Option Int → Hp → VK → Prop := fun x lo hi H Q => match x with
  | .ref a => (∃ xs, SqL K H a xs ∧ ∀ p, H p = none → Q (.ref p) (upd H p (.lst (cutV xs lo hi)))) ∨ (∃ xs, SqT K H a xs ∧
    (HT.sIx xs.length 0 lo = 0 ∧ HT.sIx xs.length xs.length hi = xs.length → Q (.ref a) H) ∧ (¬ (HT.sIx xs.length 0 lo = 0 ∧ HT.sIx xs.length xs.length hi = xs.length) → ∀ p, H p = none → Q (.ref p) (upd H p (.tup (cutV xs lo hi)))))
  | .str z => z.length ≤ sizeLine ∧ Q (.str (cutS z lo hi)) H
  | _ => False
theorem sl_C : SlR X (cSl X.K) := SlR_imp (SlR.or sl_list (SlR.or sl_tupA sl_str)) fun x lo hi H Q h => by
  cases x with
  | ref a =>
    rcases h with ⟨xs, h1, q⟩ | ⟨xs, h1, q⟩
    · exact .inl ⟨a, xs, rfl, h1, q⟩
    · exact .inr (.inl ⟨a, xs, rfl, h1, q⟩)
  | str z => exact .inr (.inr ⟨z, rfl, h⟩)
  | _ => exact h.elim
/-- a list or a tuple is walked -/
def iSeq (K : PySem.W.Frag) (tl : TE) : TI := fun σ H R => tl σ H fun x H1 => match x with
  | .ref a => ((∃ xs, SqL K H1 a xs) ∧ R (Itl K a) H1) ∨ ((∃ xs, SqT K H1 a xs) ∧ R (Itt K a) H1)
  | _ => False
theorem pi_seq (hl : PE X e te) : PI X tg e (iSeq X.K te) := by
  refine ⟨fun pins s σ H R I h => ?_⟩
  refine thn (hl.run pins s σ H _ I h) fun v s1 hq => ?_
  obtain ⟨x, H1, I1, r1, q1⟩ := hq
  cases x with
  | ref a =>
    rcases q1 with ⟨h1, q⟩ | ⟨h1, q⟩
    · cases r1
      obtain ⟨xs, hq⟩ := h1
      obtain ⟨its, rv, p, hz⟩ := I1.list hq
      refine wpAny_pyIter_list p.isList ?_
      refine ⟨s1.heap.objs.size, [s1.heap.objs.size], _, _, H1, rfl, I1.kept (t' := s1.toks) fun b o e => Heap.get?_push_of_some _ e, turn_list a _, ⟨_, Heap.get?_push_size _ rfl, rfl, rfl⟩, fun b hb => ?_, q⟩
      have e : b = s1.heap.objs.size := by simpa using hb
      subst e
      exact I1.fpOk (Nat.le_refl _) (I1.hok.fresh (Nat.le_refl _))
    · cases r1
      obtain ⟨xs, hq⟩ := h1
      obtain ⟨its, rv, p, hz⟩ := I1.tuple hq
      refine wpAny_pyIter_tuple (show s1.heap.IsTuple a its.toArray from p) ?_
      refine ⟨s1.heap.objs.size, [s1.heap.objs.size], _, _, H1, rfl, I1.kept (t' := s1.toks) fun b o e => Heap.get?_push_of_some _ e, turn_tuple a _, ⟨_, Heap.get?_push_size _ rfl, rfl, rfl⟩, fun b hb => ?_, q⟩
      have e : b = s1.heap.objs.size := by simpa using hb
      subst e
      exact I1.fpOk (Nat.le_refl _) (I1.hok.fresh (Nat.le_refl _))
  | _ => exact q1.elim
def cAppend : V → List V → Hp → VK → Prop := fun x vs H Q => match x, vs with
  | .ref l, [y] => ∃ xs, H l = some (.lst xs) ∧ xs.length < sizeLine ∧ Q .non (upd H l (.lst (xs ++ [y])))
  | _, _ => False
theorem mt_appendC : MtR X "list.append" cAppend := fun pins s σ H x xs v us Q I rx r h => mt_append pins s σ H x xs v us Q I rx r (by
  match x, xs, h with
  | .ref l, [y], ⟨xs, h1, h2, q⟩ => exact ⟨l, xs, y, rfl, rfl, h1, h2, q⟩)
def cPop : V → List V → Hp → VK → Prop := fun x vs H Q => match x, vs with
  | .ref l, [] => ∃ xs y, H l = some (.lst xs) ∧ xs[xs.length - 1]? = some y ∧ Q y (upd H l (.lst xs.dropLast))
  | _, _ => False
theorem mt_popC : MtR X "list.pop" cPop := fun pins s σ H x xs v us Q I rx r h => mt_pop pins s σ H x xs v us Q I rx r (by
  match x, xs, h with
  | .ref l, [], ⟨xs, y, h1, h2, q⟩ => exact ⟨l, xs, y, rfl, rfl, h1, h2, q⟩)
/-- a module's int -/
theorem e_gint {x : Str} {i : Int} (h : ∃ t, X.mg x = some (.int i t)) (hg : Gl X x := by rfl) (hd : (x == ("__debug__" : Str)) = false := by decide) : PE X (.Name x pos) (tC (.int i)) := by
  obtain ⟨t, h⟩ := h
  exact pe_glob hg h ⟨t, rfl⟩ hd
/-- a table of the module with text keys: in, its items -/
def cInKd (K : PySem.W.Frag) (d : Addr) (neg : Bool) : R2 := fun x y H Q => match x, y with
  | .str z, .ref a => a = d ∧ ∃ r, PySem.W.nsIn K d z = some r ∧ Q (.bl (if neg then !r.isSome else r.isSome)) H
  | _, _ => False
theorem op_notIn_kdC {d : Addr} (D : ∃ es n, KDict X.K X.w d es n) : OpR X (compareOp .NotIn) (cInKd X.K d true) := by
  obtain ⟨es, n, D⟩ := D
  refine OpR_imp (op_notIn_kd D) fun x y H Q h => ?_
  match x, y, h with
  | .str z, .ref a, ⟨e, r, h1, q⟩ => exact ⟨z, r, rfl, by rw [e], h1, q⟩
theorem op_in_kdC {d : Addr} (D : ∃ es n, KDict X.K X.w d es n) : OpR X (compareOp .In) (cInKd X.K d false) := by
  obtain ⟨es, n, D⟩ := D
  refine OpR_imp (op_in_kd D) fun x y H Q h => ?_
  match x, y, h with
  | .str z, .ref a, ⟨e, r, h1, q⟩ => exact ⟨z, r, rfl, by rw [e], h1, q⟩
def cIxKd (K : PySem.W.Frag) (d : Addr) : R2 := fun x y H Q => match x, y with
  | .ref a, .str z => a = d ∧ ∃ u v, PySem.W.nsIn K d z = some (some u) ∧ RelV v u ∧ Q v H
  | _, _ => False
theorem ix_kdC {d : Addr} (D : ∃ es n, KDict X.K X.w d es n) : IxR X (cIxKd X.K d) := by
  obtain ⟨es, n, D⟩ := D
  refine IxR_imp ix_kdict fun x y H Q h => ?_
  match x, y, h with
  | .ref a, .str z, ⟨e, u, v, h1, h2, q⟩ => exact ⟨d, z, v, by rw [e], rfl, ⟨es, n, u, D.at_, D.lit, h1, h2⟩, q⟩
end
theorem ifT {b : Bool} {A B : Prop} (e : b = true) (h : A) : if b = true then A else B := by rw [if_pos e]; exact h
theorem ifF {b : Bool} {A B : Prop} (e : b = false) (h : B) : if b = true then A else B := by rw [e]; exact iteF h
theorem if2 {b : Bool} {A B : Prop} (h1 : b = true → A) (h2 : b = false → B) : if b = true then A else B := by
  cases b with
  | true => exact iteT (h1 rfl)
  | false => exact iteF (h2 rfl)
def obsP (n : Nat) (fa : List He.Fa) (fn : List He.DefD) (ts : List He.Tab) (ex : PySem.W.Frag → Bool) (g : Addr → Option Obj) : He.AlT × Bool := (He.obsT fa fn ts (He.frG g (He.asD g n)), ex (He.frG g (He.asD g n)))
def hookP (n : Nat) (fa : List He.Fa) (fn : List He.DefD) (ts : List He.Tab) (ex : PySem.W.Frag → Bool) : PySem.W.Hook where
  α := He.AlT × Bool
  obs := fun s => obsP n fa fn ts ex s.heap.get?
  val := fun w => (He.valT fn ts w, true)
  says := fun w h => ∃ K : PySem.W.Frag, K.In h ∧ He.SaysT fa fn ts w K ∧ ex K = true
  of := fun _ _ e => ⟨_, He.frG_in, congrArg (fun z : He.AlT × Bool => z.1) e, congrArg (fun z : He.AlT × Bool => z.2) e⟩
  keeps := fun _ _ _ ⟨K, hK, c⟩ k => ⟨K, PySem.W.Frag.In.keeps hK k, c⟩
theorem obsP_eq {n : Nat} {fa : List He.Fa} {fn : List He.DefD} {ts : List He.Tab} {ex : PySem.W.Frag → Bool} {g : Addr → Option Obj} {s : Shared} (h : ∀ a, g a = s.heap.get? a) : obsP n fa fn ts ex g = (hookP n fa fn ts ex).obs s := by
  have e : g = s.heap.get? := funext h
  rw [e] <;> rfl
end PH

namespace PH
open PySem PySem.Spec PyProof.Rows L2
abbrev veL : List Value := [.type "ValueError", .type "Exception", .type "BaseException", .type "object"]
structure XcF (K : PySem.W.Frag) (mg : Str → Option Value) (x : Str) : Prop where
  exc : PySem.W.excIn K (He.ga K x) veL "ValueError.__new__" = true
  glo : mg x = some (.ref (He.ga K x))
  kp : PySem.W.keepIn K (.ref (He.ga K x)) = true
  sub : PySem.W.subIn K (.ref (He.ga K x)) (.type "BaseException") = some true
  ty : PySem.W.typeIn K (.ref (He.ga K x)) = some (.type "type")
/-- what a table of the head can tell of it -/
def xcB (K : PySem.W.Frag) (x : Str) : Bool := PySem.W.excIn K (He.ga K x) veL "ValueError.__new__" && (PySem.W.keepIn K (.ref (He.ga K x)) && (decide (PySem.W.subIn K (.ref (He.ga K x)) (.type "BaseException") = some true) && decide (PySem.W.typeIn K (.ref (He.ga K x)) = some (.type "type"))))
theorem xcB_ok {K : PySem.W.Frag} {mg : Str → Option Value} {x : Str} (h : xcB K x = true) (g : mg x = some (.ref (He.ga K x))) : XcF K mg x := by
  obtain ⟨h1, h2⟩ := He.ba h
  obtain ⟨h3, h4⟩ := He.ba h2
  obtain ⟨h5, h6⟩ := He.ba h4
  exact ⟨h1, g, h3, of_decide_eq_true h5, of_decide_eq_true h6⟩
section
variable {X : Cx} {x : Str} {p pos pos' : Pos} {W : WX} {e : Expr} {es : List Expr} {t : TA} {ps : List Str} {sp : Sp} {k j : Nat} {E : XK}
def tRaise (cls : Value) (W : WX) : TS := fun _ σ H => W cls none σ H
def tRaiseX (cls : Value) (E : XK) : TS := fun _ _ H => E cls none H
theorem pmk_none (F : XcF X.K X.mg x) (hg : Gl X x) (hdb : (x == ("__debug__" : Str)) = false) : PMk X (.Call (.Name x p) [] [] pos) (fun _ H Q => Q (.ref (He.ga X.K x)) none H) := by
  intro pins s σ H Q I q
  refine wpAny_Call_Name_kw (ld_glob I hg F.glo ?_ hdb)
  refine PySem.W.callWith_K0 I.kIn F.kp ?_
  show wpAny _ _ (call (.ref (He.ga X.K x)) []) _ _ _
  obtain ⟨_, _, _, _, _, _, _, _, _, _, _, _, _, _, _, _, _, c1, c2, c3, T⟩ := exc_obj I.kIn F.exc
  exact wpAny_call_exc_subT PySem.F.excBase_ValueError T c1 c2 c3 (fun _ _ m => mk_of I m (raises_own F.sub F.ty) q (I.hok.gone m.new)) (Nat.zero_le _)
theorem p_raise (F : XcF X.K X.mg x) (tk : Takes X W) (hc : X.calm = true := by rfl) (hg : Gl X x := by rfl) (hdb : (x == ("__debug__" : Str)) = false := by decide) : PS X (.Raise (some (.Call (.Name x p) [] [] pos)) none pos') (tRaise (.ref (He.ga X.K x)) W) :=
  ps_raise hc tk (pmk_none F hg hdb)
end
/-- the def x keeps the promise sp and may raise, at the level k -/
def OkX (P : Program) (w : World) (K : PySem.W.Frag) (mg : Str → Option Value) (base : Heap) (k : Nat) (x : Str) (ps : List Str) (sp : Sp) : Prop :=
  ∃ fd, FnOk P w K mg base (L2.CX P w) k (He.ga K x) fd ps sp ∧ mg x = some (.ref (He.ga K x)) ∧ PySem.W.keepIn K (.ref (He.ga K x)) = true ∧ Binds K fd ps []
section
variable {X : Cx} {e : Expr} {es : List Expr} {t : TA} {pos p : Pos} {x : Str} {ps : List Str} {sp : Sp} {k j : Nat} {E : XK} {W : WX}
def cCallX (sp : Sp) (E : XK) (t : TA) : TE := fun σ H Q => t σ H fun vs H1 => sp vs H1 Q E
def cCallW (sp : Sp) (W : WX) (t : TA) : TE := fun σ H Q => t σ H fun vs H1 => sp vs H1 Q fun c d H2 => W c d σ H2
theorem app_nil_funE {sp : Sp} {Q : VK} {E : XK} : (fun (vs : List V) (H1 : Hp) => sp (vs ++ []) H1 Q E) = fun vs H1 => sp vs H1 Q E := by
  funext vs H1
  rw [List.append_nil]
/-- a call whose exceptions leave this def too -/
theorem e_callX (F : OkX X.prog X.w X.K X.mg X.base j x ps sp) (hr : Room k X.A) (hx : Passes (L2.CX X.prog X.w) X E) (ha : PA X (e :: es) t) (hjk : j ≤ k := by decide) (hg : Gl X x := by rfl) (hdb : (x == ("__debug__" : Str)) = false := by decide)
    (he : starEach (e :: es) X.env = (false, eval e X.env) :: starEach es X.env := by rfl) (hpl : (backTo pos (starEach es X.env)).any (·.1) = false := by rfl) : PE X (.Call (.Name x p) (e :: es) [] pos) (cCallX sp E t) := by
  obtain ⟨fd, F, hm, hk, hb⟩ := F
  refine PE_imp (pe_call F (hr.mono hjk) hg hm hk hb .nil hx ha hdb he hpl) fun σ H Q h => ?_
  show t σ H fun vs H1 => sp (vs ++ []) H1 Q E
  rw [app_nil_funE]
  exact h
/-- a call that does not raise -/
theorem e_callN (F : OkX X.prog X.w X.K X.mg X.base j x ps sp) (hr : Room k X.A) (ha : PA X (e :: es) t) (hjk : j ≤ k := by decide) (hg : Gl X x := by rfl) (hdb : (x == ("__debug__" : Str)) = false := by decide)
    (he : starEach (e :: es) X.env = (false, eval e X.env) :: starEach es X.env := by rfl) (hpl : (backTo pos (starEach es X.env)).any (·.1) = false := by rfl) : PE X (.Call (.Name x p) (e :: es) [] pos) (cCall sp t) := e_callX F hr passL ha hjk hg hdb he hpl
/-- a call within a try -/
theorem e_callW (F : OkX X.prog X.w X.K X.mg X.base j x ps sp) (hr : Room k X.A) (tk : Takes X W) (ha : PA X (e :: es) t) (hjk : j ≤ k := by decide) (hg : Gl X x := by rfl) (hdb : (x == ("__debug__" : Str)) = false := by decide)
    (he : starEach (e :: es) X.env = (false, eval e X.env) :: starEach es X.env := by rfl) (hpl : (backTo pos (starEach es X.env)).any (·.1) = false := by rfl) : PE X (.Call (.Name x p) (e :: es) [] pos) (cCallW sp W t) := by
  obtain ⟨fd, F, hm, hk, hb⟩ := F
  exact pe_callS F (hr.mono hjk) hg hm hk hb (fun σ => passAt tk σ) ha hdb he hpl
end
section
variable {P : Program} {w : World} {K : PySem.W.Frag} {mg : Str → Option Value} {base : Heap}
theorem okX_of {x : Str} {st : Stmt} {N ps : List Str} {k : Nat} {sp : Sp} (F : FnP K x st) (g : mg x = some (.ref (He.ga K x))) (S : FnScope N ps (defScope st)) (len : ∀ vs H Q E, sp vs H Q E → vs.length = ps.length)
    (bnd : ∀ (kV doc pm : Value) (an : Option Addr) (cdv ct : Value) (us : List Value), us.length = ps.length → bindArgs (PySem.W.fnOf x x (defArgs st) (defBody st) (defScope st) .none kV doc pm an cdv ct) ⟨us, []⟩ = pure (ps.zip us))
    (hbody : ∀ (cdv : Value) (A : Around) (outer : List Env) (s : Shared) (H : Hp) (vs : List V) (Q : VK) (E : XK), Room k (A.deeper (envOfC x (defScope st) s.heap.objs.size (He.ga K x) cdv)) → sp vs H Q E →
      ∃ t, PSs (cxOf (L2.CX P w) P w K mg base N x (defScope st) (He.ga K x) cdv A outer s H E) (defBody st) t ∧ t { nx := fun _ H' => Q .non H', rt := Q } (start N vs) H) : OkX P w K mg base (k + 1) x ps sp := by
  obtain ⟨fd, F⟩ := F
  refine ⟨fd, ?_, g, F.kp, F.bindsN bnd⟩
  obtain ⟨oc, od, dV, kV, doc, pm, an, cdv, ct, osl, e, lk, hc⟩ := F.ex
  subst e
  exact fn_of lk hc.1 S len fun A outer s H vs Q E hr hsp => hbody cdv A outer s H vs Q E hr hsp
end
/-- promises with a way out -/
def sx1 (p : V → Hp → VK → XK → Prop) : Sp := fun vs H Q E => match vs with
  | [a] => p a H Q E
  | _ => False
def sx2 (p : V → V → Hp → VK → XK → Prop) : Sp := fun vs H Q E => match vs with
  | [a, b] => p a b H Q E
  | _ => False
theorem sx1_e {p : V → Hp → VK → XK → Prop} {vs : List V} {H : Hp} {Q : VK} {E : XK} (h : sx1 p vs H Q E) : ∃ a, vs = [a] ∧ p a H Q E := by
  match vs, h with
  | [a], h => exact ⟨a, rfl, h⟩
theorem sx2_e {p : V → V → Hp → VK → XK → Prop} {vs : List V} {H : Hp} {Q : VK} {E : XK} (h : sx2 p vs H Q E) : ∃ a b, vs = [a, b] ∧ p a b H Q E := by
  match vs, h with
  | [a, b], h => exact ⟨a, b, rfl, h⟩
theorem lenx1 {p : V → Hp → VK → XK → Prop} {a : Str} : ∀ vs H Q E, sx1 p vs H Q E → vs.length = [a].length := fun vs H Q E h => by
  match vs, h with
  | [_], _ => rfl
theorem lenx2 {p : V → V → Hp → VK → XK → Prop} {a b : Str} : ∀ vs H Q E, sx2 p vs H Q E → vs.length = [a, b].length := fun vs H Q E h => by
  match vs, h with
  | [_, _], _ => rfl
/-- try with these clauses -/
def tTry (K : PySem.W.Frag) (Wout : WX) (tb : WX → TS) (l : List (Value × (Addr → Value → Option Addr → TS))) : TS := fun D σ H => tb (wMany K Wout D l) D σ H
def wNo : WX := fun _ _ _ _ => False
end PH

namespace PH
open PySem PySem.Spec PyProof.Rows L2
def cIsi2 (K : PySem.W.Frag) (T U : String) : V → Hp → (Bool → Prop) → Prop := fun x H Q => match x with
  | .non => Q false
  | .bl _ => Q (isTy T "bool" || isTy U "bool")
  | .int _ => Q (isTy T "int" || isTy U "int")
  | .str _ => Q (isTy T "str" || isTy U "str")
  | .ref a => ∃ n, KindAt K H a n ∧ Q (isTy T n || isTy U n)
  | _ => False
def cIsiL2 (K : PySem.W.Frag) (T U : String) : List V → Hp → VK → Prop := fun xs H Q => match xs with
  | [x, .ref tp] => H tp = some (.tup [.ty T, .ty U]) ∧ cIsi2 K T U x H fun b => Q (.bl b) H
  | _ => False
def cIsE2 (K : PySem.W.Frag) (T U : String) (ta : TE) : TE := tCB (cIsiL2 K T U) (tCons ta (tCons (tTup (tCons (tC (.ty T)) (tCons (tC (.ty U)) tNil))) tNil))
section
variable {X : Cx} {a : Expr} {ta : TE} {pos p : Pos}
theorem kitAny2 {K : PySem.W.Frag} {n T U : String} (hn : n ∈ kinds) (hT : T ∈ targets) (hU : U ∈ targets) : PySem.W.kitAny K (.type n) [.type T, .type U] = some (isTy T n || isTy U n) := by
  have h1 := kit_at (K := K) hn hT
  have h2 := kit_at (K := K) hn hU
  cases e1 : isTy T n with
  | true =>
    rw [e1] at h1
    exact kitAny_cons h1 (fun z => by cases z) fun _ => rfl
  | false =>
    rw [e1] at h1
    refine kitAny_cons h1 (fun _ => ?_) (fun z => by cases z)
    cases e2 : isTy U n with
    | true =>
      rw [e2] at h2
      exact kitAny_cons h2 (fun z => by cases z) fun _ => rfl
    | false =>
      rw [e2] at h2
      exact kitAny_cons h2 (fun _ => rfl) (fun z => by cases z)
theorem call_isi2 {T U : String} (hT : T ∈ targets) (hU : U ∈ targets) : CallR X (.builtin "isinstance") (cIsiL2 X.K T U) := CallR_imp call_isiT fun xs H Q h => by
  match xs, h with
  | [x, .ref tp], ⟨ht, h⟩ =>
    have go : ∀ (k : String) (b : Bool), k ∈ kinds → TyX X.K H x (.type k) → b = (isTy T k || isTy U k) → Q (.bl b) H → rIsiT X.K [x, .ref tp] H Q := fun k b hk ty e q => ⟨x, tp, _, .type k, [.type T, .type U], _, rfl, ht, .cons (.ty T) (.cons (.ty U) .nil), ty, kitAny2 hk hT hU, by rw [← e]; exact q⟩
    cases x with
    | non =>
      refine go "NoneType" false (by decide) (.base .non) ?_ h
      have : ∀ T ∈ targets, isTy T "NoneType" = false := by decide
      rw [this T hT, this U hU]
      rfl
    | bl b => exact go "bool" _ (by decide) (.base (.bl b)) rfl h
    | int b => exact go "int" _ (by decide) (.base (.int b)) rfl h
    | str b => exact go "str" _ (by decide) (.base (.str b)) rfl h
    | ref a =>
      obtain ⟨k, ⟨hk, ty⟩, q⟩ := h
      have h3 : k = "list" ∨ k = "tuple" ∨ k = "dict" := by simpa using hk
      exact go k _ (by rcases h3 with e | e | e <;> subst e <;> decide) ty rfl q
    | _ => exact h.elim
theorem e_isi2 {q1 q2 tpos : Pos} {j : Nat} {T U : String} {y z : Str} (hm : X.mg "isinstance" = none) (hmT : X.mg y = none) (hmU : X.mg z = none) (ha : PE X a ta) (hT : T ∈ targets := by decide) (hU : U ∈ targets := by decide)
    (hv : bootBuiltins y = some (.type T) := by decide +kernel) (hw : bootBuiltins z = some (.type U) := by decide +kernel) (hg : Gl X "isinstance" := by rfl) (hgT : Gl X y := by rfl) (hgU : Gl X z := by rfl) (hn : y ≠ "__name__" := by decide) (hd : (y == ("__debug__" : Str)) = false := by decide) (hn2 : z ≠ "__name__" := by decide) (hd2 : (z == ("__debug__" : Str)) = false := by decide)
    (hs : starEach [a, .Tuple [.Name y q1, .Name z q2] j tpos] X.env = (false, eval a X.env) :: starEach [.Tuple [.Name y q1, .Name z q2] j tpos] X.env := by rfl) :
    PE X (.Call (.Name "isinstance" p) [a, .Tuple [.Name y q1, .Name z q2] j tpos] [] pos) (cIsE2 X.K T U ta) :=
  pe_callB (call_isi2 hT hU) hg hm boot_isinstance (pa_cons ha (pa_cons (pe_tup (pa_cons (pe_bltn (v := .ty T) hgT hmT hv rfl hn hd) (pa_cons (pe_bltn (v := .ty U) hgU hmU hw rfl hn2 hd2) pa_nil))) pa_nil) hs) (he := hs)
end
/-- the method m of the class C keeps the promise sp (self is its first argument), at the level k -/
structure OkM (P : Program) (w : World) (K : PySem.W.Frag) (mg : Str → Option Value) (base : Heap) (k : Nat) (C m : Str) (ps : List Str) (sp : Sp) : Prop where
  ex : ∃ fd, FnOk P w K mg base CX0 k (He.ma K (He.ga K C) m) fd ps sp ∧ Binds K fd ps []
  mt : Meth K (He.ga K C) m (He.ma K (He.ga K C) m)
structure OkMX (P : Program) (w : World) (K : PySem.W.Frag) (mg : Str → Option Value) (base : Heap) (k : Nat) (C m : Str) (ps : List Str) (sp : Sp) : Prop where
  ex : ∃ fd, FnOk P w K mg base (L2.CX P w) k (He.ma K (He.ga K C) m) fd ps sp ∧ Binds K fd ps []
  mt : Meth K (He.ga K C) m (He.ma K (He.ga K C) m)
section
variable {X : Cx} {o e : Expr} {es : List Expr} {t : TA} {ta : TE} {apos pos p : Pos} {C m x : Str} {ps : List Str} {sp : Sp} {k j : Nat} {E : XK} {W : WX}
/-- o.m(..): o an instance of the class at C -/
def cMeth (C : Addr) (m : Str) (sp : Sp) (E : XK) (ta : TE) (t : TA) : TE := fun σ H Q => ta σ H fun x H1 => match x with
  | .ref a => ∃ dx fs, H1 a = some (.ins C dx fs) ∧ fs.lookup m = none ∧ t σ H1 fun vs H2 => sp (.ref a :: vs) H2 Q E
  | _ => False
theorem app_nil_cons {sp : Sp} {Q : VK} {E : XK} {x : V} : (fun (vs : List V) (H1 : Hp) => sp (x :: (vs ++ [])) H1 Q E) = fun vs H1 => sp (x :: vs) H1 Q E := by
  funext vs H1
  rw [List.append_nil]
theorem meth_run {CX : CXT} {C : Addr} {g : Addr} {fd : FuncData} {pl : Sem Bool} (ho : PE X o ta) (c : Cls X.K C) (hm : Meth X.K C m g) (F : FnOk X.prog X.w X.K X.mg X.base CX k g fd ps sp) (hr : Room k X.A) (hb : Binds X.K fd ps []) (hx : Passes CX X E) (ha : PA X (e :: es) t)
    (hst : starEach (e :: es) X.env = (false, eval e X.env) :: starEach es X.env) (hpl : (backTo pos (starEach es X.env)).any (·.1) = false)
    (ht : eval (.Call (.Attribute o m apos) (e :: es) [] pos) X.env = eval o X.env >>= fun ov => standAt apos.atName >>= fun _ => holding [ov] (getMethod ov m pl) >>= fun q => callWith pos q.1 q.2 (backTo pos (starEach (e :: es) X.env)) (backToKw pos (keywordEach [] X.env))) :
    PE X (.Call (.Attribute o m apos) (e :: es) [] pos) (cMeth C m sp E ta t) := by
  refine ⟨fun pins s σ H Q I h => ?_⟩
  refine PySem.W.methodCall_KW (pl := pl) (thn (ho.run pins s σ H _ I h) fun u s1 hh => ?_) ht
  obtain ⟨x, H1, I1, rx, hq⟩ := hh
  cases x with
  | ref a =>
    obtain ⟨dx, fs, ea, l, q⟩ := hq
    obtain rfl : u = Value.ref a := rx
    refine getmeth_ok I1 ea c hm l (PySem.W.callWith_K (first := [.ref a]) (h₀ := X.base) I.ok.mod.kin hm.kp (thn (ha.run pos pins s1 σ H1 _ I1 q) fun us s2 hh => ?_) hst hpl)
    obtain ⟨vs, H2, I2, r, q2⟩ := hh
    exact ⟨I2.kIn, run_fn (us := .ref a :: us) (vs := .ref a :: vs) (dvs := []) F hr hb .nil hx I2 (.cons rfl r) (by rw [List.append_nil]; exact q2)⟩
  | _ => exact hq.elim
theorem e_meth {pl : Sem Bool} (F : OkM X.prog X.w X.K X.mg X.base j C m ps sp) (hr : Room k X.A) (c : Cls X.K (He.ga X.K C)) (ho : PE X o ta) (ha : PA X (e :: es) t) (hjk : j ≤ k := by decide)
    (hst : starEach (e :: es) X.env = (false, eval e X.env) :: starEach es X.env := by rfl) (hpl : (backTo pos (starEach es X.env)).any (·.1) = false := by rfl)
    (ht : eval (.Call (.Attribute o m apos) (e :: es) [] pos) X.env = eval o X.env >>= fun ov => standAt apos.atName >>= fun _ => holding [ov] (getMethod ov m pl) >>= fun q => callWith pos q.1 q.2 (backTo pos (starEach (e :: es) X.env)) (backToKw pos (keywordEach [] X.env)) := by rfl) :
    PE X (.Call (.Attribute o m apos) (e :: es) [] pos) (cMeth (He.ga X.K C) m sp E0 ta t) := by
  obtain ⟨⟨fd, F, hb⟩, mt⟩ := F
  exact meth_run ho c mt F (hr.mono hjk) hb pass0 ha hst hpl ht
theorem e_meth0 {pl : Sem Bool} (F : OkM X.prog X.w X.K X.mg X.base j C m ps sp) (hr : Room k X.A) (c : Cls X.K (He.ga X.K C)) (ho : PE X o ta) (hjk : j ≤ k := by decide)
    (ht : eval (.Call (.Attribute o m apos) [] [] pos) X.env = eval o X.env >>= fun ov => standAt apos.atName >>= fun _ => holding [ov] (getMethod ov m pl) >>= fun q => callWith pos q.1 q.2 (backTo pos (starEach [] X.env)) (backToKw pos (keywordEach [] X.env)) := by rfl) :
    PE X (.Call (.Attribute o m apos) [] [] pos) (cMeth (He.ga X.K C) m sp E0 ta tNil) := by
  obtain ⟨⟨fd, F, hb⟩, hm⟩ := F
  refine ⟨fun pins s σ H Q I h => ?_⟩
  refine PySem.W.methodCall_KW (pl := pl) (thn (ho.run pins s σ H _ I h) fun u s1 hh => ?_) ht
  obtain ⟨x, H1, I1, rx, hq⟩ := hh
  cases x with
  | ref a =>
    obtain ⟨dx, fs, ea, l, q⟩ := hq
    obtain rfl : u = Value.ref a := rx
    exact getmeth_ok I1 ea c hm l (PySem.W.callWith_K0 (first := [.ref a]) I1.kIn hm.kp (run_fn (us := [.ref a]) (vs := [.ref a]) (dvs := []) F (hr.mono hjk) hb .nil pass0 I1 (.cons rfl .nil) q))
  | _ => exact hq.elim
def cFld (C : Addr) (f : Str) (ta : TE) : TE := fun σ H Q => ta σ H fun x H1 => match x with
  | .ref a => ∃ dx fs v, H1 a = some (.ins C dx fs) ∧ fs.lookup f = some v ∧ Q v H1
  | _ => False
theorem e_fld {C : Addr} {f : Str} (c : Cls X.K C) (n : NoAttr X.K C f) (he : PE X e ta) (hb : attributeBase e f X.env (eval e X.env) = eval e X.env := by rfl) : PE X (.Attribute e f pos) (cFld C f ta) := by
  refine ⟨fun pins s σ H Q I h => ?_⟩
  refine attr_of hb (thn (he.run pins s σ H _ I h) fun u s1 hh => ?_)
  obtain ⟨x, H1, I1, rx, hq⟩ := hh
  cases x with
  | ref a =>
    obtain ⟨dx, fs, v, ea, l, q⟩ := hq
    obtain rfl : u = Value.ref a := rx
    exact getattr_ok I1 ea c n l fun _ _ I2 ru => ⟨v, H1, I2, ru, q⟩
  | _ => exact hq.elim
def cSetF (C : Addr) (f : Str) (ta tv : TE) : TS := fun D σ H => tv σ H fun y H1 => ta σ H1 fun x H2 => match x with
  | .ref a => ∃ dx fs, H2 a = some (.ins C dx fs) ∧ fs.length < 1000 ∧ D.nx σ (upd H2 a (.ins C dx (putF f y fs)))
  | _ => False
theorem s_setF {C : Addr} {f : Str} {value : Expr} {tv : TE} {pos' : Pos} (c : Cls X.K C) (n : NoAttr X.K C f) (ha : PE X o ta) (hv : PE X value tv) (hs : swapsWith value (some (.Attribute o f pos')) pos.line X.env = pure false := by rfl) : PS X (.Assign [.Attribute o f pos'] value pos) (cSetF C f ta tv) := by
  refine ⟨fun pins s σ H D I h => ?_⟩
  refine plainObj_wpAny_Assign_Attribute (thn (hv.run pins s σ H _ I h) fun u s1 hh => ?_) hs
  obtain ⟨y, H1, I1, ry, q⟩ := hh
  refine thn (ha.run pins s1 σ H1 _ I1 q) fun ov s2 hh => ?_
  obtain ⟨x, H2, I2, rx, hq⟩ := hh
  cases x with
  | ref a =>
    obtain ⟨dx, fs, ea, l, q2⟩ := hq
    obtain rfl : ov = Value.ref a := rx
    exact setattr_ok I2 ea c n l ry fun _ I3 => ⟨σ, _, I3, q2⟩
  | _ => exact hq.elim
def cMake (C : Addr) (sp : Sp) (E : XK) (t : TA) : TE := fun σ H Q => t σ H fun vs H1 => ∀ x dx, H1 x = none → H1 dx = none → dx ≠ x → sp (.ref x :: vs) (upd (upd H1 dx (.own x)) x (.ins C dx [])) (fun v H2 => v = .non ∧ Q (.ref x) H2) E
theorem make_fun {C : Addr} {sp : Sp} {Q : VK} {E : XK} : (fun (vs : List V) (H1 : Hp) => ∀ x dx, H1 x = none → H1 dx = none → dx ≠ x → sp (.ref x :: (vs ++ [])) (upd (upd H1 dx (.own x)) x (.ins C dx [])) (fun v H2 => v = .non ∧ Q (.ref x) H2) E) = fun vs H1 => ∀ x dx, H1 x = none → H1 dx = none → dx ≠ x → sp (.ref x :: vs) (upd (upd H1 dx (.own x)) x (.ins C dx [])) (fun v H2 => v = .non ∧ Q (.ref x) H2) E := by
  funext vs H1
  rw [List.append_nil]
/-- what the class must be -/
structure ClF (K : PySem.W.Frag) (mg : Str → Option Value) (C : Str) : Prop where
  cls : Cls K (He.ga K C)
  mak : Mk K (He.ga K C) (He.ma K (He.ga K C) "__init__")
  glo : mg C = some (.ref (He.ga K C))
theorem e_makeX (T : ClF X.K X.mg C) (F : OkMX X.prog X.w X.K X.mg X.base j C "__init__" ps sp) (hr : Room k X.A) (hx : Passes (L2.CX X.prog X.w) X E) (ha : PA X (e :: es) t) (hjk : j + 1 ≤ k := by decide) (hg : Gl X C := by rfl) (hdb : (C == ("__debug__" : Str)) = false := by decide)
    (he : starEach (e :: es) X.env = (false, eval e X.env) :: starEach es X.env := by rfl) (hpl : (backTo pos (starEach es X.env)).any (·.1) = false := by rfl) : PE X (.Call (.Name C p) (e :: es) [] pos) (cMake (He.ga X.K C) sp E t) := by
  obtain ⟨⟨fd, F, hb⟩, mt⟩ := F
  refine PE_imp (pe_make T.mak F (hr.mono hjk) hg T.glo hb .nil hx ha hdb he hpl) fun σ H Q h => ?_
  show t σ H fun vs H1 => ∀ x dx, H1 x = none → H1 dx = none → dx ≠ x → sp (.ref x :: (vs ++ [])) (upd (upd H1 dx (.own x)) x (.ins (He.ga X.K C) dx [])) (fun v H2 => v = .non ∧ Q (.ref x) H2) E
  rw [make_fun]
  exact h
theorem e_makeN (T : ClF X.K X.mg C) (F : OkMX X.prog X.w X.K X.mg X.base j C "__init__" ps sp) (hr : Room k X.A) (ha : PA X (e :: es) t) (hjk : j + 1 ≤ k := by decide) (hg : Gl X C := by rfl) (hdb : (C == ("__debug__" : Str)) = false := by decide)
    (he : starEach (e :: es) X.env = (false, eval e X.env) :: starEach es X.env := by rfl) (hpl : (backTo pos (starEach es X.env)).any (·.1) = false := by rfl) : PE X (.Call (.Name C p) (e :: es) [] pos) (cMake (He.ga X.K C) sp E0 t) := e_makeX T F hr passL ha hjk hg hdb he hpl
theorem e_makeO (T : ClF X.K X.mg C) (F : OkM X.prog X.w X.K X.mg X.base j C "__init__" ps sp) (hr : Room k X.A) (ha : PA X (e :: es) t) (hjk : j + 1 ≤ k := by decide) (hg : Gl X C := by rfl) (hdb : (C == ("__debug__" : Str)) = false := by decide)
    (he : starEach (e :: es) X.env = (false, eval e X.env) :: starEach es X.env := by rfl) (hpl : (backTo pos (starEach es X.env)).any (·.1) = false := by rfl) : PE X (.Call (.Name C p) (e :: es) [] pos) (cMake (He.ga X.K C) sp E0 t) := by
  obtain ⟨⟨fd, F, hb⟩, mt⟩ := F
  refine PE_imp (pe_make T.mak F (hr.mono hjk) hg T.glo hb .nil pass0 ha hdb he hpl) fun σ H Q h => ?_
  show t σ H fun vs H1 => ∀ x dx, H1 x = none → H1 dx = none → dx ≠ x → sp (.ref x :: (vs ++ [])) (upd (upd H1 dx (.own x)) x (.ins (He.ga X.K C) dx [])) (fun v H2 => v = .non ∧ Q (.ref x) H2) E0
  rw [make_fun]
  exact h
def rLenO (C : Addr) (sp : Sp) (E : XK) : V → Hp → VK → Prop := fun x H Q => match x with
  | .ref a => ∃ dx fs, H a = some (.ins C dx fs) ∧ sp [.ref a] H (fun v H' => match v with | .int n => (0 ≤ n ∧ n < 2 ^ 62) ∧ Q (.int n) H' | _ => False) E
  | _ => False
theorem call_lenO (F : OkM X.prog X.w X.K X.mg X.base j C "__len__" ps sp) (hr : Room (j + 1) X.A) : CallR X (.builtin "len") (c1 (rLenO (He.ga X.K C) sp E0)) := by
  intro pins s σ H xs us Q I r h
  obtain ⟨⟨fd, F, hb⟩, mt⟩ := F
  match xs, h with
  | [x], h =>
    cases x with
    | ref a =>
      obtain ⟨dx, fs, ha, h⟩ := h
      cases r with
      | cons r1 r2 =>
        cases r1
        cases r2
        obtain ⟨mA, J, _⟩ := ins_get I.hok ha
        obtain ⟨od, J, _⟩ := J.look
        obtain ⟨fm, hF⟩ := I.fr
        refine PySem.W.len_K hF I.ok.mod.kin J mt.at_ mt.fn ?_
        have e := I.env0
        have hl := F.len _ _ _ _ h
        have b := hb s [.ref a] I.kIn (by simpa using hl)
        have run := F.run X.A.in1 X.stack s H ⟨[.ref a], []⟩ [.ref a] [.ref a] _ E0 hr.in1 ⟨e.frames, e.mod, e.bs, e.bsz, e.funs, e.frf, e.hok, e.bare⟩ (by simpa using b) (.cons rfl .nil) h
        refine wpAny_call (codeAny_mono run fun q s' hq => ?_)
        cases q with
        | error e => exact hq.elim
        | ok fl =>
          cases fl with
          | ret w =>
            obtain ⟨z, H', I', rz, hz⟩ := I.after hq
            cases z with
            | int n =>
              obtain ⟨tk, rfl⟩ := rz
              exact ⟨⟨hz.1.1, by have := hz.1.2; omega⟩, .int n, H', I'.tok _, ⟨_, rfl⟩, hz.2⟩
            | _ => exact hz.elim
          | next => exact False.elim hq
          | brk => exact False.elim hq
          | cont => exact False.elim hq
    | _ => exact h.elim
def rEqO (C : Addr) (sp : Sp) : R2 := fun x y H Q => match x, y with
  | .ref a, .ref b => ∃ dx fs dy gs, H a = some (.ins C dx fs) ∧ H b = some (.ins C dy gs) ∧ sp [.ref a, .ref b] H (fun v H' => match v with | .bl r => Q (.bl r) H' | _ => False) E0
  | _, _ => False
theorem op_eqO (F : OkM X.prog X.w X.K X.mg X.base j C "__eq__" ps sp) (hr : Room k X.A) (hjk : j ≤ k := by decide) : OpR X (compareOp .Eq) (rEqO (He.ga X.K C) sp) := by
  intro pins s σ H x y v u Q I rx ry h
  obtain ⟨⟨fd, F, hb⟩, mt⟩ := F
  replace hr := hr.mono hjk
  cases x with
  | ref a =>
    cases y with
    | ref b =>
      obtain ⟨dx, fs, dy, gs, ha, hb', h⟩ := h
      cases rx
      cases ry
      show wpAny (model X.prog X.w) X.A (richCompare .Eq (.ref a) (.ref b)) (EP X pins σ Q) X.xe s
      obtain ⟨mA, J, _⟩ := ins_get I.hok ha
      obtain ⟨mB, J', _⟩ := ins_get I.hok hb'
      obtain ⟨od, J, _⟩ := J.look
      obtain ⟨od', J', _⟩ := J'.look
      obtain ⟨fm, hF⟩ := I.fr
      refine PySem.W.cmp_K (op := .Eq) (tb := .ref (He.ga X.K C)) hr.units0 hF I.ok.mod.kin J J'.type (by simp [PySem.W.notFirst]) mt.at_ mt.fn ?_
      have e := I.env0
      have hl := F.len _ _ _ _ h
      have b1 := hb s [.ref a, .ref b] I.kIn (by simpa using hl)
      have run := F.run X.A X.stack s H ⟨[.ref a, .ref b], []⟩ [.ref a, .ref b] [.ref a, .ref b] _ E0 hr e (by simpa using b1) (.cons rfl (.cons rfl .nil)) h
      refine wpAny_call (codeAny_mono run fun q s' hq => ?_)
      cases q with
      | error e => exact hq.elim
      | ok fl =>
        cases fl with
        | ret w =>
          obtain ⟨z, H', I', rz, hz⟩ := I.after hq
          cases z with
          | bl r =>
            cases rz
            exact ⟨.bl r, H', I', rfl, hz⟩
          | _ => exact hz.elim
        | next => exact False.elim hq
        | brk => exact False.elim hq
        | cont => exact False.elim hq
    | _ => exact h.elim
  | _ => cases y <;> exact h.elim
theorem e_lenO {a : Expr} {ta : TE} (hm : X.mg "len" = none) (F : OkM X.prog X.w X.K X.mg X.base j C "__len__" ps sp) (hr : Room k X.A) (ha : PE X a ta) (hjk : j + 1 ≤ k := by decide) (hg : Gl X "len" := by rfl) (hs : starEach [a] X.env = [(false, eval a X.env)] := by rfl) : PE X (.Call (.Name "len" p) [a] [] pos) (tCB (c1 (rLenO (He.ga X.K C) sp E0)) (tCons ta tNil)) :=
  pe_callB (call_lenO F (hr.mono hjk)) hg hm boot_len (pa_cons ha pa_nil hs) (he := hs)
def cIsC (K : PySem.W.Frag) (C : Addr) : V → Hp → VK → Prop := fun x H Q => match x with
  | .ref a => ∃ dx fs, H a = some (.ins C dx fs) ∧ Q (.bl true) H
  | _ => False
structure IsF (K : PySem.W.Frag) (C : Str) : Prop where
  cl : Cls K (He.ga K C)
  ha : PySem.W.findIn K (.ref (He.ga K C)) "__class__" = some (some (.builtin "object.__class__"))
  hn : PySem.W.specialIn K (.builtin "object.__class__") "__get__" = some (some (.builtin "getset_descriptor.__get__"))
  htk : PySem.W.takesIn K (.builtin "object.__class__") = some true
  hm : PySem.W.mroIn K (He.ga K C) (.type "object") = some true
def cIsCL (K : PySem.W.Frag) (C : Addr) : List V → Hp → VK → Prop := fun xs H Q => match xs with
  | [x, .ref D] => D = C ∧ cIsC K C x H Q
  | _ => False
theorem call_isC (T : IsF X.K C) : CallR X (.builtin "isinstance") (cIsCL X.K (He.ga X.K C)) := CallR_imp call_isi fun xs H Q h => by
  match xs, h with
  | [x, .ref D], ⟨e, h⟩ =>
    subst e
    cases x with
    | ref a =>
      obtain ⟨dx, fs, ha, q⟩ := h
      exact ⟨.ref a, .ref (He.ga X.K C), .ref (He.ga X.K C), .ref (He.ga X.K C), true, rfl, .own _, .base (.ins ha T.cl T.ha T.hn T.htk T.hm), by unfold PySem.W.kitOne; rw [if_pos (by simp)], q⟩
    | _ => exact h.elim
def cIsCE (K : PySem.W.Frag) (C : Addr) (ta : TE) : TE := tCB (cIsCL K C) (tCons ta (tCons (tC (.ref C)) tNil))
theorem e_isC {a : Expr} {ta : TE} {q : Pos} (T : IsF X.K C) (hm : X.mg "isinstance" = none) (g : X.mg C = some (.ref (He.ga X.K C))) (ha : PE X a ta) (hg : Gl X "isinstance" := by rfl) (hgC : Gl X C := by rfl) (hdb : (C == ("__debug__" : Str)) = false := by decide)
    (hs : starEach [a, .Name C q] X.env = (false, eval a X.env) :: starEach [.Name C q] X.env := by rfl) : PE X (.Call (.Name "isinstance" p) [a, .Name C q] [] pos) (cIsCE X.K (He.ga X.K C) ta) :=
  pe_callB (call_isC T) hg hm boot_isinstance (pa_cons ha (pa_cons (pe_glob (v := .ref (He.ga X.K C)) hgC g rfl hdb) pa_nil) hs) (he := hs)
end
def clBody : Stmt → List Stmt
  | .ClassDef _ _ _ b _ _ _ _ _ _ _ => b
  | _ => []
abbrev FnM (K : PySem.W.Frag) (C m q : Str) (st : Stmt) : Prop := ∃ fd, FunD K m q (defArgs st) (defBody st) (defScope st) [] [] (He.ma K (He.ga K C) m) fd
section
variable {P : Program} {w : World} {K : PySem.W.Frag} {mg : Str → Option Value} {base : Heap}
theorem okM_of {C m q : Str} {st : Stmt} {N ps : List Str} {k : Nat} {sp : Sp} (F : FnM K C m q st) (g : Meth K (He.ga K C) m (He.ma K (He.ga K C) m)) (S : FnScope N ps (defScope st)) (len : ∀ vs H Q E, sp vs H Q E → vs.length = ps.length)
    (bnd : ∀ (kV doc pm : Value) (an : Option Addr) (cdv ct : Value) (us : List Value), us.length = ps.length → bindArgs (PySem.W.fnOf m q (defArgs st) (defBody st) (defScope st) .none kV doc pm an cdv ct) ⟨us, []⟩ = pure (ps.zip us))
    (hbody : ∀ (cdv : Value) (A : Around) (outer : List Env) (s : Shared) (H : Hp) (vs : List V) (Q : VK) (E : XK), Room k (A.deeper (envOfC q (defScope st) s.heap.objs.size (He.ma K (He.ga K C) m) cdv)) → sp vs H Q E →
      ∃ t, PSs (cxOf CX0 P w K mg base N q (defScope st) (He.ma K (He.ga K C) m) cdv A outer s H E).nox (defBody st) t ∧ t { nx := fun _ H' => Q .non H', rt := Q } (start N vs) H) : OkM P w K mg base (k + 1) C m ps sp := by
  obtain ⟨fd, F⟩ := F
  refine ⟨⟨fd, FunD.ok F S len fun cdv A outer s H vs Q E hr hsp => ?_, F.bindsN bnd⟩, g⟩
  obtain ⟨t, h, q⟩ := hbody cdv A outer s H vs Q E hr hsp
  exact ⟨t, h.nox, q⟩
theorem okMX_of {C m q : Str} {st : Stmt} {N ps : List Str} {k : Nat} {sp : Sp} (F : FnM K C m q st) (g : Meth K (He.ga K C) m (He.ma K (He.ga K C) m)) (S : FnScope N ps (defScope st)) (len : ∀ vs H Q E, sp vs H Q E → vs.length = ps.length)
    (bnd : ∀ (kV doc pm : Value) (an : Option Addr) (cdv ct : Value) (us : List Value), us.length = ps.length → bindArgs (PySem.W.fnOf m q (defArgs st) (defBody st) (defScope st) .none kV doc pm an cdv ct) ⟨us, []⟩ = pure (ps.zip us))
    (hbody : ∀ (cdv : Value) (A : Around) (outer : List Env) (s : Shared) (H : Hp) (vs : List V) (Q : VK) (E : XK), Room k (A.deeper (envOfC q (defScope st) s.heap.objs.size (He.ma K (He.ga K C) m) cdv)) → sp vs H Q E →
      ∃ t, PSs (cxOf (L2.CX P w) P w K mg base N q (defScope st) (He.ma K (He.ga K C) m) cdv A outer s H E) (defBody st) t ∧ t { nx := fun _ H' => Q .non H', rt := Q } (start N vs) H) : OkMX P w K mg base (k + 1) C m ps sp := by
  obtain ⟨fd, F⟩ := F
  exact ⟨⟨fd, FunD.ok F S len fun cdv A outer s H vs Q E hr hsp => hbody cdv A outer s H vs Q E hr hsp, F.bindsN bnd⟩, g⟩
end
end PH

namespace PH
open PySem PySem.Spec PyProof.Rows L2
/-- a thing that never changes: a tree -/
inductive D where
  | non | bl (b : Bool) | int (i : Int) | str (x : Str) | lst (xs : List D) | tup (xs : List D) | ins (C : Str) (ns : List Str) (xs : List D) | dct
/-- what a name holds: a tree, a cell of the store, a list of cells, the script -/
inductive Vl where
  | dat (d : D) | cel (n : Nat) | cels (ns : List Nat) | scr (ns : List Int)
/-- what a cell holds -/
inductive Cell where
  | dead | lst (xs : List D) | ins (C : Str) (fs : List (Str × Vl)) | dct (fs : List (Str × Vl))
abbrev Sto := List Cell
abbrev Ev := List (Option Vl)
/-- an exception: its class, its fields -/
structure Er where
  cls : Str
  ns : List Str := []
  xs : List D := []
inductive Res (α : Type) where
  | ok (a : α) (S : Sto) | err (e : Er) (S : Sto) | stuck
def Res.bind {α β : Type} (r : Res α) (k : α → Sto → Res β) : Res β := match r with
  | .ok a S => k a S
  | .err e S => .err e S
  | .stuck => .stuck
/-- the address of a living cell -/
def Alive (φ : List Addr) (S : Sto) (a : Addr) : Prop := ∃ (n : Nat) (c : Cell), S[n]? = some c ∧ c ≠ .dead ∧ φ[n]? = some a
def Blk (B : Addr → Prop) (φ : List Addr) (S : Sto) (a : Addr) : Prop := B a ∨ Alive φ S a
mutual
/-- the tree d is at v -/
def Rep (K : PySem.W.Frag) (Bk : Addr → Prop) (H : Hp) : D → V → Prop
  | .non, v => v = .non
  | .bl b, v => v = .bl b
  | .int i, v => v = .int i
  | .str x, v => v = .str x
  | .lst ds, v => ∃ a vs, v = .ref a ∧ ¬ Bk a ∧ H a = some (.lst vs) ∧ RepL K Bk H ds vs
  | .tup ds, v => ∃ a vs, v = .ref a ∧ SqT K H a vs ∧ RepL K Bk H ds vs
  | .ins C ns ds, v => ∃ a dx vs, v = .ref a ∧ ¬ Bk a ∧ H a = some (.ins (He.ga K C) dx (ns.zip vs)) ∧ RepL K Bk H ds vs
  | .dct, v => ∃ a, v = .ref a ∧ ¬ Bk a ∧ H a = some (.dK [])
def RepL (K : PySem.W.Frag) (Bk : Addr → Prop) (H : Hp) : List D → List V → Prop
  | [], vs => vs = []
  | d :: ds, vs => ∃ v ws, vs = v :: ws ∧ Rep K Bk H d v ∧ RepL K Bk H ds ws
end
structure Kp (Bk : Addr → Prop) (H : Hp) (Bk' : Addr → Prop) (H' : Hp) : Prop where
  old : ∀ b o, H b = some o → ¬ Bk b → H' b = some o ∧ ¬ Bk' b
  tup : ∀ b u, Rd H b (.tup u) → Rd H' b (.tup u)
theorem SqT.kp {K : PySem.W.Frag} {H H' : Hp} {a : Addr} {vs : List V} (t : ∀ b u, Rd H b (.tup u) → Rd H' b (.tup u)) (h : SqT K H a vs) : SqT K H' a vs := by
  rcases h with h | h
  · exact .inl (t _ _ h)
  · exact .inr h
mutual
theorem Rep.kp {K : PySem.W.Frag} {Bk Bk' : Addr → Prop} {H H' : Hp} (k : Kp Bk H Bk' H') : ∀ (d : D) (v : V), Rep K Bk H d v → Rep K Bk' H' d v
  | .non, v, h => h
  | .bl b, v, h => h
  | .int i, v, h => h
  | .str x, v, h => h
  | .lst ds, v, ⟨a, vs, e, nb, h, r⟩ => ⟨a, vs, e, (k.old _ _ h nb).2, (k.old _ _ h nb).1, RepL.kp k ds vs r⟩
  | .tup ds, v, ⟨a, vs, e, h, r⟩ => ⟨a, vs, e, SqT.kp k.tup h, RepL.kp k ds vs r⟩
  | .ins C ns ds, v, ⟨a, dx, vs, e, nb, h, r⟩ => ⟨a, dx, vs, e, (k.old _ _ h nb).2, (k.old _ _ h nb).1, RepL.kp k ds vs r⟩
  | .dct, v, ⟨a, e, nb, h⟩ => ⟨a, e, (k.old _ _ h nb).2, (k.old _ _ h nb).1⟩
theorem RepL.kp {K : PySem.W.Frag} {Bk Bk' : Addr → Prop} {H H' : Hp} (k : Kp Bk H Bk' H') : ∀ (ds : List D) (vs : List V), RepL K Bk H ds vs → RepL K Bk' H' ds vs
  | [], vs, h => h
  | d :: ds, vs, ⟨v, ws, e, h1, h2⟩ => ⟨v, ws, e, Rep.kp k d v h1, RepL.kp k ds ws h2⟩
end
/-- the script: it is known, or written -/
def ScrAt (K : PySem.W.Frag) (H : Hp) (a : Addr) (vs : List V) : Prop := (∃ o, H a = some (.frz o (.lst vs))) ∨ SqL K (fun _ => none) a vs
theorem ScrAt.sq {K : PySem.W.Frag} {H : Hp} {a : Addr} {vs : List V} (h : ScrAt K H a vs) : SqL K H a vs := by
  rcases h with ⟨o, h⟩ | (h | ⟨o, h⟩) | h
  · exact .inl (.inr ⟨o, h⟩)
  · cases h
  · cases h
  · exact .inr h
theorem ScrAt.keep {K : PySem.W.Frag} {H H' : Hp} {a : Addr} {vs : List V} (h : ScrAt K H a vs) (k : ∀ o u, H a = some (.frz o u) → H' a = some (.frz o u)) : ScrAt K H' a vs := by
  rcases h with ⟨o, h⟩ | h
  · exact .inl ⟨o, k _ _ h⟩
  · exact .inr h
/-- what a name holds is at v -/
def RepV (K : PySem.W.Frag) (B : Addr → Prop) (φ : List Addr) (S : Sto) (H : Hp) : Vl → V → Prop
  | .dat d, v => Rep K (Blk B φ S) H d v
  | .cel n, v => ∃ a, v = .ref a ∧ φ[n]? = some a
  | .cels ns, v => ∃ (a : Addr) (as : List Addr), v = .ref a ∧ ¬ Blk B φ S a ∧ H a = some (.lst (as.map V.ref)) ∧ ns.map (fun n => φ[n]?) = as.map some
  | .scr ns, v => ∃ a, v = .ref a ∧ ScrAt K H a (ns.map V.int)
def RepVs (K : PySem.W.Frag) (B : Addr → Prop) (φ : List Addr) (S : Sto) (H : Hp) : List Vl → List V → Prop
  | [], vs => vs = []
  | d :: ds, vs => ∃ v ws, vs = v :: ws ∧ RepV K B φ S H d v ∧ RepVs K B φ S H ds ws
def RepF (K : PySem.W.Frag) (B : Addr → Prop) (φ : List Addr) (S : Sto) (H : Hp) : List (Str × Vl) → List (Str × V) → Prop
  | [], vs => vs = []
  | d :: ds, vs => ∃ v ws, vs = (d.1, v) :: ws ∧ RepV K B φ S H d.2 v ∧ RepF K B φ S H ds ws
def kvOf (fs : List (Str × V)) : List (Key × V) := fs.map fun p => (Sum.inr p.1, p.2)
def CellOk (K : PySem.W.Frag) (B : Addr → Prop) (φ : List Addr) (S : Sto) (H : Hp) : Cell → Addr → Prop
  | .dead, _ => True
  | .lst ds, a => ∃ vs, H a = some (.lst vs) ∧ RepL K (Blk B φ S) H ds vs
  | .ins C fs, a => ∃ dx vfs, H a = some (.ins (He.ga K C) dx vfs) ∧ RepF K B φ S H fs vfs
  | .dct fs, a => ∃ vfs, H a = some (.dK (kvOf vfs)) ∧ RepF K B φ S H fs vfs
structure GInv (K : PySem.W.Frag) (B : Addr → Prop) (φ : List Addr) (S : Sto) (H : Hp) : Prop where
  len : φ.length = S.length
  ok : ∀ (n : Nat) (c : Cell) (a : Addr), S[n]? = some c → φ[n]? = some a → CellOk K B φ S H c a
  inj : ∀ (n m : Nat) (c c' : Cell) (a : Addr), S[n]? = some c → c ≠ .dead → S[m]? = some c' → c' ≠ .dead → φ[n]? = some a → φ[m]? = some a → n = m
  blk : ∀ a, Alive φ S a → ¬ B a
  btr : ∀ a, B a → ∃ o, H a = some o
structure Ext (φ : List Addr) (S : Sto) (H : Hp) (φ' : List Addr) (S' : Sto) (H' : Hp) : Prop where
  old : ∀ b o, H b = some o → ¬ Alive φ S b → H' b = some o ∧ ¬ Alive φ' S' b
  ids : ∀ (n : Nat) (a : Addr), φ[n]? = some a → φ'[n]? = some a
section
variable {K : PySem.W.Frag} {B : Addr → Prop} {φ φ' φ₂ : List Addr} {S S' S₂ : Sto} {H H' H₂ : Hp}
theorem Ext.refl : Ext φ S H φ S H := ⟨fun _ _ h n => ⟨h, n⟩, fun _ _ h => h⟩
theorem Ext.trans (a : Ext φ S H φ' S' H') (b : Ext φ' S' H' φ₂ S₂ H₂) : Ext φ S H φ₂ S₂ H₂ :=
  ⟨fun c o h n => b.old c o (a.old c o h n).1 (a.old c o h n).2, fun n x h => b.ids n x (a.ids n x h)⟩
/-- what a living cell's address bears -/
theorem GInv.at_ (I : GInv K B φ S H) {a : Addr} (h : Alive φ S a) : (∃ vs, H a = some (.lst vs)) ∨ (∃ C dx fs, H a = some (.ins C dx fs)) ∨ ∃ kvs, H a = some (.dK kvs) := by
  obtain ⟨n, c, h1, h2, h3⟩ := h
  have q := I.ok n c a h1 h3
  cases c with
  | dead => exact absurd rfl h2
  | lst ds => obtain ⟨vs, e, _⟩ := q; exact .inl ⟨vs, e⟩
  | ins C fs => obtain ⟨dx, vs, e, _⟩ := q; exact .inr (.inl ⟨_, dx, vs, e⟩)
  | dct fs => obtain ⟨vs, e, _⟩ := q; exact .inr (.inr ⟨_, e⟩)
theorem GInv.some_ (I : GInv K B φ S H) {a : Addr} (h : Alive φ S a) : H a ≠ none := by
  rcases I.at_ h with ⟨_, e⟩ | ⟨_, _, _, e⟩ | ⟨_, e⟩ <;> rw [e] <;> simp
theorem GInv.fresh (I : GInv K B φ S H) {a : Addr} (h : H a = none) : ¬ Alive φ S a := fun q => I.some_ q h
theorem GInv.nblk (I : GInv K B φ S H) {a : Addr} (h : H a = none) : ¬ Blk B φ S a := fun q => by
  rcases q with q | q
  · obtain ⟨u, e⟩ := I.btr a q; rw [h] at e; cases e
  · exact I.fresh h q
theorem GInv.ntup (I : GInv K B φ S H) {a : Addr} {xs : List V} (h : H a = some (.tup xs)) : ¬ Alive φ S a := fun q => by
  rcases I.at_ q with ⟨_, e⟩ | ⟨_, _, _, e⟩ | ⟨_, e⟩ <;> rw [h] at e <;> cases e
theorem GInv.nfrz (I : GInv K B φ S H) {a : Addr} {o : Obj} {u : HO} (h : H a = some (.frz o u)) : ¬ Alive φ S a := fun q => by
  rcases I.at_ q with ⟨_, e⟩ | ⟨_, _, _, e⟩ | ⟨_, e⟩ <;> rw [h] at e <;> cases e
theorem GInv.nxd (I : GInv K B φ S H) {a : Addr} {fs : List (Str × V)} (h : H a = some (.xd fs)) : ¬ Alive φ S a := fun q => by
  rcases I.at_ q with ⟨_, e⟩ | ⟨_, _, _, e⟩ | ⟨_, e⟩ <;> rw [h] at e <;> cases e
theorem Ext.kp (e : Ext φ S H φ' S' H') (I : GInv K B φ S H) : Kp (Blk B φ S) H (Blk B φ' S') H' where
  old := fun b o h n => by
    obtain ⟨h1, h2⟩ := e.old b o h (fun q => n (.inr q))
    exact ⟨h1, fun q => by
      rcases q with q | q
      · exact n (.inl q)
      · exact h2 q⟩
  tup := fun b u h => by
    rcases h with h | ⟨o, h⟩
    · exact .inl (e.old _ _ h (I.ntup h)).1
    · exact .inr ⟨o, (e.old _ _ h (I.nfrz h)).1⟩
theorem map_ids (e : ∀ (n : Nat) (a : Addr), φ[n]? = some a → φ'[n]? = some a) : ∀ (ns : List Nat) (as : List Addr), ns.map (fun n => φ[n]?) = as.map some → ns.map (fun n => φ'[n]?) = as.map some
  | [], as, h => h
  | n :: ns, [], h => by simp at h
  | n :: ns, a :: as, h => by
    simp only [List.map_cons, List.cons.injEq] at h ⊢
    exact ⟨e _ _ h.1, map_ids e ns as h.2⟩
theorem RepV.ext (e : Ext φ S H φ' S' H') (I : GInv K B φ S H) : ∀ {d : Vl} {v : V}, RepV K B φ S H d v → RepV K B φ' S' H' d v
  | .dat d, v, h => Rep.kp (e.kp I) d v h
  | .cel n, v, ⟨a, h1, h2⟩ => ⟨a, h1, e.ids _ _ h2⟩
  | .cels ns, v, ⟨a, as, h1, h2, h3, h4⟩ => ⟨a, as, h1, ((e.kp I).old _ _ h3 h2).2, ((e.kp I).old _ _ h3 h2).1, map_ids e.ids ns as h4⟩
  | .scr ns, v, ⟨a, h1, h2⟩ => ⟨a, h1, h2.keep fun o u h => (e.old _ _ h (I.nfrz h)).1⟩
theorem RepVs.ext (e : Ext φ S H φ' S' H') (I : GInv K B φ S H) : ∀ {ds : List Vl} {vs : List V}, RepVs K B φ S H ds vs → RepVs K B φ' S' H' ds vs
  | [], vs, h => h
  | d :: ds, vs, ⟨v, ws, e1, h1, h2⟩ => ⟨v, ws, e1, h1.ext e I, RepVs.ext e I h2⟩
theorem RepF.ext (e : Ext φ S H φ' S' H') (I : GInv K B φ S H) : ∀ {ds : List (Str × Vl)} {vs : List (Str × V)}, RepF K B φ S H ds vs → RepF K B φ' S' H' ds vs
  | [], vs, h => h
  | d :: ds, vs, ⟨v, ws, e1, h1, h2⟩ => ⟨v, ws, e1, h1.ext e I, RepF.ext e I h2⟩
theorem Ext.repL (e : Ext φ S H φ' S' H') (I : GInv K B φ S H) {ds : List D} {vs : List V} (h : RepL K (Blk B φ S) H ds vs) : RepL K (Blk B φ' S') H' ds vs := RepL.kp (e.kp I) ds vs h
def RepE (K : PySem.W.Frag) (B : Addr → Prop) (φ : List Addr) (S : Sto) (H : Hp) (ρ : Ev) (σ : L2.St) : Prop :=
  ρ.length = σ.length ∧ ∀ (i : Nat) (d : Vl), ρ[i]? = some (some d) → ∃ v, σ[i]? = some (some v) ∧ RepV K B φ S H d v
theorem RepE.ext {ρ : Ev} {σ : L2.St} (e : Ext φ S H φ' S' H') (I : GInv K B φ S H) (h : RepE K B φ S H ρ σ) : RepE K B φ' S' H' ρ σ :=
  ⟨h.1, fun i d q => by
    obtain ⟨v, h1, h2⟩ := h.2 i d q
    exact ⟨v, h1, h2.ext e I⟩⟩
theorem RepE.set {ρ : Ev} {σ : L2.St} {d : Vl} {v : V} (h : RepE K B φ S H ρ σ) (r : RepV K B φ S H d v) (i : Nat) : RepE K B φ S H (ρ.set i (some d)) (σ.set i (some v)) := by
  refine ⟨by simp [h.1], fun j d' q => ?_⟩
  rw [List.getElem?_set] at q ⊢
  by_cases e : i = j
  · subst e
    rw [if_pos rfl] at q ⊢
    by_cases hl : i < ρ.length
    · rw [if_pos hl] at q
      cases q
      rw [if_pos (by rw [← h.1]; exact hl)]
      exact ⟨v, rfl, r⟩
    · rw [if_neg hl] at q; cases q
  · rw [if_neg e] at q ⊢
    exact h.2 j d' q
theorem RepE.forget {ρ : Ev} {σ : L2.St} (h : RepE K B φ S H ρ σ) (i : Nat) : RepE K B φ S H (ρ.set i none) σ := by
  refine ⟨by simp [h.1], fun j d' q => ?_⟩
  rw [List.getElem?_set] at q
  by_cases e : i = j
  · subst e
    rw [if_pos rfl] at q
    by_cases hl : i < ρ.length
    · rw [if_pos hl] at q; cases q
    · rw [if_neg hl] at q; cases q
  · rw [if_neg e] at q
    exact h.2 j d' q
theorem alive_app {x : Cell} {p a : Addr} (hl : φ.length = S.length) : Alive (φ ++ [p]) (S ++ [x]) a ↔ Alive φ S a ∨ (x ≠ .dead ∧ a = p) := by
  constructor
  · rintro ⟨n, c, h1, h2, h3⟩
    by_cases hn : n < S.length
    · rw [List.getElem?_append_left hn] at h1
      rw [List.getElem?_append_left (by omega)] at h3
      exact .inl ⟨n, c, h1, h2, h3⟩
    · have e : n = S.length := by
        have := (List.getElem?_eq_some_iff.mp h1).1
        simp at this
        omega
      subst e
      rw [List.getElem?_append_right (Nat.le_refl _)] at h1
      rw [← hl, List.getElem?_append_right (Nat.le_refl _)] at h3
      simp at h1 h3
      subst h1
      exact .inr ⟨h2, h3.symm⟩
  · rintro (⟨n, c, h1, h2, h3⟩ | ⟨h, rfl⟩)
    · exact ⟨n, c, by rw [List.getElem?_append_left (List.getElem?_eq_some_iff.mp h1).1]; exact h1, h2, by rw [List.getElem?_append_left (List.getElem?_eq_some_iff.mp h3).1]; exact h3⟩
    · exact ⟨S.length, x, by simp, h, by rw [← hl]; simp⟩
/-- a new tracked object, no cell -/
theorem Ext.new {p : Addr} {o : HO} (I : GInv K B φ S H) (hp : H p = none) : Ext φ S H φ S (upd H p o) :=
  ⟨fun b u h n => ⟨by rw [upd_ne (ne_of_none h hp)]; exact h, n⟩, fun _ _ h => h⟩
theorem GInv.mono {o : Ext φ S H φ S H'} (I : GInv K B φ S H) (h : ∀ (n : Nat) (c : Cell) (a : Addr), S[n]? = some c → c ≠ .dead → φ[n]? = some a → H' a = H a) : GInv K B φ S H' where
  len := I.len
  ok := fun n c a h1 h2 => by
    have q := I.ok n c a h1 h2
    cases c with
    | dead => trivial
    | lst ds => obtain ⟨vs, e, r⟩ := q; exact ⟨vs, by rw [h n _ a h1 (by simp) h2]; exact e, o.repL I r⟩
    | ins C fs => obtain ⟨dx, vs, e, r⟩ := q; exact ⟨dx, vs, by rw [h n _ a h1 (by simp) h2]; exact e, r.ext o I⟩
    | dct fs => obtain ⟨vs, e, r⟩ := q; exact ⟨vs, by rw [h n _ a h1 (by simp) h2]; exact e, r.ext o I⟩
  inj := I.inj
  blk := I.blk
  btr := fun a h => by
    obtain ⟨u, e⟩ := I.btr a h
    exact ⟨u, (o.old a u e fun q => I.blk a q h).1⟩
theorem GInv.new {p : Addr} {o : HO} (I : GInv K B φ S H) (hp : H p = none) : GInv K B φ S (upd H p o) :=
  GInv.mono (o := Ext.new I hp) I fun n c a h1 h2 h3 => by
    rw [upd_ne]
    intro e
    subst e
    exact I.fresh hp ⟨n, c, h1, h2, h3⟩
/-- a new tracked object that is a cell -/
theorem Ext.newC {p : Addr} {o : HO} {x : Cell} (I : GInv K B φ S H) (hp : H p = none) : Ext φ S H (φ ++ [p]) (S ++ [x]) (upd H p o) where
  old := fun b u h n => by
    have hb : b ≠ p := ne_of_none h hp
    exact ⟨by rw [upd_ne hb]; exact h, fun q => by
      rcases (alive_app I.len).mp q with q | ⟨_, q⟩
      · exact n q
      · exact hb q⟩
  ids := fun n a h => by rw [List.getElem?_append_left (List.getElem?_eq_some_iff.mp h).1]; exact h
theorem GInv.newC {p : Addr} {o : HO} {x : Cell} (I : GInv K B φ S H) (hp : H p = none) (hx : x ≠ .dead → CellOk K B (φ ++ [p]) (S ++ [x]) (upd H p o) x p) : GInv K B (φ ++ [p]) (S ++ [x]) (upd H p o) where
  len := by simp [I.len]
  ok := fun n c a h1 h2 => by
    by_cases hn : n < S.length
    · rw [List.getElem?_append_left hn] at h1
      rw [List.getElem?_append_left (by rw [I.len]; exact hn)] at h2
      have q := I.ok n c a h1 h2
      have ex := Ext.newC (o := o) (x := x) I hp
      have ha : c ≠ .dead → upd H p o a = H a := fun hc => by
        rw [upd_ne]
        intro e
        subst e
        exact I.fresh hp ⟨n, c, h1, hc, h2⟩
      cases c with
      | dead => trivial
      | lst ds => obtain ⟨vs, e, r⟩ := q; exact ⟨vs, by rw [ha (by simp)]; exact e, ex.repL I r⟩
      | ins C fs => obtain ⟨dx, vs, e, r⟩ := q; exact ⟨dx, vs, by rw [ha (by simp)]; exact e, r.ext ex I⟩
      | dct fs => obtain ⟨vs, e, r⟩ := q; exact ⟨vs, by rw [ha (by simp)]; exact e, r.ext ex I⟩
    · have e : n = S.length := by
        have := (List.getElem?_eq_some_iff.mp h1).1
        simp at this
        omega
      subst e
      rw [List.getElem?_append_right (Nat.le_refl _)] at h1
      rw [← I.len, List.getElem?_append_right (Nat.le_refl _)] at h2
      simp at h1 h2
      subst h1 h2
      cases x with
      | dead => trivial
      | _ => exact hx (by simp)
  inj := fun n m c c' a h1 h2 h3 h4 h5 h6 => by
    have key : ∀ (n : Nat) (c : Cell), (S ++ [x])[n]? = some c → (n < S.length ∧ S[n]? = some c) ∨ n = S.length := fun n c h => by
      by_cases hn : n < S.length
      · rw [List.getElem?_append_left hn] at h; exact .inl ⟨hn, h⟩
      · have := (List.getElem?_eq_some_iff.mp h).1
        simp at this
        exact .inr (by omega)
    have kφ : ∀ n : Nat, n < S.length → (φ ++ [p])[n]? = φ[n]? := fun n hn => List.getElem?_append_left (by rw [I.len]; exact hn)
    have kp : (φ ++ [p])[S.length]? = some p := by rw [← I.len]; simp
    rcases key n c h1 with ⟨hn, e1⟩ | e1 <;> rcases key m c' h3 with ⟨hm, e2⟩ | e2
    · rw [kφ n hn] at h5
      rw [kφ m hm] at h6
      exact I.inj n m c c' a e1 h2 e2 h4 h5 h6
    · subst e2
      rw [kp] at h6
      cases h6
      rw [kφ n hn] at h5
      exact absurd ⟨n, c, e1, h2, h5⟩ (I.fresh hp)
    · subst e1
      rw [kp] at h5
      cases h5
      rw [kφ m hm] at h6
      exact absurd ⟨m, c', e2, h4, h6⟩ (I.fresh hp)
    · omega
  blk := fun a h => by
    rcases (alive_app I.len).mp h with h | ⟨_, h⟩
    · exact I.blk a h
    · rw [h]; intro q; obtain ⟨u, e⟩ := I.btr p q; rw [hp] at e; cases e
  btr := fun a h => by
    obtain ⟨u, e⟩ := I.btr a h
    exact ⟨u, by rw [upd_ne (ne_of_none e hp)]; exact e⟩
theorem alive_set {n : Nat} {c x : Cell} {a : Addr} (h : S[n]? = some c) (hc : c ≠ .dead) (hx : x ≠ .dead) : Alive φ (S.set n x) a ↔ Alive φ S a := by
  constructor
  · rintro ⟨m, c', h1, h2, h3⟩
    rw [List.getElem?_set] at h1
    by_cases e : n = m
    · subst e
      exact ⟨n, c, h, hc, h3⟩
    · rw [if_neg e] at h1
      exact ⟨m, c', h1, h2, h3⟩
  · rintro ⟨m, c', h1, h2, h3⟩
    by_cases e : n = m
    · subst e
      exact ⟨n, x, by rw [List.getElem?_set, if_pos rfl, if_pos (List.getElem?_eq_some_iff.mp h).1], hx, h3⟩
    · exact ⟨m, c', by rw [List.getElem?_set, if_neg e]; exact h1, h2, h3⟩
theorem alive_kill {n : Nat} {a : Addr} (h : Alive φ (S.set n .dead) a) : Alive φ S a := by
  obtain ⟨m, c', h1, h2, h3⟩ := h
  rw [List.getElem?_set] at h1
  by_cases e : n = m
  · rw [if_pos e] at h1
    by_cases hl : n < S.length
    · rw [if_pos hl] at h1; cases h1; exact absurd rfl h2
    · rw [if_neg hl] at h1; cases h1
  · rw [if_neg e] at h1
    exact ⟨m, c', h1, h2, h3⟩
theorem Ext.put {n : Nat} {c x : Cell} {a : Addr} {o : HO} (hn : S[n]? = some c) (hc : c ≠ .dead) (ha : φ[n]? = some a) (hx : x ≠ .dead) : Ext φ S H φ (S.set n x) (upd H a o) where
  old := fun b u h nb => by
    have hb : b ≠ a := fun e => by subst e; exact nb ⟨n, c, hn, hc, ha⟩
    exact ⟨by rw [upd_ne hb]; exact h, fun q => nb ((alive_set hn hc hx).mp q)⟩
  ids := fun _ _ h => h
theorem GInv.put {n : Nat} {c x : Cell} {a : Addr} {o : HO} (I : GInv K B φ S H) (hn : S[n]? = some c) (hc : c ≠ .dead) (ha : φ[n]? = some a) (hx : x ≠ .dead) (ok : CellOk K B φ (S.set n x) (upd H a o) x a) : GInv K B φ (S.set n x) (upd H a o) where
  len := by simp [I.len]
  ok := fun m c' b h1 h2 => by
    by_cases e : n = m
    · subst e
      rw [List.getElem?_set, if_pos rfl, if_pos (List.getElem?_eq_some_iff.mp hn).1] at h1
      cases h1
      rw [ha] at h2
      cases h2
      exact ok
    · rw [List.getElem?_set, if_neg e] at h1
      have q := I.ok m c' b h1 h2
      have ex := Ext.put (H := H) (o := o) hn hc ha hx
      have hb : c' ≠ .dead → upd H a o b = H b := fun hc' => upd_ne fun e2 => by
        subst e2
        exact e (I.inj n m c c' b hn hc h1 hc' ha h2)
      cases c' with
      | dead => trivial
      | lst ds => obtain ⟨vs, e, r⟩ := q; exact ⟨vs, by rw [hb (by simp)]; exact e, ex.repL I r⟩
      | ins C fs => obtain ⟨dx, vs, e, r⟩ := q; exact ⟨dx, vs, by rw [hb (by simp)]; exact e, r.ext ex I⟩
      | dct fs => obtain ⟨vs, e, r⟩ := q; exact ⟨vs, by rw [hb (by simp)]; exact e, r.ext ex I⟩
  inj := fun i j d d' b h1 h2 h3 h4 h5 h6 => by
    have key : ∀ (i : Nat) (d : Cell), (S.set n x)[i]? = some d → d ≠ .dead → ∃ d0, S[i]? = some d0 ∧ d0 ≠ .dead := fun i d h hd => by
      by_cases e : n = i
      · subst e; exact ⟨c, hn, hc⟩
      · rw [List.getElem?_set, if_neg e] at h; exact ⟨d, h, hd⟩
    obtain ⟨d0, e1, e2⟩ := key i d h1 h2
    obtain ⟨d1, e3, e4⟩ := key j d' h3 h4
    exact I.inj i j d0 d1 b e1 e2 e3 e4 h5 h6
  blk := fun b h => I.blk b ((alive_set hn hc hx).mp h)
  btr := fun b h => by
    obtain ⟨u, e⟩ := I.btr b h
    exact ⟨u, by rw [upd_ne]; exact e; intro q; subst q; exact I.blk b ⟨n, c, hn, hc, ha⟩ h⟩
theorem Ext.kill {n : Nat} : Ext φ S H φ (S.set n .dead) H := ⟨fun b o h nb => ⟨h, fun q => nb (alive_kill q)⟩, fun _ _ h => h⟩
theorem GInv.kill {n : Nat} (I : GInv K B φ S H) : GInv K B φ (S.set n .dead) H where
  len := by simp [I.len]
  ok := fun m c' b h1 h2 => by
    by_cases e : n = m
    · rw [List.getElem?_set, if_pos e] at h1
      by_cases hl : n < S.length
      · rw [if_pos hl] at h1; cases h1; trivial
      · rw [if_neg hl] at h1; cases h1
    · rw [List.getElem?_set, if_neg e] at h1
      have q := I.ok m c' b h1 h2
      have ex := Ext.kill (φ := φ) (S := S) (H := H) (n := n)
      cases c' with
      | dead => trivial
      | lst ds => obtain ⟨vs, e, r⟩ := q; exact ⟨vs, e, ex.repL I r⟩
      | ins C fs => obtain ⟨dx, vs, e, r⟩ := q; exact ⟨dx, vs, e, r.ext ex I⟩
      | dct fs => obtain ⟨vs, e, r⟩ := q; exact ⟨vs, e, r.ext ex I⟩
  inj := fun i j d d' b h1 h2 h3 h4 h5 h6 => by
    have key : ∀ (i : Nat) (d : Cell), (S.set n .dead)[i]? = some d → d ≠ .dead → S[i]? = some d := fun i d h hd => by
      rw [List.getElem?_set] at h
      by_cases e : n = i
      · rw [if_pos e] at h
        by_cases hl : n < S.length
        · rw [if_pos hl] at h; cases h; exact absurd rfl hd
        · rw [if_neg hl] at h; cases h
      · rw [if_neg e] at h; exact h
    exact I.inj i j d d' b (key i d h1 h2) h2 (key j d' h3 h4) h4 h5 h6
  blk := fun b h => I.blk b (alive_kill h)
  btr := I.btr
/-- a killed cell's address is free -/
theorem GInv.killed {n : Nat} {c : Cell} {a : Addr} (I : GInv K B φ S H) (hn : S[n]? = some c) (hc : c ≠ .dead) (ha : φ[n]? = some a) : ¬ Blk B φ (S.set n .dead) a := fun q => by
  rcases q with q | ⟨m, c', h1, h2, h3⟩
  · exact I.blk a ⟨n, c, hn, hc, ha⟩ q
  · rw [List.getElem?_set] at h1
    by_cases e : n = m
    · rw [if_pos e] at h1
      by_cases hl : n < S.length
      · rw [if_pos hl] at h1; cases h1; exact h2 rfl
      · rw [if_neg hl] at h1; cases h1
    · rw [if_neg e] at h1
      exact e (I.inj n m c c' a hn hc h1 h2 ha h3)
end
end PH

namespace PH
open PySem PySem.Spec PyProof.Rows L2
abbrev FE := Ev → Sto → Res Vl
abbrev FT := Ev → Sto → Res Bool
abbrev FA := Ev → Sto → Res (List Vl)
abbrev FO := Ev → Sto → Res (Option Int)
abbrev Rl (α β : Type) := (Addr → Prop) → List Addr → Sto → Hp → α → β → Prop
def RepX (K : PySem.W.Frag) (B : Addr → Prop) (φ : List Addr) (S : Sto) (H : Hp) (e : Er) (c : Value) (x : Option Addr) : Prop :=
  c = .ref (He.ga K e.cls) ∧ ((e.ns = [] ∧ x = none) ∨ ∃ d vs, x = some d ∧ H d = some (.xd (e.ns.zip vs)) ∧ RepL K (Blk B φ S) H e.xs vs)
section
variable {α β α' β' : Type}
def Fin (K : PySem.W.Frag) (W : WX) (σ : L2.St) (R : Rl α β) (B : Addr → Prop) (φ : List Addr) (S : Sto) (H : Hp) (r : Res α) (Q : β → Hp → Prop) : Prop := match r with
  | .ok d S' => ∀ φ' v H', GInv K B φ' S' H' → Ext φ S H φ' S' H' → R B φ' S' H' d v → Q v H'
  | .err e S' => ∀ φ' c x H', GInv K B φ' S' H' → Ext φ S H φ' S' H' → RepX K B φ' S' H' e c x → W c x σ H'
  | .stuck => False
def rd (K : PySem.W.Frag) (W : WX) (R : Rl α β) (m : Ev → Sto → Res α) : L2.St → Hp → (β → Hp → Prop) → Prop := fun σ H Q =>
  ∃ B φ S ρ, GInv K B φ S H ∧ RepE K B φ S H ρ σ ∧ Fin K W σ R B φ S H (m ρ S) Q
end
def RB : Rl Bool Bool := fun _ _ _ _ b c => c = b
def RO : Rl (Option Int) (Option Int) := fun _ _ _ _ b c => c = b
abbrev rdE (K : PySem.W.Frag) (W : WX) (m : FE) : TE := rd K W (RepV K) m
abbrev rdT (K : PySem.W.Frag) (W : WX) (m : FT) : TT := rd K W RB m
abbrev rdA (K : PySem.W.Frag) (W : WX) (m : FA) : TA := rd K W (RepVs K) m
abbrev rdO (K : PySem.W.Frag) (W : WX) (m : FO) : TO := rd K W RO m
section
variable {α β α' β' : Type} {K : PySem.W.Frag} {W : WX} {σ : L2.St} {R : Rl α β} {R' : Rl α' β'} {B : Addr → Prop} {φ φ' : List Addr} {S S' : Sto} {H H' : Hp}
theorem Fin.ext {r : Res α} {Q : β → Hp → Prop} (f : Fin K W σ R B φ S H r Q) (e : Ext φ S H φ' S' H') : Fin K W σ R B φ' S' H' r Q := by
  cases r with
  | ok d S1 => exact fun φ1 v H1 I1 X r => f φ1 v H1 I1 (e.trans X) r
  | err x S1 => exact fun φ1 c x H1 I1 X r => f φ1 c x H1 I1 (e.trans X) r
  | stuck => exact f
theorem rd_bind {m : Ev → Sto → Res α} {k : α → Ev → Sto → Res α'} {Q : β' → Hp → Prop} {Q1 : β → Hp → Prop} (h : rd K W R' (fun ρ S => (m ρ S).bind fun a S' => k a ρ S') σ H Q)
    (hk : ∀ B φ S ρ d v H1, GInv K B φ S H1 → RepE K B φ S H1 ρ σ → R B φ S H1 d v → Fin K W σ R' B φ S H1 (k d ρ S) Q → Q1 v H1) : rd K W R m σ H Q1 := by
  obtain ⟨B, φ, S, ρ, I, E, f⟩ := h
  refine ⟨B, φ, S, ρ, I, E, ?_⟩
  dsimp only at f
  cases e : m ρ S with
  | stuck => rw [e] at f; exact f
  | err x S' => rw [e] at f; exact f
  | ok d S' =>
    rw [e] at f
    exact fun φ' v H' I' X r => hk B φ' S' ρ d v H' I' (E.ext X I) r (Fin.ext f X)
/-- the same, from a state -/
theorem fin_bind {ρ : Ev} {m : Ev → Sto → Res α} {k : α → Sto → Res α'} {Q : β' → Hp → Prop} {Q1 : β → Hp → Prop} (I : GInv K B φ S H) (E : RepE K B φ S H ρ σ) (f : Fin K W σ R' B φ S H ((m ρ S).bind k) Q)
    (hk : ∀ φ' S' d v H1, GInv K B φ' S' H1 → Ext φ S H φ' S' H1 → RepE K B φ' S' H1 ρ σ → R B φ' S' H1 d v → Fin K W σ R' B φ' S' H1 (k d S') Q → Q1 v H1) : rd K W R m σ H Q1 := by
  refine ⟨B, φ, S, ρ, I, E, ?_⟩
  cases e : m ρ S with
  | stuck => rw [e] at f; exact f
  | err x S' => rw [e] at f; exact f
  | ok d S' =>
    rw [e] at f
    exact fun φ' v H' I' X r => hk φ' S' d v H' I' X (E.ext X I) r (Fin.ext f X)
theorem Fin.now {d : α} {v : β} {Q : β → Hp → Prop} (f : Fin K W σ R B φ S H (.ok d S) Q) (I : GInv K B φ S H) (r : R B φ S H d v) : Q v H := f φ v H I Ext.refl r
end
/-- a new list, as a tree or as a cell -/
def newL (c : Bool) (ds : List D) (S : Sto) : Res Vl := if c then .ok (.cel S.length) (S ++ [.lst ds]) else .ok (.dat (.lst ds)) S
section
variable {K : PySem.W.Frag} {W : WX} {σ : L2.St} {B : Addr → Prop} {φ φ' : List Addr} {S S' : Sto} {H H' : Hp} {Q : VK}
theorem getElem_app {l : List Addr} {p : Addr} : (l ++ [p])[l.length]? = some p := by simp
theorem Fin.newT {ds : List D} {vs : List V} {p : Addr} (f : Fin K W σ (RepV K) B φ S H (.ok (.dat (.tup ds)) S) Q) (I : GInv K B φ S H) (r : RepL K (Blk B φ S) H ds vs) (hp : H p = none) : Q (.ref p) (upd H p (.tup vs)) :=
  f φ _ _ (I.new hp) (Ext.new I hp) ⟨p, vs, rfl, .inl (.inl upd_same), (Ext.new I hp).repL I r⟩
theorem Fin.newL {c : Bool} {ds : List D} {vs : List V} {p : Addr} (f : Fin K W σ (RepV K) B φ S H (newL c ds S) Q) (I : GInv K B φ S H) (r : RepL K (Blk B φ S) H ds vs) (hp : H p = none) : Q (.ref p) (upd H p (.lst vs)) := by
  unfold PH.newL at f
  cases c with
  | false =>
    refine f φ _ _ (I.new hp) (Ext.new I hp) ⟨p, vs, rfl, I.nblk hp, upd_same, (Ext.new I hp).repL I r⟩
  | true =>
    have X := Ext.newC (o := .lst vs) (x := .lst ds) I hp
    refine f (φ ++ [p]) _ _ (I.newC hp fun _ => ⟨vs, upd_same, X.repL I r⟩) X ⟨p, rfl, ?_⟩
    rw [← I.len]
    exact getElem_app
end
end PH

namespace PH
open PySem PySem.Spec PyProof.Rows L2
instance instIntMulOk (a b : Int) : Decidable (IntMulOk a b) := by unfold IntMulOk; infer_instance
instance instCDiv (a b : Int) : Decidable (CDiv a b) := by unfold CDiv; infer_instance
instance instCPow (a b : Int) : Decidable (CPow a b) := by unfold CPow; infer_instance
def lk : Ev → Nat → Option Vl
  | [], _ => none
  | x :: _, 0 => x
  | _ :: r, n + 1 => lk r n
theorem lk_at : ∀ {ρ : Ev} {i : Nat} {d : Vl}, lk ρ i = some d → ρ[i]? = some (some d)
  | [], _, _, h => by cases h
  | x :: _, 0, d, h => by
    have e : x = some d := h
    rw [e]; rfl
  | _ :: r, n + 1, d, h => by
    have e := lk_at (ρ := r) (i := n) (d := d) h
    simpa using e
def mVar (i : Nat) : FE := fun ρ S => match lk ρ i with
  | some d => .ok d S
  | none => .stuck
def mC (d : D) : FE := fun _ S => .ok (.dat d) S
def mOp (f : Vl → Vl → Sto → Res Vl) (a b : FE) : FE := fun ρ S => (a ρ S).bind fun x S1 => (b ρ S1).bind fun y S2 => f x y S2
def m1 (f : Vl → Sto → Res Vl) (a : FE) : FE := fun ρ S => (a ρ S).bind fun x S1 => f x S1
def SimOp (K : PySem.W.Frag) (r : R2) (f : Vl → Vl → Sto → Res Vl) : Prop := ∀ {W : WX} {σ : L2.St} {B : Addr → Prop} {φ : List Addr} {S : Sto} {H : Hp} {x y : V} {d e : Vl} {Q : VK}, GInv K B φ S H → RepV K B φ S H d x → RepV K B φ S H e y → Fin K W σ (RepV K) B φ S H (f d e S) Q → r x y H Q
def Sim1 (K : PySem.W.Frag) (r : V → Hp → VK → Prop) (f : Vl → Sto → Res Vl) : Prop := ∀ {W : WX} {σ : L2.St} {B : Addr → Prop} {φ : List Addr} {S : Sto} {H : Hp} {x : V} {d : Vl} {Q : VK}, GInv K B φ S H → RepV K B φ S H d x → Fin K W σ (RepV K) B φ S H (f d S) Q → r x H Q
section
variable {X : Cx} {W : WX} {e a b c : Expr} {pos p : Pos} {x : Str}
theorem fv (i : Nat) (hN : X.N[i]? = some x := by rfl) (hv : Vis X.env.scope x := by first | exact Or.inl rfl | exact Or.inr (Or.inl rfl) | exact Or.inr (Or.inr rfl)) (hd : (x == ("__debug__" : Str)) = false := by decide)
    (hcd : (x == ("__classdict__" : Str)) = false := by decide) : PE X (.Name x pos) (rdE X.K W (mVar i)) := PE_imp (pe_var hN hv hd hcd) fun σ H Q h => by
  obtain ⟨B, φ, S, ρ, I, E, f⟩ := h
  unfold mVar at f
  cases q : lk ρ i with
  | none => rw [q] at f; exact f.elim
  | some d =>
    rw [q] at f
    obtain ⟨v, h1, h2⟩ := E.2 i d (lk_at q)
    exact ⟨v, h1, f.now I h2⟩
theorem fcst {v : V} {d : D} (h : PE X e (tC v)) (r : ∀ Bk H, Rep X.K Bk H d v) : PE X e (rdE X.K W (mC d)) := PE_imp h fun σ H Q h => by
  obtain ⟨B, φ, S, ρ, I, E, f⟩ := h
  exact Fin.now (v := v) f I (r _ _)
theorem f_int {n : Int} {t : TE} (h : PE X e (tC (.int n))) : PE X e (rdE X.K W (mC (.int n))) := fcst h fun _ _ => rfl
theorem f_str {z : Str} (h : PE X e (tC (.str z))) : PE X e (rdE X.K W (mC (.str z))) := fcst h fun _ _ => rfl
theorem f_bl {k : Bool} (h : PE X e (tC (.bl k))) : PE X e (rdE X.K W (mC (.bl k))) := fcst h fun _ _ => rfl
theorem f_non (h : PE X e (tC .non)) : PE X e (rdE X.K W (mC .non)) := fcst h fun _ _ => rfl
theorem sim_op {K : PySem.W.Frag} {r : R2} {f : Vl → Vl → Sto → Res Vl} {ma mb : FE} {σ : L2.St} {H : Hp} {Q : VK} (s : SimOp K r f) (h : rdE K W (mOp f ma mb) σ H Q) : tOp r (rdE K W ma) (rdE K W mb) σ H Q :=
  rd_bind (k := fun x ρ S => (mb ρ S).bind fun y S2 => f x y S2) h fun B φ S ρ d v H1 I E r1 f' => fin_bind I E f' fun φ' S' e w H2 I2 X2 E2 r2 f2 => s I2 (r1.ext X2 I) r2 f2
theorem f_op {op : Operator} {r : R2} {f : Vl → Vl → Sto → Res Vl} {ma mb : FE} (o : OpR X (binaryOp op) r) (s : SimOp X.K r f) (ha : PE X a (rdE X.K W ma)) (hb : PE X b (rdE X.K W mb)) : PE X (.BinOp a op b pos) (rdE X.K W (mOp f ma mb)) :=
  PE_imp (pe_op o ha hb) fun σ H Q h => sim_op s h
theorem f_cmp {op : CmpOp} {r : R2} {f : Vl → Vl → Sto → Res Vl} {ma mb : FE} (o : OpR X (compareOp op) r) (s : SimOp X.K r f) (ha : PE X a (rdE X.K W ma)) (hb : PE X b (rdE X.K W mb)) (hm : behindInMarks op b = false := by rfl) : PE X (.Compare a [op] [b] pos) (rdE X.K W (mOp f ma mb)) :=
  PE_imp (e_cmp o ha hb hm) fun σ H Q h => sim_op s h
theorem sim_1 {K : PySem.W.Frag} {r : V → Hp → VK → Prop} {f : Vl → Sto → Res Vl} {ma : FE} {σ : L2.St} {H : Hp} {Q : VK} (s : Sim1 K r f) (h : rdE K W (m1 f ma) σ H Q) : rdE K W ma σ H fun x H1 => r x H1 Q :=
  rd_bind (k := fun x ρ S => f x S) h fun B φ S ρ d v H1 I E r1 f' => s I r1 f'
def fSub : Vl → Vl → Sto → Res Vl
  | .dat (.int i), .dat (.int j), S => .ok (.dat (.int (i - j))) S
  | _, _, _ => .stuck
def fMul : Vl → Vl → Sto → Res Vl
  | .dat (.int i), .dat (.int j), S => if IntMulOk i j then .ok (.dat (.int (i * j))) S else .stuck
  | _, _, _ => .stuck
def fMod : Vl → Vl → Sto → Res Vl
  | .dat (.int i), .dat (.int j), S => if 0 < j then .ok (.dat (.int (i % j))) S else .stuck
  | _, _, _ => .stuck
def fFdiv : Vl → Vl → Sto → Res Vl
  | .dat (.int i), .dat (.int j), S => if CDiv i j then .ok (.dat (.int (i / j))) S else .stuck
  | _, _, _ => .stuck
def fPow : Vl → Vl → Sto → Res Vl
  | .dat (.int i), .dat (.int j), S => if CPow i j then .ok (.dat (.int (i ^ j.toNat))) S else .stuck
  | _, _, _ => .stuck
def fLt : Vl → Vl → Sto → Res Vl
  | .dat (.int i), .dat (.int j), S => .ok (.dat (.bl (decide (i < j)))) S
  | _, _, _ => .stuck
def fLe : Vl → Vl → Sto → Res Vl
  | .dat (.int i), .dat (.int j), S => .ok (.dat (.bl (decide (i ≤ j)))) S
  | _, _, _ => .stuck
def fGt : Vl → Vl → Sto → Res Vl
  | .dat (.int i), .dat (.int j), S => .ok (.dat (.bl (decide (j < i)))) S
  | _, _, _ => .stuck
def fGe : Vl → Vl → Sto → Res Vl
  | .dat (.int i), .dat (.int j), S => .ok (.dat (.bl (decide (j ≤ i)))) S
  | _, _, _ => .stuck
variable {K : PySem.W.Frag}
theorem s_sub : SimOp K rSubC fSub := fun {W σ B φ S H x y d e Q} I r1 r2 f => by
  unfold fSub at f
  split at f
  · cases r1; cases r2; exact Fin.now f I rfl
  · exact f.elim
theorem s_mul : SimOp K rMulC fMul := fun {W σ B φ S H x y d e Q} I r1 r2 f => by
  unfold fMul at f
  split at f
  · cases r1; cases r2
    split at f
    · rename_i h; exact ⟨h, Fin.now f I rfl⟩
    · exact f.elim
  · exact f.elim
theorem s_mod : SimOp K rModC fMod := fun {W σ B φ S H x y d e Q} I r1 r2 f => by
  unfold fMod at f
  split at f
  · cases r1; cases r2
    split at f
    · rename_i h; exact ⟨h, Fin.now f I rfl⟩
    · exact f.elim
  · exact f.elim
theorem s_fdiv : SimOp K rFdivC fFdiv := fun {W σ B φ S H x y d e Q} I r1 r2 f => by
  unfold fFdiv at f
  split at f
  · cases r1; cases r2
    split at f
    · rename_i h; exact ⟨h, Fin.now f I rfl⟩
    · exact f.elim
  · exact f.elim
theorem s_pow : SimOp K rPowC fPow := fun {W σ B φ S H x y d e Q} I r1 r2 f => by
  unfold fPow at f
  split at f
  · cases r1; cases r2
    split at f
    · rename_i h; exact ⟨h, Fin.now f I rfl⟩
    · exact f.elim
  · exact f.elim
theorem s_lt : SimOp K rLtC fLt := fun {W σ B φ S H x y d e Q} I r1 r2 f => by
  unfold fLt at f
  split at f
  · cases r1; cases r2; exact Fin.now f I rfl
  · exact f.elim
theorem s_le : SimOp K rLeC fLe := fun {W σ B φ S H x y d e Q} I r1 r2 f => by
  unfold fLe at f
  split at f
  · cases r1; cases r2; exact Fin.now f I rfl
  · exact f.elim
theorem s_gt : SimOp K rGtC fGt := fun {W σ B φ S H x y d e Q} I r1 r2 f => by
  unfold fGt at f
  split at f
  · cases r1; cases r2; exact Fin.now f I rfl
  · exact f.elim
theorem s_ge : SimOp K rGeC fGe := fun {W σ B φ S H x y d e Q} I r1 r2 f => by
  unfold fGe at f
  split at f
  · cases r1; cases r2; exact Fin.now f I rfl
  · exact f.elim
def fNeg : Vl → Sto → Res Vl
  | .dat (.int i), S => .ok (.dat (.int (-i))) S
  | _, _ => .stuck
theorem f_neg {ma : FE} (ha : PE X a (rdE X.K W ma)) : PE X (.UnaryOp .USub a pos) (rdE X.K W (m1 fNeg ma)) :=
  PE_imp (pe_un un_negC ha) fun σ H Q h => sim_1 (r := cNeg) (fun {W σ B φ S H x d Q} I r f => by
    unfold fNeg at f
    split at f
    · cases r; exact Fin.now f I rfl
    · exact f.elim) h
theorem RepL.len {Bk : Addr → Prop} {H : Hp} : ∀ {ds : List D} {vs : List V}, RepL K Bk H ds vs → vs.length = ds.length
  | [], vs, h => by cases h; rfl
  | d :: ds, vs, ⟨v, ws, e, _, h2⟩ => by subst e; simp [RepL.len h2]
theorem RepL.get {Bk : Addr → Prop} {H : Hp} : ∀ {ds : List D} {vs : List V} {i : Nat} {d : D}, RepL K Bk H ds vs → ds[i]? = some d → ∃ v, vs[i]? = some v ∧ Rep K Bk H d v
  | [], vs, i, d, h, q => by simp at q
  | d :: ds, vs, 0, d', ⟨v, ws, e, h1, h2⟩, q => by simp at q; subst q e; exact ⟨v, rfl, h1⟩
  | d :: ds, vs, i + 1, d', ⟨v, ws, e, h1, h2⟩, q => by
    subst e
    obtain ⟨v', h3, h4⟩ := RepL.get (i := i) (d := d') h2 (by simpa using q)
    exact ⟨v', by simpa using h3, h4⟩
theorem RepL.append {Bk : Addr → Prop} {H : Hp} : ∀ {ds es : List D} {vs ws : List V}, RepL K Bk H ds vs → RepL K Bk H es ws → RepL K Bk H (ds ++ es) (vs ++ ws)
  | [], es, vs, ws, h, h' => by cases h; exact h'
  | d :: ds, es, vs, ws, ⟨v, us, e, h1, h2⟩, h' => by subst e; exact ⟨v, us ++ ws, rfl, h1, RepL.append h2 h'⟩
theorem RepL.take {Bk : Addr → Prop} {H : Hp} : ∀ {ds : List D} {vs : List V} (n : Nat), RepL K Bk H ds vs → RepL K Bk H (ds.take n) (vs.take n)
  | ds, vs, 0, h => by simp [RepL]
  | [], vs, n + 1, h => by cases h; rfl
  | d :: ds, vs, n + 1, ⟨v, us, e, h1, h2⟩ => by subst e; exact ⟨v, us.take n, rfl, h1, RepL.take n h2⟩
theorem RepL.drop {Bk : Addr → Prop} {H : Hp} : ∀ {ds : List D} {vs : List V} (n : Nat), RepL K Bk H ds vs → RepL K Bk H (ds.drop n) (vs.drop n)
  | ds, vs, 0, h => h
  | [], vs, n + 1, h => by cases h; rfl
  | d :: ds, vs, n + 1, ⟨v, us, e, h1, h2⟩ => by subst e; exact RepL.drop n h2
theorem RepL.set {Bk : Addr → Prop} {H : Hp} {d : D} {v : V} (r : Rep K Bk H d v) : ∀ {ds : List D} {vs : List V} (n : Nat), RepL K Bk H ds vs → RepL K Bk H (ds.set n d) (vs.set n v)
  | [], vs, n, h => by cases h; rfl
  | _ :: ds, vs, 0, ⟨_, us, e, h1, h2⟩ => by subst e; exact ⟨v, us, rfl, r, h2⟩
  | d' :: ds, vs, n + 1, ⟨v', us, e, h1, h2⟩ => by subst e; exact ⟨v', us.set n v, rfl, h1, RepL.set r n h2⟩
theorem RepL.snoc {Bk : Addr → Prop} {H : Hp} {ds : List D} {vs : List V} {d : D} {v : V} (h : RepL K Bk H ds vs) (r : Rep K Bk H d v) : RepL K Bk H (ds ++ [d]) (vs ++ [v]) := h.append ⟨v, [], rfl, r, rfl⟩
theorem RepL.atI {Bk : Addr → Prop} {H : Hp} {ds : List D} {vs : List V} {i : Int} {d : D} (h : RepL K Bk H ds vs) (q : L2.atI ds i = some d) : ∃ v, L2.atI vs i = some v ∧ Rep K Bk H d v := by
  unfold L2.atI at q ⊢
  rw [h.len]
  cases e : ixN ds.length i with
  | none => rw [e] at q; cases q
  | some j =>
    rw [e] at q
    exact h.get (i := j) q
theorem RepVs.len {B : Addr → Prop} {φ : List Addr} {S : Sto} {H : Hp} : ∀ {ds : List Vl} {vs : List V}, RepVs K B φ S H ds vs → vs.length = ds.length
  | [], vs, h => by cases h; rfl
  | d :: ds, vs, ⟨v, ws, e, _, h2⟩ => by subst e; simp [RepVs.len h2]
/-- all are trees -/
def allD : List Vl → Option (List D)
  | [] => some []
  | .dat d :: r => match allD r with
    | some ds => some (d :: ds)
    | none => none
  | _ :: _ => none
theorem allD_ok {B : Addr → Prop} {φ : List Addr} {S : Sto} {H : Hp} : ∀ {xs : List Vl} {vs : List V} {ds : List D}, allD xs = some ds → RepVs K B φ S H xs vs → RepL K (Blk B φ S) H ds vs
  | [], vs, ds, h, r => by cases h; exact r
  | .dat d :: xs, vs, ds, h, ⟨v, ws, e, h1, h2⟩ => by
    unfold allD at h
    cases q : allD xs with
    | none => rw [q] at h; cases h
    | some es => rw [q] at h; cases h; exact ⟨v, ws, e, h1, allD_ok q h2⟩
  | .cel _ :: xs, vs, ds, h, _ => by cases h
  | .cels _ :: xs, vs, ds, h, _ => by cases h
  | .scr _ :: xs, vs, ds, h, _ => by cases h
/-- the list that a value is -/
def seqL (S : Sto) : Vl → Option (List D)
  | .dat (.lst xs) => some xs
  | .cel n => match S[n]? with
    | some (.lst xs) => some xs
    | _ => none
  | _ => none
theorem seqL_ok {B : Addr → Prop} {φ : List Addr} {S : Sto} {H : Hp} {d : Vl} {v : V} {xs : List D} (I : GInv K B φ S H) (h : seqL S d = some xs) (r : RepV K B φ S H d v) : ∃ a vs, v = .ref a ∧ H a = some (.lst vs) ∧ RepL K (Blk B φ S) H xs vs := by
  unfold seqL at h
  split at h
  · cases h
    obtain ⟨a, vs, e, _, h1, h2⟩ := r
    exact ⟨a, vs, e, h1, h2⟩
  · rename_i n
    obtain ⟨a, e, h1⟩ := r
    split at h
    · rename_i ys q
      cases h
      obtain ⟨vs, h2, h3⟩ := I.ok n _ a q h1
      exact ⟨a, vs, e, h2, h3⟩
    · cases h
  · cases h
end
end PH

namespace PH
open PySem PySem.Spec PyProof.Rows L2
section
variable {X : Cx} {W : WX} {e a b c : Expr} {es rest : List Expr} {pos p : Pos} {x : Str} {K : PySem.W.Frag} {ma mb mc : FE} {mt mu : FT} {mas : FA} {B : Addr → Prop} {φ : List Addr} {S : Sto} {H : Hp} {σ : L2.St} {Q : VK}
def fAdd (cl : Bool) (x y : Vl) (S : Sto) : Res Vl := match x, y with
  | .dat (.int i), .dat (.int j) => .ok (.dat (.int (i + j))) S
  | .dat (.str a), .dat (.str b) => if a.length + b.length ≤ sizeLine then .ok (.dat (.str (a ++ b))) S else .stuck
  | .dat (.tup xs), .dat (.tup ys) => if xs.length + ys.length ≤ sizeLine then .ok (.dat (.tup (xs ++ ys))) S else .stuck
  | x, y => match seqL S x, seqL S y with
    | some xs, some ys => if xs.length + ys.length ≤ sizeLine then newL cl (xs ++ ys) S else .stuck
    | _, _ => .stuck
theorem s_add {cl : Bool} : SimOp K (cAdd K) (fAdd cl) := fun {W σ B φ S H x y d e Q} I r1 r2 f => by
  unfold fAdd at f
  split at f
  · cases r1; cases r2; exact Fin.now f I rfl
  · cases r1; cases r2
    split at f
    · rename_i h; exact ⟨h, Fin.now f I rfl⟩
    · exact f.elim
  · rename_i xs ys
    obtain ⟨a, vs, rfl, h1, l1⟩ := r1
    obtain ⟨b, ws, rfl, h2, l2⟩ := r2
    split at f
    · rename_i h
      refine Or.inr ⟨a, b, vs, ws, rfl, rfl, h1, h2, by rw [l1.len, l2.len]; exact h, fun e => ?_, fun e1 e2 => ?_, fun _ _ p hp => Fin.newT f I (l1.append l2) hp⟩
      · have l := l1.append l2
        rw [e, List.nil_append] at l
        exact Fin.now f I ⟨b, ws, rfl, h2, l⟩
      · have l := l1.append l2
        rw [e2, List.append_nil] at l
        exact Fin.now f I ⟨a, vs, rfl, h1, l⟩
    · exact f.elim
  · split at f
    · rename_i xs ys q1 q2
      obtain ⟨a, vs, rfl, h1, l1⟩ := seqL_ok I q1 r1
      obtain ⟨b, ws, rfl, h2, l2⟩ := seqL_ok I q2 r2
      split at f
      · rename_i h
        exact Or.inl ⟨a, b, vs, ws, rfl, rfl, h1, h2, by rw [l1.len, l2.len]; exact h, fun p hp => Fin.newL f I (l1.append l2) hp⟩
      · exact f.elim
    · exact f.elim
def fIx (x y : Vl) (S : Sto) : Res Vl := match x, y with
  | .dat (.tup xs), .dat (.int i) => match atI xs i with
    | some d => .ok (.dat d) S
    | none => .stuck
  | .dat (.str z), .dat (.int i) => if z.length ≤ sizeLine then (match atI z.cps.toList i with
    | some c => .ok (.dat (.str ⟨#[c]⟩)) S
    | none => .stuck) else .stuck
  | .cels ns, .dat (.int i) => match atI ns i with
    | some n => .ok (.cel n) S
    | none => .stuck
  | x, .dat (.int i) => match seqL S x with
    | some xs => (match atI xs i with
      | some d => .ok (.dat d) S
      | none => .stuck)
    | none => .stuck
  | _, _ => .stuck
theorem atI_map {α β : Type} {f : α → β} {xs : List α} {i : Int} : atI (xs.map f) i = (atI xs i).map f := by
  unfold atI
  rw [List.length_map]
  cases ixN xs.length i with
  | none => rfl
  | some j => simp
theorem s_ix : SimOp K (cIx K) fIx := fun {W σ B φ S H x y d e Q} I r1 r2 f => by
  unfold fIx at f
  split at f
  · cases r2
    obtain ⟨a, vs, rfl, h1, l1⟩ := r1
    split at f
    · rename_i q
      obtain ⟨v, h2, h3⟩ := l1.atI q
      exact ⟨vs, v, .inr h1, h2, Fin.now f I h3⟩
    · exact f.elim
  · cases r1; cases r2
    split at f
    · rename_i h
      split at f
      · rename_i c q
        exact ⟨h, c, q, Fin.now f I rfl⟩
      · exact f.elim
    · exact f.elim
  · rename_i ns i
    cases r2
    obtain ⟨a, as, rfl, h1, h2, h3⟩ := r1
    split at f
    · rename_i n q
      have q2 : atI (ns.map fun n => φ[n]?) i = some φ[n]? := by rw [atI_map, q]; rfl
      rw [h3, atI_map] at q2
      cases q3 : atI as i with
      | none => rw [q3] at q2; cases q2
      | some b =>
        rw [q3] at q2
        refine ⟨as.map V.ref, .ref b, .inl (SqL.of h2), by rw [atI_map, q3]; rfl, Fin.now f I ⟨b, rfl, ?_⟩⟩
        simpa using q2.symm
    · exact f.elim
  · cases r2
    split at f
    · rename_i xs q1
      obtain ⟨a, vs, rfl, h1, l1⟩ := seqL_ok I q1 r1
      split at f
      · rename_i q
        obtain ⟨v, h2, h3⟩ := l1.atI q
        exact ⟨vs, v, .inl (SqL.of h1), h2, Fin.now f I h3⟩
      · exact f.elim
    · exact f.elim
  · exact f.elim
theorem f_ix (ha : PE X a (rdE X.K W ma)) (hb : PE X b (rdE X.K W mb)) (hs : PlainIx b := by intro _ _; rfl) : PE X (.Subscript a b pos) (rdE X.K W (mOp fIx ma mb)) := PE_imp (e_ix ha hb hs) fun σ H Q h => sim_op s_ix h
mutual
def D.py : D → Option PyData
  | .non => some .none
  | .bl b => some (.bool b)
  | .int i => some (.int i)
  | .str x => some (.str x)
  | .lst xs => match D.pys xs with
    | some ys => some (.list ys)
    | none => none
  | .tup xs => match D.pys xs with
    | some ys => some (.tuple ys)
    | none => none
  | .ins _ _ _ => none
  | .dct => none
def D.pys : List D → Option (List PyData)
  | [] => some []
  | d :: ds => match D.py d, D.pys ds with
    | some x, some xs => some (x :: xs)
    | _, _ => none
end
mutual
theorem Rep.dp {Bk : Addr → Prop} {H : Hp} : ∀ (d : D) (v : V) (p : PyData), d.py = some p → Rep K Bk H d v → Dp K H v p
  | .non, v, p, h, r => by cases h; cases r; exact .non
  | .bl b, v, p, h, r => by cases h; cases r; exact .bl b
  | .int b, v, p, h, r => by cases h; cases r; exact .int b
  | .str b, v, p, h, r => by cases h; cases r; exact .str b
  | .lst xs, v, p, h, ⟨a, vs, e, _, h1, h2⟩ => by
    subst e
    unfold D.py at h
    cases q : D.pys xs with
    | none => rw [q] at h; cases h
    | some ys => rw [q] at h; cases h; exact .lst (SqL.of h1) (RepL.dp xs vs ys q h2)
  | .tup xs, v, p, h, ⟨a, vs, e, h1, h2⟩ => by
    subst e
    unfold D.py at h
    cases q : D.pys xs with
    | none => rw [q] at h; cases h
    | some ys => rw [q] at h; cases h; exact .tup h1 (RepL.dp xs vs ys q h2)
  | .ins _ _ _, v, p, h, r => by cases h
  | .dct, v, p, h, r => by cases h
theorem RepL.dp {Bk : Addr → Prop} {H : Hp} : ∀ (ds : List D) (vs : List V) (ps : List PyData), D.pys ds = some ps → RepL K Bk H ds vs → DpAll K H vs ps
  | [], vs, ps, h, r => by cases h; cases r; exact .nil
  | d :: ds, vs, ps, h, ⟨v, ws, e, h1, h2⟩ => by
    subst e
    unfold D.pys at h
    cases q1 : D.py d with
    | none => rw [q1] at h; cases h
    | some x =>
      cases q2 : D.pys ds with
      | none => rw [q1, q2] at h; cases h
      | some xs => rw [q1, q2] at h; cases h; exact .cons (Rep.dp d v x q1 h1) (RepL.dp ds ws xs q2 h2)
end
/-- a value as data -/
def pyOf (S : Sto) : Vl → Option PyData
  | .dat d => d.py
  | .cel n => match S[n]? with
    | some (.lst xs) => D.py (.lst xs)
    | _ => none
  | _ => none
theorem pyOf_ok {d : Vl} {v : V} {p : PyData} (I : GInv K B φ S H) (h : pyOf S d = some p) (r : RepV K B φ S H d v) : Dp K H v p := by
  unfold pyOf at h
  split at h
  · exact Rep.dp _ _ _ h r
  · rename_i n
    obtain ⟨a, rfl, h1⟩ := r
    split at h
    · rename_i xs q
      obtain ⟨vs, h2, h3⟩ := I.ok n _ a q h1
      unfold D.py at h
      cases q : D.pys xs with
      | none => rw [q] at h; cases h
      | some ys => rw [q] at h; cases h; exact .lst (SqL.of h2) (RepL.dp xs vs ys q h3)
    · cases h
  · cases h
def shp (p q : PyData) : Bool := SeqAt.shaped p && SeqAt.shaped q
def fEq (x y : Vl) (S : Sto) : Res Vl := match x, y with
  | .dat (.int i), .dat (.int j) => .ok (.dat (.bl (decide (i = j)))) S
  | .dat (.str i), .dat (.str j) => .ok (.dat (.bl (decide (i = j)))) S
  | x, y => match pyOf S x, pyOf S y with
    | some p, some q => if shp p q = true then .ok (.dat (.bl (PyData.eqv p q))) S else .stuck
    | _, _ => .stuck
def fNe (x y : Vl) (S : Sto) : Res Vl := match x, y with
  | .dat (.int i), .dat (.int j) => .ok (.dat (.bl (!decide (i = j)))) S
  | .dat (.str i), .dat (.str j) => .ok (.dat (.bl (!decide (i = j)))) S
  | x, y => match pyOf S x, pyOf S y with
    | some p, some q => if shp p q = true then .ok (.dat (.bl (!PyData.eqv p q))) S else .stuck
    | _, _ => .stuck
theorem cEq_gen {x y : V} (h : rEqD K x y H Q) : cEq K x y H Q := by
  unfold cEq
  split
  · obtain ⟨d, e, h1, h2, _, _, q⟩ := h
    cases h1; cases h2
    exact q
  · obtain ⟨d, e, h1, h2, _, _, q⟩ := h
    cases h1; cases h2
    exact q
  · exact h
theorem cNe_gen {x y : V} (h : rNeD K x y H Q) : cNe K x y H Q := by
  unfold cNe
  split
  · obtain ⟨d, e, h1, h2, _, _, q⟩ := h
    cases h1; cases h2
    exact q
  · obtain ⟨d, e, h1, h2, _, _, q⟩ := h
    cases h1; cases h2
    exact q
  · exact h
theorem s_eq : SimOp K (cEq K) fEq := fun {W σ B φ S H x y d e Q} I r1 r2 f => by
  unfold fEq at f
  split at f
  · cases r1; cases r2; exact Fin.now f I rfl
  · cases r1; cases r2; exact Fin.now f I rfl
  · split at f
    · rename_i p q h1 h2
      split at f
      · rename_i h
        obtain ⟨h3, h4⟩ := He.ba h
        exact cEq_gen ⟨p, q, pyOf_ok I h1 r1, pyOf_ok I h2 r2, h3, h4, Fin.now f I rfl⟩
      · exact f.elim
    · exact f.elim
theorem s_ne : SimOp K (cNe K) fNe := fun {W σ B φ S H x y d e Q} I r1 r2 f => by
  unfold fNe at f
  split at f
  · cases r1; cases r2; exact Fin.now f I rfl
  · cases r1; cases r2; exact Fin.now f I rfl
  · split at f
    · rename_i p q h1 h2
      split at f
      · rename_i h
        obtain ⟨h3, h4⟩ := He.ba h
        exact cNe_gen ⟨p, q, pyOf_ok I h1 r1, pyOf_ok I h2 r2, h3, h4, Fin.now f I rfl⟩
      · exact f.elim
    · exact f.elim
def fIn (neg : Bool) (x y : Vl) (S : Sto) : Res Vl := match pyOf S x, pyOf S y with
  | some p, some (.list qs) => if shp p (.list qs) = true then .ok (.dat (.bl (if neg then !(qs.any fun z => PyData.eqv z p) else (qs.any fun z => PyData.eqv z p)))) S else .stuck
  | _, _ => .stuck
theorem s_in : SimOp K (rInD K) (fIn false) := fun {W σ B φ S H x y d e Q} I r1 r2 f => by
  unfold fIn at f
  split at f
  · rename_i p qs h1 h2
    split at f
    · rename_i h
      obtain ⟨h3, h4⟩ := He.ba h
      exact ⟨p, qs, pyOf_ok I h1 r1, pyOf_ok I h2 r2, h3, h4, Fin.now f I rfl⟩
    · exact f.elim
  · exact f.elim
theorem s_notin : SimOp K (rNotInD K) (fIn true) := fun {W σ B φ S H x y d e Q} I r1 r2 f => by
  unfold fIn at f
  split at f
  · rename_i p qs h1 h2
    split at f
    · rename_i h
      obtain ⟨h3, h4⟩ := He.ba h
      exact ⟨p, qs, pyOf_ok I h1 r1, pyOf_ok I h2 r2, h3, h4, Fin.now f I rfl⟩
    · exact f.elim
  · exact f.elim
def isNon : Vl → Bool
  | .dat .non => true
  | _ => false
def fIsN (neg : Bool) (x y : Vl) (S : Sto) : Res Vl := match y with
  | .dat .non => .ok (.dat (.bl (if neg then !(isNon x) else isNon x))) S
  | _ => .stuck
theorem isNon_ok {d : Vl} {v : V} (r : RepV K B φ S H d v) : decide (v = .non) = isNon d := by
  cases d with
  | dat d =>
    cases d with
    | non => cases r; rfl
    | bl b => cases r; rfl
    | int b => cases r; rfl
    | str b => cases r; rfl
    | lst xs => obtain ⟨a, vs, rfl, _⟩ := r; rfl
    | tup xs => obtain ⟨a, vs, rfl, _⟩ := r; rfl
    | ins C ns xs => obtain ⟨a, dx, vs, rfl, _⟩ := r; rfl
    | dct => obtain ⟨a, rfl, _⟩ := r; rfl
  | cel n => obtain ⟨a, rfl, _⟩ := r; rfl
  | cels ns => obtain ⟨a, as, rfl, _⟩ := r; rfl
  | scr ns => obtain ⟨a, rfl, _⟩ := r; rfl
theorem s_isN : SimOp K rIsNC (fIsN false) := fun {W σ B φ S H x y d e Q} I r1 r2 f => by
  unfold fIsN at f
  split at f
  · cases r2
    show Q (.bl (decide (x = .non))) H
    rw [isNon_ok r1]
    exact Fin.now f I rfl
  · exact f.elim
theorem s_notN : SimOp K rNotNC (fIsN true) := fun {W σ B φ S H x y d e Q} I r1 r2 f => by
  unfold fIsN at f
  split at f
  · cases r2
    show Q (.bl (!decide (x = .non))) H
    rw [isNon_ok r1]
    exact Fin.now f I rfl
  · exact f.elim
def unB : Vl → Sto → Res Bool
  | .dat (.bl b), S => .ok b S
  | _, _ => .stuck
def mB (a : FE) : FT := fun ρ S => (a ρ S).bind unB
theorem sim_B {Q : Bool → Hp → Prop} (h : rdT K W (mB ma) σ H Q) : rdE K W ma σ H fun x H' => (match x with | .bl k => Q k H' | _ => False) :=
  rd_bind (k := fun x _ S => unB x S) h fun B φ S ρ d v H1 I E r f => by
    unfold unB at f
    split at f
    · cases r; exact Fin.now f I rfl
    · exact f.elim
theorem ft_cmp {op : CmpOp} {r : R2} {f : Vl → Vl → Sto → Res Vl} (o : OpR X (compareOp op) r) (s : SimOp X.K r f) (ha : PE X a (rdE X.K W ma)) (hb : PE X b (rdE X.K W mb)) (hm : behindInMarks op b = false := by rfl) : PT X (.Compare a [op] [b] pos) (rdT X.K W (mB (mOp f ma mb))) :=
  PT_imp (t_cmp o ha hb hm) fun σ H Q h => sim_op s (sim_B h)
def tru (x : Vl) (S : Sto) : Res Bool := match x with
  | .dat .non => .ok false S
  | .dat (.bl b) => .ok b S
  | .dat (.int i) => .ok (i != 0) S
  | .dat (.str y) => if y.length ≤ sizeLine then .ok ((y.length : Int) != 0) S else .stuck
  | .dat (.tup xs) => .ok (!xs.isEmpty) S
  | x => match seqL S x with
    | some xs => .ok (!xs.isEmpty) S
    | none => .stuck
theorem RepL.emp {Bk : Addr → Prop} {ds : List D} {vs : List V} (h : RepL K Bk H ds vs) : (!ds.isEmpty) = !vs.isEmpty := by
  have := h.len
  cases ds <;> cases vs <;> simp at this ⊢
theorem tru_sim {d : Vl} {v : V} {Q : Bool → Hp → Prop} (I : GInv K B φ S H) (r : RepV K B φ S H d v) (f : Fin K W σ RB B φ S H (tru d S) Q) : cT K v H Q := by
  unfold tru at f
  split at f
  · cases r; exact Fin.now f I rfl
  · cases r; exact Fin.now f I rfl
  · cases r; exact Fin.now f I rfl
  · cases r
    split at f
    · rename_i h; exact ⟨_, ⟨h, rfl⟩, Fin.now f I rfl⟩
    · exact f.elim
  · obtain ⟨a, vs, rfl, h1, l1⟩ := r
    exact ⟨_, .inr (.inl ⟨vs, h1, l1.emp⟩), Fin.now f I rfl⟩
  · split at f
    · rename_i xs q1
      obtain ⟨a, vs, rfl, h1, l1⟩ := seqL_ok I q1 r
      exact ⟨_, .inl ⟨vs, SqL.of h1, l1.emp⟩, Fin.now f I rfl⟩
    · exact f.elim
def mTest (a : FE) : FT := fun ρ S => (a ρ S).bind tru
theorem ft_val (ha : PE X a (rdE X.K W ma)) (he : ∀ whole, isTrue a X.env whole = (do let v ← whole; standAt a.pos; holding [v] (truthy v)) := by intro _; rfl) : PT X a (rdT X.K W (mTest ma)) :=
  PT_imp (t_val ha he) fun σ H Q h => rd_bind (k := fun x _ S => tru x S) h fun B φ S ρ d v H1 I E r f => tru_sim I r f
def mAnd (a b : FT) : FT := fun ρ S => (a ρ S).bind fun c S1 => if c = true then b ρ S1 else .ok false S1
def mOr (a b : FT) : FT := fun ρ S => (a ρ S).bind fun c S1 => if c = true then .ok true S1 else b ρ S1
def mNot (a : FT) : FT := fun ρ S => (a ρ S).bind fun c S1 => .ok (!c) S1
theorem PW_imp {e : Expr} {t u : TT} (h : PW X e t) (i : ∀ σ H Q, u σ H Q → t σ H Q) : PW X e u := ⟨fun whole pins s σ H Q I q => h.run whole pins s σ H Q I (i σ H Q q)⟩
theorem sim_and {Q : Bool → Hp → Prop} (h : rdT K W (mAnd mt mu) σ H Q) : tAnd (rdT K W mt) (rdT K W mu) σ H Q :=
  rd_bind (k := fun c ρ S => if c = true then mu ρ S else .ok false S) h fun B φ S ρ d v H1 I E r f => by
    have r : v = d := r
    subst r
    cases v with
    | true => exact ⟨B, φ, S, ρ, I, E, f⟩
    | false => exact Fin.now f I rfl
theorem sim_or {Q : Bool → Hp → Prop} (h : rdT K W (mOr mt mu) σ H Q) : tOr (rdT K W mt) (rdT K W mu) σ H Q :=
  rd_bind (k := fun c ρ S => if c = true then .ok true S else mu ρ S) h fun B φ S ρ d v H1 I E r f => by
    have r : v = d := r
    subst r
    cases v with
    | false => exact ⟨B, φ, S, ρ, I, E, f⟩
    | true => exact Fin.now f I rfl
theorem fw_and (ha : PT X a (rdT X.K W mt)) (hb : PW X (.BoolOp .And (b :: rest) pos) (rdT X.K W mu)) : PW X (.BoolOp .And (a :: b :: rest) pos) (rdT X.K W (mAnd mt mu)) := PW_imp (pw_and ha hb) fun σ H Q h => sim_and h
theorem fw_or (ha : PT X a (rdT X.K W mt)) (hb : PW X (.BoolOp .Or (b :: rest) pos) (rdT X.K W mu)) : PW X (.BoolOp .Or (a :: b :: rest) pos) (rdT X.K W (mOr mt mu)) := PW_imp (pw_or ha hb) fun σ H Q h => sim_or h
theorem ft_not (ha : PT X a (rdT X.K W mt)) : PT X (.UnaryOp .Not a pos) (rdT X.K W (mNot mt)) := PT_imp (pt_not ha) fun σ H Q h =>
  rd_bind (k := fun c _ S => .ok (!c) S) h fun B φ S ρ d v H1 I E r f => by cases r; exact Fin.now f I rfl
def mAndV (a b : FE) : FE := fun ρ S => (a ρ S).bind fun x S1 => match x with
  | .dat (.bl c) => if c = true then b ρ S1 else .ok (.dat (.bl false)) S1
  | _ => .stuck
def mOrV (a b : FE) : FE := fun ρ S => (a ρ S).bind fun x S1 => match x with
  | .dat (.bl c) => if c = true then .ok (.dat (.bl true)) S1 else b ρ S1
  | _ => .stuck
def mNotV (a : FE) : FE := fun ρ S => (a ρ S).bind fun x S1 => (tru x S1).bind fun k S2 => .ok (.dat (.bl (!k))) S2
theorem fe_and (ha : PE X a (rdE X.K W ma)) (hb : PE X (.BoolOp .And (b :: rest) pos) (rdE X.K W mb)) : PE X (.BoolOp .And (a :: b :: rest) pos) (rdE X.K W (mAndV ma mb)) := PE_imp (e_and ha hb) fun σ H Q h =>
  rd_bind (k := fun x ρ S1 => match x with | .dat (.bl c) => if c = true then mb ρ S1 else .ok (.dat (.bl false)) S1 | _ => .stuck) h fun B φ S ρ d v H1 I E r f => by
    split at f
    · rename_i c
      cases r
      cases c with
      | true => exact ⟨B, φ, S, ρ, I, E, f⟩
      | false => exact Fin.now f I rfl
    · exact f.elim
theorem fe_or (ha : PE X a (rdE X.K W ma)) (hb : PE X (.BoolOp .Or (b :: rest) pos) (rdE X.K W mb)) : PE X (.BoolOp .Or (a :: b :: rest) pos) (rdE X.K W (mOrV ma mb)) := PE_imp (e_or ha hb) fun σ H Q h =>
  rd_bind (k := fun x ρ S1 => match x with | .dat (.bl c) => if c = true then .ok (.dat (.bl true)) S1 else mb ρ S1 | _ => .stuck) h fun B φ S ρ d v H1 I E r f => by
    split at f
    · rename_i c
      cases r
      cases c with
      | false => exact ⟨B, φ, S, ρ, I, E, f⟩
      | true => exact Fin.now f I rfl
    · exact f.elim
def mOrT (a b : FE) : FE := fun ρ S => (a ρ S).bind fun x S1 => (tru x S1).bind fun k S2 => if k = true then .ok x S2 else b ρ S2
theorem tru_same {x : Vl} {k : Bool} {S' : Sto} (h : tru x S = .ok k S') : S' = S := by
  unfold tru at h
  split at h
  · cases h; rfl
  · cases h; rfl
  · cases h; rfl
  · split at h <;> cases h; rfl
  · cases h; rfl
  · split at h <;> cases h; rfl
theorem tru_V {d : Vl} {v : V} {k : Bool} (I : GInv K B φ S H) (r : RepV K B φ S H d v) (h : tru d S = .ok k S) : TruV K v H k := by
  obtain ⟨k', h1, h2⟩ := cT_to v H (fun b _ => b = k) (tru_sim (W := wNo) (σ := []) I r (by
    rw [h]
    exact fun φ' v' H' _ _ r => r))
  rw [← h2]; exact h1
theorem fe_orT (ha : PE X a (rdE X.K W ma)) (hb : PE X (.BoolOp .Or (b :: rest) pos) (rdE X.K W mb)) : PE X (.BoolOp .Or (a :: b :: rest) pos) (rdE X.K W (mOrT ma mb)) := PE_imp (pe_orT ha hb) fun σ H Q h =>
  rd_bind (k := fun x ρ S1 => (tru x S1).bind fun k S2 => if k = true then .ok x S2 else mb ρ S2) h fun B φ S ρ d v H1 I E r f => by
    cases q : tru d S with
    | stuck => rw [q] at f; exact f.elim
    | err e S' =>
      exfalso
      unfold tru at q
      split at q <;> first | cases q | (split at q <;> cases q)
    | ok k S' =>
      have e := tru_same q
      subst e
      rw [q] at f
      refine ⟨k, tru_V I r q, ?_⟩
      cases k with
      | true => exact Fin.now f I r
      | false => exact ⟨B, φ, S', ρ, I, E, f⟩
theorem fe_not (ha : PE X a (rdE X.K W ma)) : PE X (.UnaryOp .Not a pos) (rdE X.K W (mNotV ma)) := PE_imp (e_not ha) fun σ H Q h =>
  rd_bind (k := fun x _ S1 => (tru x S1).bind fun k S2 => Res.ok (Vl.dat (D.bl (!k))) S2) h fun B φ S ρ d v H1 I E r f => by
    cases q : tru d S with
    | stuck => rw [q] at f; exact f.elim
    | err e S' =>
      exfalso
      unfold tru at q
      split at q <;> first | cases q | (split at q <;> cases q)
    | ok k S' =>
      have e := tru_same q
      subst e
      rw [q] at f
      refine tru_sim (W := W) (σ := σ) I r ?_
      rw [q]
      intro φ' v' H' I' X' r'
      cases r'
      exact Fin.now (Fin.ext f X') I' rfl
def mChain (f g : Vl → Vl → Sto → Res Vl) (a b c : FE) : FE := fun ρ S => (a ρ S).bind fun x S1 => (b ρ S1).bind fun y S2 => (f x y S2).bind fun z S3 => match z with
  | .dat (.bl k) => if k = true then (c ρ S3).bind fun w S4 => g y w S4 else .ok (.dat (.bl false)) S3
  | _ => .stuck
theorem sim_chain {r r' : R2} {f g : Vl → Vl → Sto → Res Vl} (s : SimOp K r f) (s' : SimOp K r' g) (h : rdE K W (mChain f g ma mb mc) σ H Q) : cChainG r r' (rdE K W ma) (rdE K W mb) (rdE K W mc) σ H Q := by
  refine rd_bind (k := fun x ρ S1 => (mb ρ S1).bind fun y S2 => (f x y S2).bind fun z S3 => match z with | .dat (.bl k) => if k = true then (mc ρ S3).bind fun w S4 => g y w S4 else .ok (.dat (.bl false)) S3 | _ => .stuck) h fun B φ S ρ d v H1 I E r1 f' => fin_bind I E f' fun φ' S' e w H2 I2 X2 E2 r2 f2 => ?_
  have r1' := r1.ext X2 I
  refine s (W := W) (σ := σ) I2 r1' r2 ?_
  cases q : f d e S' with
  | stuck => rw [q] at f2; exact f2
  | err x S3 => rw [q] at f2; exact f2
  | ok z S3 =>
    rw [q] at f2
    intro φ3 v3 H3 I3 X3 r3
    have f3 := Fin.ext f2 X3
    dsimp only [Res.bind] at f3
    split at f3
    · rename_i k
      cases r3
      cases k with
      | false => exact Fin.now f3 I3 rfl
      | true => exact fin_bind I3 (E2.ext X3 I2) f3 fun φ4 S4 d4 v4 H4 I4 X4 E4 r4 f4 => s' I4 ((r2.ext X3 I2).ext X4 I3) r4 f4
    · exact f3.elim
theorem f_chain {op op' : CmpOp} {r r' : R2} {f g : Vl → Vl → Sto → Res Vl} (ho : OpR X (compareOp op) r) (s : SimOp X.K r f) (ho' : OpR X (compareOp op') r') (s' : SimOp X.K r' g) (ha : PE X a (rdE X.K W ma)) (hb : PE X b (rdE X.K W mb)) (hc : PE X c (rdE X.K W mc))
    (hm : lastMarks [op, op'] [b, c] = false := by with_unfolding_all rfl) : PE X (.Compare a [op, op'] [b, c] pos) (rdE X.K W (mChain f g ma mb mc)) := PE_imp (e_chain ho ho' ha hb hc hm) fun σ H Q h => sim_chain s s' h
theorem ft_chain {op op' : CmpOp} {r r' : R2} {f g : Vl → Vl → Sto → Res Vl} (ho : OpR X (compareOp op) r) (s : SimOp X.K r f) (ho' : OpR X (compareOp op') r') (s' : SimOp X.K r' g) (ha : PE X a (rdE X.K W ma)) (hb : PE X b (rdE X.K W mb)) (hc : PE X c (rdE X.K W mc))
    (hm : lastMarks [op, op'] [b, c] = false := by with_unfolding_all rfl) : PT X (.Compare a [op, op'] [b, c] pos) (rdT X.K W (mB (mChain f g ma mb mc))) := PT_imp (t_chain ho ho' ha hb hc hm) fun σ H Q h => sim_chain s s' (sim_B h)
def mIf (t : FT) (a b : FE) : FE := fun ρ S => (t ρ S).bind fun c S1 => if c = true then a ρ S1 else b ρ S1
theorem f_if (ht : PT X c (rdT X.K W mt)) (ha : PE X a (rdE X.K W ma)) (hb : PE X b (rdE X.K W mb)) : PE X (.IfExp c a b pos) (rdE X.K W (mIf mt ma mb)) := PE_imp (pe_ifExp ht ha hb) fun σ H Q h =>
  rd_bind (k := fun c ρ S1 => if c = true then ma ρ S1 else mb ρ S1) h fun B φ S ρ d v H1 I E r f => by
    have r : v = d := r
    subst r
    cases v with
    | true => exact ⟨B, φ, S, ρ, I, E, f⟩
    | false => exact ⟨B, φ, S, ρ, I, E, f⟩
def mNil : FA := fun _ S => .ok [] S
def mCons (a : FE) (r : FA) : FA := fun ρ S => (a ρ S).bind fun x S1 => (r ρ S1).bind fun xs S2 => .ok (x :: xs) S2
theorem PA_imp {t u : TA} (h : PA X es t) (i : ∀ σ H Q, u σ H Q → t σ H Q) : PA X es u := ⟨fun pos pins s σ H Q I q => h.run pos pins s σ H Q I (i σ H Q q)⟩
theorem fa_nil : PA X [] (rdA X.K W mNil) := PA_imp pa_nil fun σ H Q h => by
  obtain ⟨B, φ, S, ρ, I, E, f⟩ := h
  exact Fin.now (v := []) f I rfl
theorem fa_cons (ha : PE X a (rdE X.K W ma)) (hr : PA X es (rdA X.K W mas)) (hs : starEach (a :: es) X.env = (false, eval a X.env) :: starEach es X.env := by rfl) : PA X (a :: es) (rdA X.K W (mCons ma mas)) := PA_imp (pa_cons ha hr hs) fun σ H Q h =>
  rd_bind (k := fun x ρ S1 => (mas ρ S1).bind fun xs S2 => .ok (x :: xs) S2) h fun B φ S ρ d v H1 I E r f => fin_bind I E f fun φ' S' ds vs H2 I2 X2 E2 r2 f2 => Fin.now f2 I2 ⟨v, vs, rfl, r.ext X2 I, r2⟩
def mLst (cl : Bool) (r : FA) : FE := fun ρ S => (r ρ S).bind fun xs S1 => match allD xs with
  | some ds => if ds.length ≤ sizeLine then newL cl ds S1 else .stuck
  | none => .stuck
def mTup (r : FA) : FE := fun ρ S => (r ρ S).bind fun xs S1 => match allD xs with
  | some ds => if ds.length ≤ sizeLine then .ok (.dat (.tup ds)) S1 else .stuck
  | none => .stuck
theorem f_lst {cl : Bool} (h : PA X es (rdA X.K W mas)) : PE X (.List es pos) (rdE X.K W (mLst cl mas)) := PE_imp (pe_lst h) fun σ H Q h =>
  rd_bind (k := fun xs ρ S1 => match allD xs with | some ds => if ds.length ≤ sizeLine then newL cl ds S1 else .stuck | none => .stuck) h fun B φ S ρ d v H1 I E r f => by
    split at f
    · rename_i ds q
      have l := allD_ok q r
      split at f
      · rename_i hl
        exact ⟨by rw [l.len]; exact hl, fun p hp => Fin.newL f I l hp⟩
      · exact f.elim
    · exact f.elim
theorem f_tup (h : PA X es (rdA X.K W mas)) : PE X (.Tuple es x1 pos) (rdE X.K W (mTup mas)) := PE_imp (pe_tup h) fun σ H Q h =>
  rd_bind (k := fun xs ρ S1 => match allD xs with | some ds => if ds.length ≤ sizeLine then Res.ok (Vl.dat (D.tup ds)) S1 else .stuck | none => .stuck) h fun B φ S ρ d v H1 I E r f => by
    split at f
    · rename_i ds q
      have l := allD_ok q r
      split at f
      · rename_i hl
        exact ⟨by rw [l.len]; exact hl, fun p hp => Fin.newT f I l hp⟩
      · exact f.elim
    · exact f.elim
end
end PH

namespace PH
open PySem PySem.Spec PyProof.Rows L2
section
variable {X : Cx} {W : WX} {e a b c : Expr} {es rest : List Expr} {pos p q p2 : Pos} {x y z : Str} {K : PySem.W.Frag} {ma mb mc : FE} {mt mu : FT} {mas : FA} {B : Addr → Prop} {φ : List Addr} {S : Sto} {H : Hp} {σ : L2.St} {Q : VK}
theorem sim_cb {r : V → Hp → VK → Prop} {f : Vl → Sto → Res Vl} (s : Sim1 K r f) (h : rdE K W (m1 f ma) σ H Q) : tCB (c1 r) (tCons (rdE K W ma) tNil) σ H Q := sim_1 s h
def fLen (x : Vl) (S : Sto) : Res Vl := match x with
  | .dat (.tup xs) => .ok (.dat (.int xs.length)) S
  | .dat (.str z) => if z.length ≤ sizeLine then .ok (.dat (.int z.length)) S else .stuck
  | .cels ns => .ok (.dat (.int ns.length)) S
  | x => match seqL S x with
    | some xs => .ok (.dat (.int xs.length)) S
    | none => .stuck
theorem s_len : Sim1 K (cLen K) fLen := fun {W σ B φ S H x d Q} I r f => by
  unfold fLen at f
  split at f
  · obtain ⟨a, vs, rfl, h1, l1⟩ := r
    refine ⟨vs, .inr h1, ?_⟩
    rw [l1.len]
    exact Fin.now f I rfl
  · cases r
    split at f
    · rename_i h; exact ⟨h, Fin.now f I rfl⟩
    · exact f.elim
  · rename_i ns
    obtain ⟨a, as, rfl, h1, h2, h3⟩ := r
    refine ⟨as.map V.ref, .inl (SqL.of h2), ?_⟩
    have e : as.length = ns.length := by
      have := congrArg List.length h3
      simpa using this.symm
    rw [List.length_map, e]
    exact Fin.now f I rfl
  · split at f
    · rename_i xs q1
      obtain ⟨a, vs, rfl, h1, l1⟩ := seqL_ok I q1 r
      refine ⟨vs, .inl (SqL.of h1), ?_⟩
      rw [l1.len]
      exact Fin.now f I rfl
    · exact f.elim
theorem f_len (hm : X.mg "len" = none) (ha : PE X a (rdE X.K W ma)) (hg : Gl X "len" := by rfl) (hs : starEach [a] X.env = [(false, eval a X.env)] := by rfl) : PE X (.Call (.Name "len" p) [a] [] pos) (rdE X.K W (m1 fLen ma)) := PE_imp (e_len hm ha hg hs) fun σ H Q h => sim_cb s_len h
def fInt (x : Vl) (S : Sto) : Res Vl := match x with
  | .dat (.int i) => .ok (.dat (.int i)) S
  | .dat (.bl k) => .ok (.dat (.int (if k then 1 else 0))) S
  | _ => .stuck
theorem s_int : Sim1 K cInt fInt := fun {W σ B φ S H x d Q} I r f => by
  unfold fInt at f
  split at f
  · cases r; exact Fin.now f I rfl
  · cases r; exact Fin.now f I rfl
  · exact f.elim
theorem f_intc (hm : X.mg "int" = none) (ha : PE X a (rdE X.K W ma)) (hg : Gl X "int" := by rfl) (hs : starEach [a] X.env = [(false, eval a X.env)] := by rfl) : PE X (.Call (.Name "int" p) [a] [] pos) (rdE X.K W (m1 fInt ma)) := PE_imp (e_int hm ha hg hs) fun σ H Q h => sim_cb s_int h
def allBl : List D → Option (List Bool)
  | [] => some []
  | .bl b :: r => match allBl r with
    | some bs => some (b :: bs)
    | none => none
  | _ :: _ => none
theorem allBl_ok {Bk : Addr → Prop} : ∀ {ds : List D} {bs : List Bool} {vs : List V}, allBl ds = some bs → RepL K Bk H ds vs → vs = bs.map V.bl
  | [], bs, vs, h, r => by cases h; exact r
  | d :: ds, bs, vs, h, ⟨v, ws, e, h1, h2⟩ => by
    subst e
    cases d with
    | bl b =>
      unfold allBl at h
      cases q : allBl ds with
      | none => rw [q] at h; cases h
      | some es => rw [q] at h; cases h; cases h1; rw [allBl_ok q h2]; rfl
    | _ => cases h
def allInt : List D → Option (List Int)
  | [] => some []
  | .int b :: r => match allInt r with
    | some bs => some (b :: bs)
    | none => none
  | _ :: _ => none
theorem allInt_ok {Bk : Addr → Prop} : ∀ {ds : List D} {bs : List Int} {vs : List V}, allInt ds = some bs → RepL K Bk H ds vs → vs = bs.map V.int
  | [], bs, vs, h, r => by cases h; exact r
  | d :: ds, bs, vs, h, ⟨v, ws, e, h1, h2⟩ => by
    subst e
    cases d with
    | int b =>
      unfold allInt at h
      cases q : allInt ds with
      | none => rw [q] at h; cases h
      | some es => rw [q] at h; cases h; cases h1; rw [allInt_ok q h2]; rfl
    | _ => cases h
def fAll (x : Vl) (S : Sto) : Res Vl := match seqL S x with
  | some xs => (match allBl xs with
    | some bs => .ok (.dat (.bl (bs.all id))) S
    | none => .stuck)
  | none => .stuck
theorem s_all : Sim1 K (cAll K) fAll := fun {W σ B φ S H x d Q} I r f => by
  unfold fAll at f
  split at f
  · rename_i xs q1
    obtain ⟨a, vs, rfl, h1, l1⟩ := seqL_ok I q1 r
    split at f
    · rename_i bs q2
      rw [allBl_ok q2 l1] at h1
      exact ⟨bs, SqL.of h1, Fin.now f I rfl⟩
    · exact f.elim
  · exact f.elim
theorem f_all (hm : X.mg "all" = none) (ha : PE X a (rdE X.K W ma)) (hc : X.calm = true := by rfl) (hg : Gl X "all" := by rfl) (hs : starEach [a] X.env = [(false, eval a X.env)] := by rfl) : PE X (.Call (.Name "all" p) [a] [] pos) (rdE X.K W (m1 fAll ma)) := PE_imp (e_all hm ha hc hg hs) fun σ H Q h => sim_cb s_all h
def fSum (x : Vl) (S : Sto) : Res Vl := match seqL S x with
  | some xs => (match allInt xs with
    | some bs => .ok (.dat (.int bs.sum)) S
    | none => .stuck)
  | none => .stuck
theorem s_sum : Sim1 K (cSum K) fSum := fun {W σ B φ S H x d Q} I r f => by
  unfold fSum at f
  split at f
  · rename_i xs q1
    obtain ⟨a, vs, rfl, h1, l1⟩ := seqL_ok I q1 r
    split at f
    · rename_i bs q2
      rw [allInt_ok q2 l1] at h1
      exact ⟨bs, SqL.of h1, Fin.now f I rfl⟩
    · exact f.elim
  · exact f.elim
theorem f_sum (hm : X.mg "sum" = none) (ha : PE X a (rdE X.K W ma)) (hc : X.calm = true := by rfl) (hg : Gl X "sum" := by rfl) (hs : starEach [a] X.env = [(false, eval a X.env)] := by rfl) : PE X (.Call (.Name "sum" p) [a] [] pos) (rdE X.K W (m1 fSum ma)) := PE_imp (e_sum hm ha hc hg hs) fun σ H Q h => sim_cb s_sum h
def fList (cl : Bool) (x : Vl) (S : Sto) : Res Vl := match x with
  | .dat (.tup xs) => newL cl xs S
  | x => match seqL S x with
    | some xs => newL cl xs S
    | none => .stuck
theorem s_list {cl : Bool} : Sim1 K (cList K) (fList cl) := fun {W σ B φ S H x d Q} I r f => by
  unfold fList at f
  split at f
  · obtain ⟨a, vs, rfl, h1, l1⟩ := r
    exact ⟨vs, .inr h1, fun l hl => Fin.newL f I l1 hl⟩
  · split at f
    · rename_i xs q1
      obtain ⟨a, vs, rfl, h1, l1⟩ := seqL_ok I q1 r
      exact ⟨vs, .inl (SqL.of h1), fun l hl => Fin.newL f I l1 hl⟩
    · exact f.elim
theorem f_list {cl : Bool} (hm : X.mg "list" = none) (ha : PE X a (rdE X.K W ma)) (hg : Gl X "list" := by rfl) (hs : starEach [a] X.env = [(false, eval a X.env)] := by rfl) : PE X (.Call (.Name "list" p) [a] [] pos) (rdE X.K W (m1 (fList cl) ma)) := PE_imp (e_list hm ha hg hs) fun σ H Q h => sim_cb s_list h
def fTuple (x : Vl) (S : Sto) : Res Vl := match seqL S x with
  | some xs => .ok (.dat (.tup xs)) S
  | none => .stuck
theorem s_tuple : Sim1 K (cTuple K) fTuple := fun {W σ B φ S H x d Q} I r f => by
  unfold fTuple at f
  split at f
  · rename_i xs q1
    obtain ⟨a, vs, rfl, h1, l1⟩ := seqL_ok I q1 r
    exact ⟨vs, SqL.of h1, fun l hl => Fin.newT f I l1 hl⟩
  · exact f.elim
theorem f_tuple (hm : X.mg "tuple" = none) (ha : PE X a (rdE X.K W ma)) (hg : Gl X "tuple" := by rfl) (hs : starEach [a] X.env = [(false, eval a X.env)] := by rfl) : PE X (.Call (.Name "tuple" p) [a] [] pos) (rdE X.K W (m1 fTuple ma)) := PE_imp (e_tuple hm ha hg hs) fun σ H Q h => sim_cb s_tuple h
def cAbs : V → Hp → VK → Prop := fun x H Q => match x with
  | .int i => Q (.int (if i < 0 then -i else i)) H
  | _ => False
def fAbs (x : Vl) (S : Sto) : Res Vl := match x with
  | .dat (.int i) => .ok (.dat (.int (if i < 0 then -i else i))) S
  | _ => .stuck
theorem s_abs : Sim1 K cAbs fAbs := fun {W σ B φ S H x d Q} I r f => by
  unfold fAbs at f
  split at f
  · cases r; exact Fin.now f I rfl
  · exact f.elim
theorem f_abs (hm : X.mg "abs" = none) (ha : PE X a (rdE X.K W ma)) (hg : Gl X "abs" := by rfl) (hs : starEach [a] X.env = [(false, eval a X.env)] := by rfl) : PE X (.Call (.Name "abs" p) [a] [] pos) (rdE X.K W (m1 fAbs ma)) :=
  PE_imp (pe_callB (CallR_imp (u := c1 cAbs) call_abs fun xs H Q h => by
    match xs, h with
    | [x], h =>
      cases x with
      | int i => exact ⟨i, rfl, h⟩
      | _ => exact h.elim) hg hm boot_abs (pa_cons ha pa_nil hs) (he := hs)) fun σ H Q h => sim_cb s_abs h
theorem kind_tup {a : Addr} {xs : List V} (h : SqT K H a xs) : KindAt K H a "tuple" := by
  refine ⟨by decide, ?_⟩
  rcases h with (h | ⟨o, h⟩) | ⟨o, its, n, h, hc, _⟩
  · exact .base (.tup h)
  · exact .fTuple h
  · exact .kTuple h hc
theorem kind_lst {a : Addr} {xs : List V} (h : SqL K H a xs) : KindAt K H a "list" := by
  refine ⟨by decide, ?_⟩
  rcases h with (h | ⟨o, h⟩) | ⟨o, its, n, h, hc, _⟩
  · exact .base (.lst h)
  · exact .base (.frz h)
  · exact .kList h hc
/-- the built-in kind of a value -/
def kindOf (S : Sto) : Vl → Option String
  | .dat .non => some "NoneType"
  | .dat (.bl _) => some "bool"
  | .dat (.int _) => some "int"
  | .dat (.str _) => some "str"
  | .dat (.lst _) => some "list"
  | .dat (.tup _) => some "tuple"
  | .dat .dct => some "dict"
  | .dat (.ins _ _ _) => none
  | .cels _ => some "list"
  | .scr _ => some "list"
  | .cel n => match S[n]? with
    | some (.lst _) => some "list"
    | some (.dct _) => some "dict"
    | _ => none
def fIsi (T : String) (x : Vl) (S : Sto) : Res Vl := match kindOf S x with
  | some n => .ok (.dat (.bl (isTy T n))) S
  | none => .stuck
theorem kindOf_ok {d : Vl} {v : V} {n : String} (I : GInv K B φ S H) (r : RepV K B φ S H d v) (h : kindOf S d = some n) : (v = .non ∧ n = "NoneType") ∨ (∃ b, v = .bl b ∧ n = "bool") ∨ (∃ b, v = .int b ∧ n = "int") ∨ (∃ b, v = .str b ∧ n = "str") ∨ ∃ a, v = .ref a ∧ KindAt K H a n := by
  cases d with
  | dat d =>
    cases d with
    | non => cases h; cases r; exact .inl ⟨rfl, rfl⟩
    | bl b => cases h; cases r; exact .inr (.inl ⟨b, rfl, rfl⟩)
    | int b => cases h; cases r; exact .inr (.inr (.inl ⟨b, rfl, rfl⟩))
    | str b => cases h; cases r; exact .inr (.inr (.inr (.inl ⟨b, rfl, rfl⟩)))
    | lst xs => cases h; obtain ⟨a, vs, rfl, _, h1, _⟩ := r; exact .inr (.inr (.inr (.inr ⟨a, rfl, kind_lst (SqL.of h1)⟩)))
    | tup xs => cases h; obtain ⟨a, vs, rfl, h1, _⟩ := r; exact .inr (.inr (.inr (.inr ⟨a, rfl, kind_tup h1⟩)))
    | ins C ns xs => cases h
    | dct => cases h; obtain ⟨a, rfl, _, h1⟩ := r; exact .inr (.inr (.inr (.inr ⟨a, rfl, by decide, .base (.dK h1)⟩)))
  | cels ns => cases h; obtain ⟨a, as, rfl, _, h1, _⟩ := r; exact .inr (.inr (.inr (.inr ⟨a, rfl, kind_lst (SqL.of h1)⟩)))
  | scr ns => cases h; obtain ⟨a, rfl, h1⟩ := r; exact .inr (.inr (.inr (.inr ⟨a, rfl, kind_lst h1.sq⟩)))
  | cel n =>
    obtain ⟨a, rfl, h1⟩ := r
    have h : (match S[n]? with | some (.lst _) => some "list" | some (.dct _) => some "dict" | _ => none) = some _ := h
    split at h
    · rename_i q
      cases h
      obtain ⟨vs, h2, _⟩ := I.ok n _ a q h1
      exact .inr (.inr (.inr (.inr ⟨a, rfl, kind_lst (SqL.of h2)⟩)))
    · rename_i q
      cases h
      obtain ⟨vs, h2, _⟩ := I.ok n _ a q h1
      exact .inr (.inr (.inr (.inr ⟨a, rfl, by decide, .base (.dK h2)⟩)))
    · cases h
theorem s_isi {T : String} (hT : T ∈ targets) : Sim1 K (cIsi K T) (fIsi T) := fun {W σ B φ S H x d Q} I r f => by
  unfold fIsi at f
  have h6 : T = "int" ∨ T = "bool" ∨ T = "str" ∨ T = "list" ∨ T = "tuple" ∨ T = "dict" := by simpa [targets] using hT
  split at f
  · rename_i n h
    have q : ∀ b, b = isTy T n → Q (.bl b) H := fun b e => by rw [e]; exact Fin.now f I rfl
    rcases kindOf_ok I r h with ⟨rfl, rfl⟩ | ⟨b, rfl, rfl⟩ | ⟨b, rfl, rfl⟩ | ⟨b, rfl, rfl⟩ | ⟨a, rfl, hk⟩
    · exact q false (by rcases h6 with e | e | e | e | e | e <;> subst e <;> decide)
    · exact q _ (by rcases h6 with e | e | e | e | e | e <;> subst e <;> decide)
    · exact q _ (by rcases h6 with e | e | e | e | e | e <;> subst e <;> decide)
    · exact q _ (by rcases h6 with e | e | e | e | e | e <;> subst e <;> decide)
    · have h3 : n = "list" ∨ n = "tuple" ∨ n = "dict" := by simpa using hk.1
      exact ⟨n, hk, q _ (by rcases h6 with e | e | e | e | e | e <;> rcases h3 with e' | e' | e' <;> subst e <;> subst e' <;> decide)⟩
  · exact f.elim
theorem f_isi {T : String} (hm : X.mg "isinstance" = none) (hmT : X.mg y = none) (ha : PE X a (rdE X.K W ma)) (hT : T ∈ targets := by decide) (hv : bootBuiltins y = some (.type T) := by decide +kernel)
    (hg : Gl X "isinstance" := by rfl) (hgT : Gl X y := by rfl) (hn : y ≠ "__name__" := by decide) (hd : (y == ("__debug__" : Str)) = false := by decide) (hs : starEach [a, .Name y q] X.env = (false, eval a X.env) :: starEach [.Name y q] X.env := by rfl) :
    PE X (.Call (.Name "isinstance" p) [a, .Name y q] [] pos) (rdE X.K W (m1 (fIsi T) ma)) := PE_imp (e_isi hm hmT ha hT hv hg hgT hn hd hs) fun σ H Q h => sim_1 (s_isi hT) h
def fIsi2 (T U : String) (x : Vl) (S : Sto) : Res Vl := match kindOf S x with
  | some n => .ok (.dat (.bl (isTy T n || isTy U n))) S
  | none => .stuck
theorem s_isi2 {T U : String} (hT : T ∈ targets) (hU : U ∈ targets) {x : V} {d : Vl} (I : GInv K B φ S H) (r : RepV K B φ S H d x) (f : Fin K W σ (RepV K) B φ S H (fIsi2 T U d S) Q) {tp : Addr} {H' : Hp} (ntp : H tp = none) (hH : H' = upd H tp (.tup [.ty T, .ty U])) : cIsi2 K T U x H' fun b => Q (.bl b) H' := by
  unfold fIsi2 at f
  split at f
  · rename_i n h
    have X1 := Ext.new (o := .tup [.ty T, .ty U]) I ntp
    have I1 := I.new (o := .tup [.ty T, .ty U]) ntp
    have hq : Q (.bl (isTy T n || isTy U n)) H' := by subst hH; exact f φ _ _ I1 X1 rfl
    have r' : RepV K B φ S H' d x := by subst hH; exact r.ext X1 I
    rcases kindOf_ok I r h with ⟨rfl, rfl⟩ | ⟨b, rfl, rfl⟩ | ⟨b, rfl, rfl⟩ | ⟨b, rfl, rfl⟩ | ⟨a, rfl, hk⟩
    · have : ∀ T ∈ targets, isTy T "NoneType" = false := by decide
      rw [this T hT, this U hU] at hq
      exact hq
    · exact hq
    · exact hq
    · exact hq
    · have I1' : GInv K B φ S H' := by subst hH; exact I1
      rcases kindOf_ok I1' r' h with ⟨z, _⟩ | ⟨b, z, _⟩ | ⟨b, z, _⟩ | ⟨b, z, _⟩ | ⟨a', z, hk'⟩ <;> cases z
      exact ⟨n, hk', hq⟩
  · exact f.elim
theorem f_isi2 {q1 q2 tpos : Pos} {j : Nat} {T U : String} (hm : X.mg "isinstance" = none) (hmT : X.mg y = none) (hmU : X.mg z = none) (ha : PE X a (rdE X.K W ma)) (hT : T ∈ targets := by decide) (hU : U ∈ targets := by decide)
    (hv : bootBuiltins y = some (.type T) := by decide +kernel) (hw : bootBuiltins z = some (.type U) := by decide +kernel) (hg : Gl X "isinstance" := by rfl) (hgT : Gl X y := by rfl) (hgU : Gl X z := by rfl) (hn : y ≠ "__name__" := by decide) (hd : (y == ("__debug__" : Str)) = false := by decide) (hn2 : z ≠ "__name__" := by decide) (hd2 : (z == ("__debug__" : Str)) = false := by decide)
    (hs : starEach [a, .Tuple [.Name y q1, .Name z q2] j tpos] X.env = (false, eval a X.env) :: starEach [.Tuple [.Name y q1, .Name z q2] j tpos] X.env := by rfl) :
    PE X (.Call (.Name "isinstance" p) [a, .Tuple [.Name y q1, .Name z q2] j tpos] [] pos) (rdE X.K W (m1 (fIsi2 T U) ma)) :=
  PE_imp (e_isi2 hm hmT hmU ha hT hU hv hw hg hgT hgU hn hd hn2 hd2 hs) fun σ H Q h => rd_bind (k := fun x _ S => fIsi2 T U x S) h fun B φ S ρ d v H1 I E r f => by
    show _ ∧ _
    exact ⟨(by show 2 ≤ sizeLine; decide), fun tp htp => ⟨upd_same, s_isi2 hT hU I r f htp rfl⟩⟩
def cutD (xs : List D) (lo hi : Option Int) : List D := (xs.drop (HT.sIx xs.length 0 lo)).take (HT.sIx xs.length xs.length hi - HT.sIx xs.length 0 lo)
theorem RepL.cut {Bk : Addr → Prop} {ds : List D} {vs : List V} {lo hi : Option Int} (h : RepL K Bk H ds vs) : RepL K Bk H (cutD ds lo hi) (cutV vs lo hi) := by
  unfold cutD cutV
  rw [h.len]
  exact (h.drop _).take _
def fSl (cl : Bool) (x : Vl) (lo hi : Option Int) (S : Sto) : Res Vl := match x with
  | .dat (.tup xs) => .ok (.dat (.tup (cutD xs lo hi))) S
  | .dat (.str z) => if z.length ≤ sizeLine then .ok (.dat (.str (cutS z lo hi))) S else .stuck
  | .scr ns => newL cl (cutD (ns.map D.int) lo hi) S
  | x => match seqL S x with
    | some xs => newL cl (cutD xs lo hi) S
    | none => .stuck
def mNoP : FO := fun _ S => .ok none S
def mPart (a : FE) : FO := fun ρ S => (a ρ S).bind fun x S1 => match x with
  | .dat (.int i) => .ok (some i) S1
  | _ => .stuck
theorem PO_imp {e : Option Expr} {t u : TO} (h : PO X e t) (i : ∀ σ H Q, u σ H Q → t σ H Q) : PO X e u := ⟨fun pins s σ H Q I q => h.run pins s σ H Q I (i σ H Q q)⟩
theorem fo_none : PO X none (rdO X.K W mNoP) := PO_imp po_none fun σ H Q h => by
  obtain ⟨B, φ, S, ρ, I, E, f⟩ := h
  exact Fin.now (v := none) f I rfl
theorem fo_some (ha : PE X a (rdE X.K W ma)) : PO X (some a) (rdO X.K W (mPart ma)) := PO_imp (po_someC ha) fun σ H Q h =>
  rd_bind (k := fun x _ S1 => match x with | .dat (.int i) => .ok (some i) S1 | _ => .stuck) h fun B φ S ρ d v H1 I E r f => by
    split at f
    · cases r; exact Fin.now f I rfl
    · exact f.elim
theorem repL_ints {Bk : Addr → Prop} : ∀ ns : List Int, RepL K Bk H (ns.map D.int) (ns.map V.int)
  | [] => rfl
  | n :: ns => ⟨_, _, rfl, rfl, repL_ints ns⟩
theorem cut_whole {xs : List D} {lo hi : Option Int} (h : HT.sIx xs.length 0 lo = 0 ∧ HT.sIx xs.length xs.length hi = xs.length) : cutD xs lo hi = xs := by
  unfold cutD
  rw [h.1, h.2]
  simp
def mSl (cl : Bool) (a : FE) (l h : FO) : FE := fun ρ S => (a ρ S).bind fun x S1 => (l ρ S1).bind fun lo S2 => (h ρ S2).bind fun hi S3 => fSl cl x lo hi S3
theorem f_sl {cl : Bool} {lo hi : Option Expr} {ml mh : FO} (ha : PE X a (rdE X.K W ma)) (hl : PO X lo (rdO X.K W ml)) (hh : PO X hi (rdO X.K W mh)) : PE X (.Subscript a (.Slice lo hi none p2) pos) (rdE X.K W (mSl cl ma ml mh)) := PE_imp (pe_slice sl_C ha hl hh) fun σ H Q h =>
  rd_bind (k := fun x ρ S1 => (ml ρ S1).bind fun lo S2 => (mh ρ S2).bind fun hi S3 => fSl cl x lo hi S3) h fun B φ S ρ d v H1 I E r f => fin_bind I E f fun φ1 S1 d1 v1 H2 I1 X1 E1 r1 f1 => fin_bind I1 E1 f1 fun φ2 S2 d2 v2 H3 I2 X2 E2 r2 f2 => by
    cases r1
    cases r2
    replace r := (r.ext X1 I).ext X2 I1
    unfold fSl at f2
    split at f2
    · rename_i xs
      obtain ⟨a, vs, rfl, h1, l1⟩ := r
      refine Or.inr ⟨vs, h1, fun hw => ?_, fun hw p hp => Fin.newT f2 I2 l1.cut hp⟩
      rw [l1.len] at hw
      have e := cut_whole (xs := xs) hw
      rw [e] at f2
      exact Fin.now f2 I2 ⟨a, vs, rfl, h1, l1⟩
    · cases r
      split at f2
      · rename_i hz; exact ⟨hz, Fin.now f2 I2 rfl⟩
      · exact f2.elim
    · obtain ⟨a, rfl, h1⟩ := r
      exact Or.inl ⟨_, h1.sq, fun p hp => Fin.newL f2 I2 (repL_ints _).cut hp⟩
    · split at f2
      · rename_i xs q1
        obtain ⟨a, vs, rfl, h1, l1⟩ := seqL_ok I2 q1 r
        exact Or.inl ⟨vs, SqL.of h1, fun p hp => Fin.newL f2 I2 l1.cut hp⟩
      · exact f2.elim
def mFrz (a : FE) : FE := fun ρ S => (a ρ S).bind fun x S1 => match x with
  | .cel n => (match S1[n]? with
    | some (.lst ds) => .ok (.dat (.lst ds)) (S1.set n .dead)
    | _ => .stuck)
  | _ => .stuck
theorem f_frz (ha : PE X a (rdE X.K W ma)) : PE X a (rdE X.K W (mFrz ma)) := PE_imp ha fun σ H Q h =>
  rd_bind (k := fun x _ S1 => match x with | .cel n => (match S1[n]? with | some (Cell.lst ds) => Res.ok (Vl.dat (D.lst ds)) (S1.set n Cell.dead) | _ => Res.stuck) | _ => Res.stuck) h fun B φ S ρ d v H1 I E r f => by
    split at f
    · rename_i n
      obtain ⟨a, rfl, h1⟩ := r
      split at f
      · rename_i ds q
        obtain ⟨vs, h2, l⟩ := I.ok n _ a q h1
        have X1 := Ext.kill (φ := φ) (S := S) (H := H1) (n := n)
        exact f φ _ H1 I.kill X1 ⟨a, vs, rfl, I.killed q (by simp) h1, h2, X1.repL I l⟩
      · exact f.elim
    · exact f.elim
def mStar (a : FE) (r : FA) : FA := fun ρ S => (a ρ S).bind fun x S1 => match (match x with | .dat (.tup xs) => some xs | x => seqL S1 x) with
  | some xs => (r ρ S1).bind fun ys S2 => .ok (xs.map Vl.dat ++ ys) S2
  | none => .stuck
theorem RepL.vs {Bk : Addr → Prop} : ∀ {ds : List D} {vs : List V}, RepL K (Blk B φ S) H ds vs → RepVs K B φ S H (ds.map Vl.dat) vs
  | [], vs, h => h
  | d :: ds, vs, ⟨v, ws, e, h1, h2⟩ => ⟨v, ws, e, h1, RepL.vs (Bk := Bk) h2⟩
theorem RepVs.append : ∀ {ds es : List Vl} {vs ws : List V}, RepVs K B φ S H ds vs → RepVs K B φ S H es ws → RepVs K B φ S H (ds ++ es) (vs ++ ws)
  | [], es, vs, ws, h, h' => by cases h; exact h'
  | d :: ds, es, vs, ws, ⟨v, us, e, h1, h2⟩, h' => by subst e; exact ⟨v, us ++ ws, rfl, h1, RepVs.append h2 h'⟩
theorem fa_star (ha : PE X a (rdE X.K W ma)) (hr : PA X es (rdA X.K W mas)) (hs : starEach (.Starred a p :: es) X.env = (true, eval a X.env) :: starEach es X.env := by rfl) : PA X (.Starred a p :: es) (rdA X.K W (mStar ma mas)) := PA_imp (StX.pa_star ha hr hs) fun σ H Q h =>
  rd_bind (k := fun x ρ S1 => match (match x with | Vl.dat (D.tup xs) => some xs | x => seqL S1 x) with | some xs => (mas ρ S1).bind fun ys S2 => Res.ok (xs.map Vl.dat ++ ys) S2 | none => Res.stuck) h fun B φ S ρ d v H1 I E r f => by
    split at f
    · rename_i xs q
      have : ∃ a vs, v = .ref a ∧ (SqT X.K H1 a vs ∨ SqL X.K H1 a vs) ∧ RepL X.K (Blk B φ S) H1 xs vs := by
        split at q
        · cases q
          obtain ⟨a, vs, rfl, h1, l⟩ := r
          exact ⟨a, vs, rfl, .inl h1, l⟩
        · obtain ⟨a, vs, rfl, h1, l⟩ := seqL_ok I q r
          exact ⟨a, vs, rfl, .inr (SqL.of h1), l⟩
      obtain ⟨a, vs, rfl, h1, l⟩ := this
      refine ⟨a, vs, rfl, h1, fin_bind I E f fun φ1 S1 d1 v1 H2 I1 X1 E1 r1 f1 => Fin.now f1 I1 (RepVs.append (RepVs.ext X1 I (RepL.vs (Bk := fun _ => True) l)) r1)⟩
    · exact f.elim
end
end PH

namespace PH
open PySem PySem.Spec PyProof.Rows L2
inductive Out where
  | next (ρ : Ev) (S : Sto) | ret (d : Vl) (S : Sto) | brk (ρ : Ev) (S : Sto) | cnt (ρ : Ev) (S : Sto) | err (e : Er) (ρ : Ev) (S : Sto) | stuck
abbrev FS := Ev → Sto → Out
def Res.toS {α : Type} (r : Res α) (ρ : Ev) (k : α → Sto → Out) : Out := match r with
  | .ok a S => k a S
  | .err e S => .err e ρ S
  | .stuck => .stuck
def FinS (K : PySem.W.Frag) (W : WX) (D : Ends) (B : Addr → Prop) (φ : List Addr) (S : Sto) (H : Hp) (o : Out) : Prop := match o with
  | .next ρ' S' => ∀ φ' σ' H', GInv K B φ' S' H' → Ext φ S H φ' S' H' → RepE K B φ' S' H' ρ' σ' → D.nx σ' H'
  | .ret d S' => ∀ φ' v H', GInv K B φ' S' H' → Ext φ S H φ' S' H' → RepV K B φ' S' H' d v → D.rt v H'
  | .brk ρ' S' => ∀ φ' σ' H', GInv K B φ' S' H' → Ext φ S H φ' S' H' → RepE K B φ' S' H' ρ' σ' → D.bk σ' H'
  | .cnt ρ' S' => ∀ φ' σ' H', GInv K B φ' S' H' → Ext φ S H φ' S' H' → RepE K B φ' S' H' ρ' σ' → D.ct σ' H'
  | .err e ρ' S' => ∀ φ' σ' c x H', GInv K B φ' S' H' → Ext φ S H φ' S' H' → RepE K B φ' S' H' ρ' σ' → RepX K B φ' S' H' e c x → W c x σ' H'
  | .stuck => False
def rdS (K : PySem.W.Frag) (W : WX) (m : FS) : TS := fun D σ H => ∃ B φ S ρ, GInv K B φ S H ∧ RepE K B φ S H ρ σ ∧ FinS K W D B φ S H (m ρ S)
section
variable {X : Cx} {W : WX} {e a b c : Expr} {es rest : List Expr} {pos p q p2 : Pos} {x y z : Str} {K : PySem.W.Frag} {ma mb mc : FE} {mt mu : FT} {mas : FA} {B : Addr → Prop} {φ φ' : List Addr} {S S' : Sto} {H H' : Hp} {σ : L2.St} {Q : VK} {m n : FS} {st : Stmt} {sts : List Stmt} {D : Ends}
theorem PS_imp {t u : TS} (h : PS X st t) (i : ∀ D σ H, u D σ H → t D σ H) : PS X st u := ⟨fun pins s σ H D I q => h.run pins s σ H D I (i D σ H q)⟩
theorem PSs_imp {t u : TS} (h : PSs X sts t) (i : ∀ D σ H, u D σ H → t D σ H) : PSs X sts u := ⟨fun pins s σ H D I q => h.run pins s σ H D I (i D σ H q)⟩
theorem FinS.ext {o : Out} (f : FinS K W D B φ S H o) (e : Ext φ S H φ' S' H') : FinS K W D B φ' S' H' o := by
  cases o with
  | next ρ S1 => exact fun φ1 v H1 I1 X r => f φ1 v H1 I1 (e.trans X) r
  | ret d S1 => exact fun φ1 v H1 I1 X r => f φ1 v H1 I1 (e.trans X) r
  | brk ρ S1 => exact fun φ1 v H1 I1 X r => f φ1 v H1 I1 (e.trans X) r
  | cnt ρ S1 => exact fun φ1 v H1 I1 X r => f φ1 v H1 I1 (e.trans X) r
  | err x ρ S1 => exact fun φ1 σ1 c x H1 I1 X r => f φ1 σ1 c x H1 I1 (e.trans X) r
  | stuck => exact f
theorem fins_bind {α β : Type} {R : Rl α β} {ρ : Ev} {m : Ev → Sto → Res α} {k : α → Sto → Out} {Q1 : β → Hp → Prop} (I : GInv K B φ S H) (E : RepE K B φ S H ρ σ) (f : FinS K W D B φ S H ((m ρ S).toS ρ k))
    (hk : ∀ φ' S' d v H1, GInv K B φ' S' H1 → Ext φ S H φ' S' H1 → RepE K B φ' S' H1 ρ σ → R B φ' S' H1 d v → FinS K W D B φ' S' H1 (k d S') → Q1 v H1) : rd K W R m σ H Q1 := by
  refine ⟨B, φ, S, ρ, I, E, ?_⟩
  cases e : m ρ S with
  | stuck => rw [e] at f; exact f
  | err x S' =>
    rw [e] at f
    exact fun φ' c d H' I' X r => f φ' σ c d H' I' X (E.ext X I) r
  | ok d S' =>
    rw [e] at f
    exact fun φ' v H' I' X r => hk φ' S' d v H' I' X (E.ext X I) r (FinS.ext f X)
def mSeq (m n : FS) : FS := fun ρ S => match m ρ S with
  | .next ρ' S' => n ρ' S'
  | o => o
def mSkip : FS := fun ρ S => .next ρ S
def mBrk : FS := fun ρ S => .brk ρ S
def mCnt : FS := fun ρ S => .cnt ρ S
def mRet (a : FE) : FS := fun ρ S => (a ρ S).toS ρ fun d S1 => .ret d S1
def mDrop (a : FE) : FS := fun ρ S => (a ρ S).toS ρ fun _ S1 => .next ρ S1
def mIfS (t : FT) (m n : FS) : FS := fun ρ S => (t ρ S).toS ρ fun c S1 => if c = true then m ρ S1 else n ρ S1
theorem sim_seq (h : rdS K W (mSeq m n) D σ H) : tSeq (rdS K W m) (rdS K W n) D σ H := by
  obtain ⟨B, φ, S, ρ, I, E, f⟩ := h
  refine ⟨B, φ, S, ρ, I, E, ?_⟩
  unfold mSeq at f
  cases e : m ρ S with
  | next ρ' S' =>
    rw [e] at f
    exact fun φ' σ' H' I' X r => ⟨B, φ', S', ρ', I', r, FinS.ext f X⟩
  | ret d S' => rw [e] at f; exact f
  | brk d S' => rw [e] at f; exact f
  | cnt d S' => rw [e] at f; exact f
  | err x d S' => rw [e] at f; exact f
  | stuck => rw [e] at f; exact f
theorem fss_nil : PSs X [] (rdS X.K W mSkip) := PSs_imp pss_nil fun D σ H h => by
  obtain ⟨B, φ, S, ρ, I, E, f⟩ := h
  exact f φ σ H I Ext.refl E
theorem fss_one (h : PS X st (rdS X.K W m)) : PSs X [st] (rdS X.K W m) := pss_one h
theorem fss_cons (h : PS X st (rdS X.K W m)) (hr : PSs X sts (rdS X.K W n)) : PSs X (st :: sts) (rdS X.K W (mSeq m n)) := PSs_imp (pss_cons h hr) fun D σ H h => sim_seq h
theorem fs_pass : PS X (.Pass pos) (rdS X.K W mSkip) := PS_imp ps_pass fun D σ H h => by
  obtain ⟨B, φ, S, ρ, I, E, f⟩ := h
  exact f φ σ H I Ext.refl E
theorem fs_break : PS X (.Break pos) (rdS X.K W mBrk) := PS_imp ps_break fun D σ H h => by
  obtain ⟨B, φ, S, ρ, I, E, f⟩ := h
  exact f φ σ H I Ext.refl E
theorem fs_continue : PS X (.Continue pos) (rdS X.K W mCnt) := PS_imp ps_continue fun D σ H h => by
  obtain ⟨B, φ, S, ρ, I, E, f⟩ := h
  exact f φ σ H I Ext.refl E
theorem fs_never : PS X st (rdS X.K W fun _ _ => .stuck) := PS_imp ps_never fun D σ H h => by
  obtain ⟨B, φ, S, ρ, I, E, f⟩ := h
  exact f
theorem fs_ret (ha : PE X a (rdE X.K W ma)) : PS X (.Return (some a) pos) (rdS X.K W (mRet ma)) := PS_imp (ps_ret ha) fun D σ H h => by
  obtain ⟨B, φ, S, ρ, I, E, f⟩ := h
  exact fins_bind I E f fun φ' S' d v H1 I1 X1 E1 r f1 => f1 φ' v H1 I1 Ext.refl r
theorem fs_retN : PS X (.Return none pos) (rdS X.K W (mRet (mC .non))) := PS_imp ps_retN fun D σ H h => by
  obtain ⟨B, φ, S, ρ, I, E, f⟩ := h
  exact f φ _ H I Ext.refl rfl
theorem fs_expr (ha : PE X a (rdE X.K W ma)) (hs : swapsWith a none pos.line X.env = pure false := by rfl) : PS X (.Expr a pos) (rdS X.K W (mDrop ma)) := PS_imp (ps_expr ha hs) fun D σ H h => by
  obtain ⟨B, φ, S, ρ, I, E, f⟩ := h
  exact fins_bind I E f fun φ' S' d v H1 I1 X1 E1 r f1 => f1 φ' σ H1 I1 Ext.refl E1
theorem fs_if {s1 s2 : List Stmt} (ht : PT X c (rdT X.K W mt)) (ha : PSs X s1 (rdS X.K W m)) (hb : PSs X s2 (rdS X.K W n)) : PS X (.If c s1 s2 pos) (rdS X.K W (mIfS mt m n)) := PS_imp (ps_if ht ha hb) fun D σ H h => by
  obtain ⟨B, φ, S, ρ, I, E, f⟩ := h
  refine fins_bind I E f fun φ' S' d v H1 I1 X1 E1 r f1 => ?_
  have r : v = d := r
  subst r
  cases v with
  | true => exact ⟨B, φ', S', ρ, I1, E1, f1⟩
  | false => exact ⟨B, φ', S', ρ, I1, E1, f1⟩
inductive Tg where
  | nm (i : Nat) | tp (is : List Nat)
def gNames : List Nat → TGs
  | [] => gNil
  | i :: r => gCons (gName i) (gNames r)
def tgR (K : PySem.W.Frag) : Tg → TG
  | .nm i => gName i
  | .tp is => gTup K is.length (gNames is)
def putAll : List Nat → List L2.V → L2.St → L2.St
  | i :: r, v :: vs, σ => putAll r vs (σ.set i (some v))
  | _, _, σ => σ
def putEv : List Nat → List PH.D → Ev → Ev
  | i :: r, v :: vs, σ => putEv r vs (σ.set i (some (.dat v)))
  | _, _, σ => σ
def tgF : Tg → Vl → Ev → Option Ev
  | .nm i, d, ρ => some (ρ.set i (some d))
  | .tp is, .dat (.tup ds), ρ => if ds.length = is.length then some (putEv is ds ρ) else none
  | .tp _, _, _ => none
def tgS : Tg → List Nat
  | .nm i => [i]
  | .tp is => is
theorem gNames_ok {Q : L2.St → Hp → Prop} : ∀ {is : List Nat} {vs : List L2.V} {σ : L2.St} {H : Hp}, vs.length = is.length → Q (putAll is vs σ) H → gNames is vs σ H Q
  | [], [], σ, H, _, q => ⟨rfl, q⟩
  | i :: is, v :: vs, σ, H, h, q => ⟨v, vs, rfl, gNames_ok (is := is) (by simpa using h) q⟩
  | [], _ :: _, _, _, h, _ => by simp at h
  | _ :: _, [], _, _, h, _ => by simp at h
theorem putEv_ok : ∀ {is : List Nat} {ds : List PH.D} {vs : List L2.V} {ρ : Ev} {σ : L2.St}, RepL K (Blk B φ S) H ds vs → RepE K B φ S H ρ σ → RepE K B φ S H (putEv is ds ρ) (putAll is vs σ)
  | [], ds, vs, ρ, σ, h, E => by cases ds <;> cases vs <;> exact E
  | i :: is, [], vs, ρ, σ, h, E => by cases h; exact E
  | i :: is, d :: ds, vs, ρ, σ, ⟨v, ws, e, h1, h2⟩, E => by subst e; exact putEv_ok (is := is) h2 (E.set (d := .dat d) h1 i)
/-- the new slots of a store -/
def stOf : Tg → L2.V → List L2.V → L2.St → L2.St
  | .nm i, v, _, σ => σ.set i (some v)
  | .tp is, _, vs, σ => putAll is vs σ
theorem tg_sim {t : Tg} {d : Vl} {v : L2.V} {ρ ρ' : Ev} {Q : L2.St → Hp → Prop} (E : RepE K B φ S H ρ σ) (r : RepV K B φ S H d v) (h : tgF t d ρ = some ρ') (q : ∀ vs, RepE K B φ S H ρ' (stOf t v vs σ) → Q (stOf t v vs σ) H) : tgR K t v σ H Q := by
  cases t with
  | nm i => cases h; exact q [] (E.set r i)
  | tp is =>
    unfold tgF at h
    split at h
    · cases ‹Tg.tp _ = Tg.nm _›
    · rename_i is' ds _ e
      cases e
      split at h
      · rename_i hl
        cases h
        obtain ⟨a, vs, rfl, h1, l⟩ := r
        exact ⟨a, vs, rfl, h1, by rw [l.len, hl], gNames_ok (by rw [l.len, hl]) (q vs (putEv_ok l E))⟩
      · cases h
    · cases h
def mAsg (a : FE) (t : Tg) : FS := fun ρ S => (a ρ S).toS ρ fun d S1 => match tgF t d ρ with
  | some ρ' => .next ρ' S1
  | none => .stuck
theorem sim_asg {t : Tg} (h : rdS K W (mAsg ma t) D σ H) : tAsg (rdE K W ma) (tgR K t) D σ H := by
  obtain ⟨B, φ, S, ρ, I, E, f⟩ := h
  refine fins_bind I E f fun φ' S' d v H1 I1 X1 E1 r f1 => ?_
  split at f1
  · rename_i ρ' q
    exact tg_sim E1 r q fun vs E2 => f1 φ' _ H1 I1 Ext.refl E2
  · exact f1.elim
theorem fs_asg {tg e : Expr} {t : Tg} (he : PE X e (rdE X.K W ma)) (hg : PG X tg (tgR X.K t)) (hs : swapsWithSole [tg] e pos.line X.env = pure false := by rfl) (hw : swappedStores [tg] e X.env = pure none := by rfl)
    (h1 : (assignEach [tg] X.env).map (·.2) = [assign tg X.env] := by rfl) : PS X (.Assign [tg] e pos) (rdS X.K W (mAsg ma t)) := PS_imp (ps_asg he hg hs hw h1) fun D σ H h => sim_asg h
theorem fs_set {i : Nat} {x : Str} {e : Expr} {pos' : Pos} (hN : X.N.Nodup) (hi : X.N[i]? = some x) (hx : Loc X.env.scope x) (he : PE X e (rdE X.K W ma)) (hs : swapsWith e (some (.Name x pos')) pos.line X.env = pure false := by rfl) (hf : X.fn x = true ∨ X.env.scope.names.lookup x = some .local := by first | exact .inl rfl | exact .inr rfl | assumption) :
    PS X (.Assign [.Name x pos'] e pos) (rdS X.K W (mAsg ma (.nm i))) := PS_imp (ps_set hN hi hx he hs hf) fun D σ H h => sim_asg (t := .nm i) h
/-- names that are not needed any more -/
def wipeE (ρ : Ev) : List Nat → Ev
  | [] => ρ
  | v :: vs => (wipeE ρ vs).set v none
theorem RepE.wipeE {ρ : Ev} (E : RepE K B φ S H ρ σ) : ∀ is : List Nat, RepE K B φ S H (wipeE ρ is) σ
  | [] => E
  | i :: is => (RepE.wipeE E is).forget i
def mWipe (is : List Nat) (m : FS) : FS := fun ρ S => match m ρ S with
  | .next ρ' S' => .next (wipeE ρ' is) S'
  | .cnt ρ' S' => .cnt (wipeE ρ' is) S'
  | .brk ρ' S' => .brk (wipeE ρ' is) S'
  | o => o
theorem sim_wipe {is : List Nat} (h : rdS K W (mWipe is m) D σ H) : rdS K W m D σ H := by
  obtain ⟨B, φ, S, ρ, I, E, f⟩ := h
  refine ⟨B, φ, S, ρ, I, E, ?_⟩
  unfold mWipe at f
  cases e : m ρ S with
  | next ρ' S' => rw [e] at f; exact fun φ' σ' H' I' X r => f φ' σ' H' I' X (r.wipeE is)
  | ret d S' => rw [e] at f; exact f
  | brk ρ' S' => rw [e] at f; exact fun φ' σ' H' I' X r => f φ' σ' H' I' X (r.wipeE is)
  | cnt ρ' S' => rw [e] at f; exact fun φ' σ' H' I' X r => f φ' σ' H' I' X (r.wipeE is)
  | err x d S' => rw [e] at f; exact f
  | stuck => rw [e] at f; exact f
theorem fss_wipe (is : List Nat) (h : PSs X sts (rdS X.K W m)) : PSs X sts (rdS X.K W (mWipe is m)) := PSs_imp h fun D σ H h => sim_wipe h
theorem fs_wipe (is : List Nat) (h : PS X st (rdS X.K W m)) : PS X st (rdS X.K W (mWipe is m)) := PS_imp h fun D σ H h => sim_wipe h
abbrev FI := Ev → Sto → Res (List PH.D)
def ItOk (K : PySem.W.Frag) (B : Addr → Prop) (φ : List Addr) (S : Sto) (H : Hp) (J : It) (ds : List PH.D) : Prop := ∀ φ1 S1 H1 B1, GInv K B1 φ1 S1 H1 → Kp (Blk B φ S) H (Blk B1 φ1 S1) H1 →
  (∀ i, i < ds.length → J.go i H1) ∧ J.stop ds.length H1 ∧ ∀ i x H2 d, ds[i]? = some d → J.yld i H1 x H2 → GInv K B1 φ1 S1 H2 ∧ Ext φ1 S1 H1 φ1 S1 H2 ∧ Rep K (Blk B1 φ1 S1) H2 d x
def RI (K : PySem.W.Frag) : Rl (List PH.D) It := fun B φ S H ds J => ItOk K B φ S H J ds
abbrev rdI (K : PySem.W.Frag) (W : WX) (m : FI) : TI := rd K W (RI K) m
theorem PI_imp {tg iter : Expr} {t u : TI} (h : PI X tg iter t) (i : ∀ σ H R, u σ H R → t σ H R) : PI X tg iter u := ⟨fun pins s σ H R I q => h.run pins s σ H R I (i σ H R q)⟩
/-- more is blocked -/
theorem Kp.more {B1 : Addr → Prop} (h1 : ∀ a, B a → B1 a) (h2 : ∀ a, H a ≠ none → B1 a → B a) : Kp (Blk B φ S) H (Blk B1 φ S) H where
  old := fun b o h n => ⟨h, fun q => by
    rcases q with q | q
    · exact n (.inl (h2 b (by rw [h]; simp) q))
    · exact n (.inr q)⟩
  tup := fun _ _ h => h
theorem Kp.trans {B1 B2 B3 : Addr → Prop} {H1 H2 H3 : Hp} (a : Kp B1 H1 B2 H2) (b : Kp B2 H2 B3 H3) : Kp B1 H1 B3 H3 := ⟨fun c o h n => b.old c o (a.old c o h n).1 (a.old c o h n).2, fun c u h => b.tup c u (a.tup c u h)⟩
theorem Ext.kpB {B1 : Addr → Prop} {φ1 : List Addr} {S1 : Sto} {H1 : Hp} (h1 : ∀ a, B a → B1 a) (h2 : ∀ a, H a ≠ none → B1 a → B a) (I : GInv K B φ S H) (x : Ext φ S H φ1 S1 H1) : Kp (Blk B φ S) H (Blk B1 φ1 S1) H1 where
  old := fun b o h n => by
    obtain ⟨h3, h4⟩ := x.old b o h (fun q => n (.inr q))
    exact ⟨h3, fun q => by
      rcases q with q | q
      · exact n (.inl (h2 b (by rw [h]; simp) q))
      · exact h4 q⟩
  tup := (x.kp I).tup
theorem it_list {v : L2.V} {ds : List PH.D} (I : GInv K B φ S H) (r : Rep K (Blk B φ S) H (.lst ds) v) : ∃ a, v = .ref a ∧ (∃ xs, SqL K H a xs) ∧ ItOk K B φ S H (Itl K a) ds := by
  obtain ⟨a, vs, rfl, nb, h1, l⟩ := r
  refine ⟨a, rfl, ⟨vs, SqL.of h1⟩, fun φ1 S1 H1 B1 I1 X1 => ?_⟩
  have h2 := (X1.old a _ h1 nb).1
  have l2 := RepL.kp X1 ds vs l
  have hl := l.len
  refine ⟨fun i hi => ⟨vs, vs[i], SqL.of h2, by simp [hl, hi]⟩, ⟨vs, SqL.of h2, by omega⟩, fun i x H2 d hd y => ?_⟩
  obtain ⟨rfl, y⟩ := y
  obtain ⟨v', h3, h4⟩ := l2.get hd
  rw [y vs (SqL.of h2)] at h3
  cases h3
  exact ⟨I1, Ext.refl, h4⟩
theorem it_tup {v : L2.V} {ds : List PH.D} (I : GInv K B φ S H) (r : Rep K (Blk B φ S) H (.tup ds) v) : ∃ a, v = .ref a ∧ (∃ xs, SqT K H a xs) ∧ ItOk K B φ S H (Itt K a) ds := by
  obtain ⟨a, vs, rfl, h1, l⟩ := r
  refine ⟨a, rfl, ⟨vs, h1⟩, fun φ1 S1 H1 B1 I1 X1 => ?_⟩
  have h2 : SqT K H1 a vs := SqT.kp X1.tup h1
  have l2 := RepL.kp X1 ds vs l
  have hl := l.len
  refine ⟨fun i hi => ⟨vs, vs[i], h2, by simp [hl, hi]⟩, ⟨vs, h2, by omega⟩, fun i x H2 d hd y => ?_⟩
  obtain ⟨rfl, y⟩ := y
  obtain ⟨v', h3, h4⟩ := l2.get hd
  rw [y vs h2] at h3
  cases h3
  exact ⟨I1, Ext.refl, h4⟩
def itemsOf : Vl → Sto → Res (List PH.D)
  | .dat (.lst ds), S => .ok ds S
  | .dat (.tup ds), S => .ok ds S
  | _, _ => .stuck
def mSeqI (a : FE) : FI := fun ρ S => (a ρ S).bind itemsOf
theorem fi_seq {tg : Expr} (ha : PE X a (rdE X.K W ma)) : PI X tg a (rdI X.K W (mSeqI ma)) := PI_imp (pi_seq ha) fun σ H R h =>
  rd_bind (k := fun x _ S => itemsOf x S) h fun B φ S ρ d v H1 I E r f => by
    unfold itemsOf at f
    split at f
    · obtain ⟨a, rfl, h1, h2⟩ := it_list I r
      exact Or.inl ⟨h1, Fin.now f I h2⟩
    · obtain ⟨a, rfl, h1, h2⟩ := it_tup I r
      exact Or.inr ⟨h1, Fin.now f I h2⟩
    · exact f.elim
def rngD (lo : Int) (n : Nat) : List PH.D := (List.range n).map fun (k : Nat) => PH.D.int (lo + (k : Int))
theorem it_rng {lo : Int} {n : Nat} : ItOk K B φ S H (Itr lo n) (rngD lo n) := fun φ1 S1 H1 B1 I1 X1 => by
  refine ⟨fun i hi => by show i < n; simpa [rngD] using hi, by show n ≤ _; simp [rngD], fun i x H2 d hd y => ?_⟩
  obtain ⟨rfl, rfl⟩ := y
  have : d = .int (lo + (i : Int)) := by
    unfold rngD at hd
    rw [List.getElem?_map] at hd
    cases q : (List.range n)[i]? with
    | none => rw [q] at hd; cases hd
    | some k =>
      rw [q] at hd
      have := List.getElem?_eq_some_iff.mp q
      obtain ⟨_, e⟩ := this
      simp at e
      subst e
      cases hd
      rfl
  subst this
  exact ⟨I1, Ext.refl, rfl⟩
def mRng1 (a : FE) : FI := fun ρ S => (a ρ S).bind fun x S1 => match x with
  | .dat (.int j) => if -(2 ^ 62) ≤ j ∧ j < 2 ^ 62 then .ok (rngD 0 j.toNat) S1 else .stuck
  | _ => .stuck
theorem fi_rng1 {tg : Expr} (hg : Gl X "range") (hm : X.mg "range" = none) (ha : PE X a (rdE X.K W ma)) (hs : starEach [a] X.env = [(false, eval a X.env)] := by rfl) : PI X tg (.Call (.Name "range" p) [a] [] pos) (rdI X.K W (mRng1 ma)) := PI_imp (pi_range1 hg hm (pa_cons ha pa_nil hs) hs) fun σ H R h =>
  rd_bind (k := fun x _ S1 => match x with | Vl.dat (PH.D.int j) => if -(2 ^ 62) ≤ j ∧ j < 2 ^ 62 then Res.ok (rngD 0 j.toNat) S1 else .stuck | _ => .stuck) h fun B φ S ρ d v H1 I E r f => by
    split at f
    · rename_i j
      cases r
      split at f
      · rename_i hj
        exact ⟨j, rfl, hj.1, hj.2, Fin.now f I it_rng⟩
      · exact f.elim
    · exact f.elim
def mRng2 (a b : FE) : FI := fun ρ S => (a ρ S).bind fun x S1 => (b ρ S1).bind fun y S2 => match x, y with
  | .dat (.int i), .dat (.int j) => if (-(2 ^ 62) ≤ i ∧ i < 2 ^ 62) ∧ -(2 ^ 62) ≤ j ∧ j < 2 ^ 62 then .ok (rngD i (j - i).toNat) S2 else .stuck
  | _, _ => .stuck
theorem fi_rng2 {tg : Expr} (hg : Gl X "range") (hm : X.mg "range" = none) (ha : PE X a (rdE X.K W ma)) (hb : PE X b (rdE X.K W mb)) (hs : starEach [a, b] X.env = [(false, eval a X.env), (false, eval b X.env)] := by rfl) (hs2 : starEach [b] X.env = [(false, eval b X.env)] := by rfl) (hs3 : starEach [a, b] X.env = (false, eval a X.env) :: starEach [b] X.env := by rfl) : PI X tg (.Call (.Name "range" p) [a, b] [] pos) (rdI X.K W (mRng2 ma mb)) := PI_imp (pi_range2 hg hm (pa_cons ha (pa_cons hb pa_nil hs2) hs3) hs hs2) fun σ H R h =>
  rd_bind (k := fun x ρ S1 => (mb ρ S1).bind fun y S2 => match x, y with | Vl.dat (PH.D.int i), Vl.dat (PH.D.int j) => if (-(2 ^ 62) ≤ i ∧ i < 2 ^ 62) ∧ -(2 ^ 62) ≤ j ∧ j < 2 ^ 62 then Res.ok (rngD i (j - i).toNat) S2 else .stuck | _, _ => .stuck) h fun B φ S ρ d v H1 I E r f => fin_bind I E f fun φ' S' d2 v2 H2 I2 X2 E2 r2 f2 => by
    split at f2
    · rename_i i j
      cases r
      cases r2
      split at f2
      · rename_i hj
        exact ⟨i, j, rfl, ⟨hj.1.1, hj.1.2, hj.2.1, hj.2.2⟩, Fin.now f2 I2 it_rng⟩
      · exact f2.elim
    · exact f2.elim
def enumD : Nat → List PH.D → List PH.D
  | _, [] => []
  | n, d :: r => .tup [.int (n : Nat), d] :: enumD (n + 1) r
theorem enumD_len : ∀ (n : Nat) (ds : List PH.D), (enumD n ds).length = ds.length
  | _, [] => rfl
  | n, d :: r => by simp [enumD, enumD_len (n + 1) r]
theorem enumD_get : ∀ (n : Nat) (ds : List PH.D) (i : Nat), (enumD n ds)[i]? = (ds[i]?).map fun d => PH.D.tup [.int ((n + i : Nat) : Int), d]
  | n, [], i => by simp [enumD]
  | n, d :: r, 0 => by simp [enumD]
  | n, d :: r, i + 1 => by
    simp only [enumD, List.getElem?_cons_succ]
    rw [enumD_get (n + 1) r i, show n + 1 + i = n + (i + 1) by omega]
def mEnum (a : FE) : FI := fun ρ S => (a ρ S).bind fun x S1 => match x with
  | .dat (.lst ds) => .ok (enumD 0 ds) S1
  | _ => .stuck
theorem it_enum {a : Addr} {vs : List L2.V} {ds : List PH.D} (I : GInv K B φ S H) (nb : ¬ Blk B φ S a) (h1 : H a = some (.lst vs)) (l : RepL K (Blk B φ S) H ds vs) : ItOk K B φ S H (Ite K a) (enumD 0 ds) := fun φ1 S1 H1 B1 I1 X1 => by
  have h2 := (X1.old a _ h1 nb).1
  have l2 := RepL.kp X1 ds vs l
  have hl := l.len
  rw [enumD_len]
  refine ⟨fun i hi => ⟨vs, vs[i], SqL.of h2, by simp [hl, hi]⟩, ⟨vs, SqL.of h2, by omega⟩, fun i x H2 d hd y => ?_⟩
  obtain ⟨T, x', rfl, nT, rfl, y⟩ := y
  rw [enumD_get, Nat.zero_add] at hd
  cases q : ds[i]? with
  | none => rw [q] at hd; cases hd
  | some d' =>
    rw [q] at hd
    cases hd
    obtain ⟨v', h3, h4⟩ := l2.get q
    rw [y vs (SqL.of h2)] at h3
    cases h3
    have X2 := Ext.new (o := .tup [.int (i : Nat), x']) I1 nT
    exact ⟨I1.new nT, X2, T, _, rfl, .inl (.inl upd_same), _, _, rfl, rfl, _, _, rfl, Rep.kp (X2.kp I1) _ _ h4, rfl⟩
theorem fi_enum {elts : List Expr} {kk : Nat} {tpos : Pos} (hg : Gl X "enumerate") (hm : X.mg "enumerate" = none) (ha : PE X a (rdE X.K W ma)) (hs : starEach [a] X.env = [(false, eval a X.env)] := by rfl) : PI X (.Tuple elts kk tpos) (.Call (.Name "enumerate" p) [a] [] pos) (rdI X.K W (mEnum ma)) := PI_imp (pi_enum hg hm (pa_cons ha pa_nil hs) hs) fun σ H R h =>
  rd_bind (k := fun x _ S1 => match x with | Vl.dat (PH.D.lst ds) => Res.ok (enumD 0 ds) S1 | _ => .stuck) h fun B φ S ρ d v H1 I E r f => by
    split at f
    · obtain ⟨a, vs, rfl, nb, h1, l⟩ := r
      exact ⟨a, vs, rfl, SqL.of h1, Fin.now f I (it_enum I nb h1 l)⟩
    · exact f.elim
def zipD : List PH.D → List PH.D → List PH.D
  | a :: r, b :: s => .tup [a, b] :: zipD r s
  | _, _ => []
theorem zipD_get : ∀ (xs ys : List PH.D) (i : Nat) (d : PH.D), (zipD xs ys)[i]? = some d → ∃ a b, xs[i]? = some a ∧ ys[i]? = some b ∧ d = .tup [a, b]
  | [], ys, i, d, h => by simp [zipD] at h
  | _ :: _, [], i, d, h => by simp [zipD] at h
  | a :: r, b :: s, 0, d, h => by simp [zipD] at h; exact ⟨a, b, rfl, rfl, h.symm⟩
  | a :: r, b :: s, i + 1, d, h => by
    simp only [zipD, List.getElem?_cons_succ] at h
    obtain ⟨x, y, h1, h2, h3⟩ := zipD_get r s i d h
    exact ⟨x, y, by simpa using h1, by simpa using h2, h3⟩
theorem zipD_len : ∀ (xs ys : List PH.D), (zipD xs ys).length = min xs.length ys.length
  | [], ys => by simp [zipD]
  | _ :: _, [] => by simp [zipD]
  | a :: r, b :: s => by simp [zipD, zipD_len r s]
def mZip (a b : FE) : FI := fun ρ S => (a ρ S).bind fun x S1 => (b ρ S1).bind fun y S2 => match x, y with
  | .dat (.lst ds), .dat (.lst es) => .ok (zipD ds es) S2
  | _, _ => .stuck
theorem fi_zip {elts : List Expr} {kk : Nat} {tpos : Pos} (hg : Gl X "zip") (hm : X.mg "zip" = none) (ha : PE X a (rdE X.K W ma)) (hb : PE X b (rdE X.K W mb)) (hs : starEach [a, b] X.env = (false, eval a X.env) :: starEach [b] X.env := by rfl) (hs2 : starEach [b] X.env = [(false, eval b X.env)] := by rfl) (hpl : (backTo pos (starEach [b] X.env)).any (·.1) = false := by rfl) : PI X (.Tuple elts kk tpos) (.Call (.Name "zip" p) [a, b] [] pos) (rdI X.K W (mZip ma mb)) := PI_imp (pi_zip hg hm (pa_cons ha (pa_cons hb pa_nil hs2) hs) hs hpl) fun σ H R h =>
  rd_bind (k := fun x ρ S1 => (mb ρ S1).bind fun y S2 => match x, y with | Vl.dat (PH.D.lst ds), Vl.dat (PH.D.lst es) => Res.ok (zipD ds es) S2 | _, _ => .stuck) h fun B φ S ρ d v H1 I E r f => fin_bind I E f fun φ' S' d2 v2 H2 I2 X2 E2 r2 f2 => by
    split at f2
    · rename_i ds es
      replace r := r.ext X2 I
      obtain ⟨a, vs, rfl, na, h1, l1⟩ := r
      obtain ⟨b, ws, rfl, nb, h2, l2⟩ := r2
      refine ⟨a, b, vs, ws, rfl, SqL.of h1, SqL.of h2, Fin.now f2 I2 fun φ3 S3 H3 B3 I3 X3 => ?_⟩
      have h1' := (X3.old a _ h1 na).1
      have h2' := (X3.old b _ h2 nb).1
      have l1' := RepL.kp X3 ds vs l1
      have l2' := RepL.kp X3 es ws l2
      have e1 := l1.len
      have e2 := l2.len
      rw [zipD_len]
      refine ⟨fun i hi => ?_, ⟨vs, ws, SqL.of h1', SqL.of h2', by omega⟩, fun i x H4 d hd y => ?_⟩
      · have i1 : i < vs.length := by omega
        have i2 : i < ws.length := by omega
        exact ⟨vs, ws, vs[i], ws[i], SqL.of h1', SqL.of h2', by simp [i1], by simp [i2]⟩
      · obtain ⟨T, x', y', rfl, nT, rfl, y1, y2⟩ := y
        obtain ⟨a', b', g1, g2, rfl⟩ := zipD_get ds es i d hd
        obtain ⟨v1, k1, k2⟩ := l1'.get g1
        obtain ⟨v2, k3, k4⟩ := l2'.get g2
        rw [y1 vs (SqL.of h1')] at k1
        rw [y2 ws (SqL.of h2')] at k3
        cases k1
        cases k3
        have X4 := Ext.new (o := .tup [x', y']) I3 nT
        exact ⟨I3.new nT, X4, T, _, rfl, .inl (.inl upd_same), _, _, rfl, Rep.kp (X4.kp I3) _ _ k2, _, _, rfl, Rep.kp (X4.kp I3) _ _ k4, rfl⟩
    · exact f2.elim
end
end PH

namespace PH
open PySem PySem.Spec PyProof.Rows L2
section
variable {X : Cx} {W : WX} {e a b c : Expr} {es rest : List Expr} {pos p q p2 : Pos} {x y z : Str} {K : PySem.W.Frag} {ma mb mc : FE} {mt mu : FT} {mas : FA} {mi : FI} {B : Addr → Prop} {φ φ' : List Addr} {S S' : Sto} {H H' : Hp} {σ : L2.St} {Q : VK} {m n : FS} {st : Stmt} {sts : List Stmt} {D : Ends} {t : Tg}
def loop (t : Tg) (mb : FS) : List PH.D → Ev → Sto → Out
  | [], ρ, S => .next ρ S
  | d :: r, ρ, S => match tgF t (.dat d) ρ with
    | none => .stuck
    | some ρ1 => match mb ρ1 S with
      | .next ρ2 S2 => loop t mb r ρ2 S2
      | .cnt ρ2 S2 => loop t mb r ρ2 S2
      | .brk ρ2 S2 => .next ρ2 S2
      | .ret d S2 => .ret d S2
      | .err e ρ2 S2 => .err e ρ2 S2
      | .stuck => .stuck
def mFor (mi : FI) (t : Tg) (mb : FS) : FS := fun ρ S => (mi ρ S).toS ρ fun ds S1 => loop t mb ds ρ S1
theorem sim_for (h : rdS K W (mFor mi t m) D σ H) : tFor (rdI K W mi) (tgR K t) (rdS K W m) D σ H := by
  obtain ⟨B, φ, S, ρ, I, E, f⟩ := h
  refine fins_bind I E f fun φ0 S0 ds J H0 I0 X0 E0 r f0 => ?_
  refine ⟨fun i k σ' H' => i ≤ ds.length ∧ k = ds.length - i ∧ ∃ φ1 S1 ρ1, GInv K B φ1 S1 H' ∧ Ext φ0 S0 H0 φ1 S1 H' ∧ RepE K B φ1 S1 H' ρ1 σ' ∧ FinS K W D B φ1 S1 H' (loop t m (ds.drop i) ρ1 S1), ⟨_, Nat.zero_le _, rfl, φ0, S0, ρ, I0, Ext.refl, E0, f0⟩, ?_⟩
  rintro i k σ' H' ⟨hi, rfl, φ1, S1, ρ1, I1, X1, E1, f1⟩
  obtain ⟨hgo, hstop, hyld⟩ := r φ1 S1 H' B I1 (X1.kp I0)
  by_cases hlt : i < ds.length
  · refine .inr ⟨hgo i hlt, fun σ2 H2 => i + 1 ≤ ds.length ∧ ∃ φ2 S2 ρ2, GInv K B φ2 S2 H2 ∧ Ext φ0 S0 H0 φ2 S2 H2 ∧ RepE K B φ2 S2 H2 ρ2 σ2 ∧ FinS K W D B φ2 S2 H2 (loop t m (ds.drop (i + 1)) ρ2 S2), fun σ2 H2 ⟨h1, h2⟩ => ⟨ds.length - (i + 1), by omega, h1, rfl, h2⟩, fun x H2 y => ?_⟩
    have hd : ds[i]? = some ds[i] := by simp [hlt]
    obtain ⟨I2, X2, r2⟩ := hyld i x H2 ds[i] hd y
    rw [List.drop_eq_getElem_cons hlt] at f1
    unfold loop at f1
    have E2 := E1.ext X2 I1
    have f2 := FinS.ext f1 X2
    split at f2
    · exact f2.elim
    · rename_i ρ2 q2
      refine tg_sim E2 (d := .dat ds[i]) r2 q2 fun vs E3 => ⟨B, φ1, S1, ρ2, I2, E3, ?_⟩
      cases q3 : m ρ2 S1 with
      | next ρ3 S3 =>
        rw [q3] at f2
        exact fun φ3 σ3 H3 I3 X3 E4 => ⟨hlt, φ3, S3, ρ3, I3, X1.trans (X2.trans X3), E4, FinS.ext f2 X3⟩
      | cnt ρ3 S3 =>
        rw [q3] at f2
        exact fun φ3 σ3 H3 I3 X3 E4 => ⟨hlt, φ3, S3, ρ3, I3, X1.trans (X2.trans X3), E4, FinS.ext f2 X3⟩
      | brk ρ3 S3 => rw [q3] at f2; exact f2
      | ret d S3 => rw [q3] at f2; exact f2
      | err e ρ3 S3 => rw [q3] at f2; exact f2
      | stuck => rw [q3] at f2; exact f2
  · have e : i = ds.length := by omega
    subst e
    rw [List.drop_length] at f1
    exact .inl ⟨hstop, f1 φ1 σ' H' I1 Ext.refl E1⟩
theorem fs_for {tg iter : Expr} (hp : PassesOwn (model X.prog X.w) X.A X.env X.xe) (hc : X.calm = true) (hi : PI X tg iter (rdI X.K W mi)) (hg : PG X tg (tgR X.K t)) (hb : PSs X sts (rdS X.K W m))
    (hs : ∀ x, foldedSetIterable iter X.env x = pure x := by intro _; rfl) : PS X (.For tg iter sts [] pos) (rdS X.K W (mFor mi t m)) := PS_imp (ps_for hp hc hi hg hb hs) fun D σ H h => sim_for h
def wloop (mt : FT) (mb : FS) : Nat → Ev → Sto → Out
  | 0, _, _ => .stuck
  | n + 1, ρ, S => (mt ρ S).toS ρ fun c S1 => if c = true then (match mb ρ S1 with
      | .next ρ2 S2 => wloop mt mb n ρ2 S2
      | .cnt ρ2 S2 => wloop mt mb n ρ2 S2
      | .brk ρ2 S2 => .next ρ2 S2
      | .ret d S2 => .ret d S2
      | .err e ρ2 S2 => .err e ρ2 S2
      | .stuck => .stuck) else .next ρ S1
def mWhile (k : Nat) (mt : FT) (mb : FS) : FS := fun ρ S => wloop mt mb k ρ S
theorem sim_while {k : Nat} (h : rdS K W (mWhile k mt m) D σ H) : tWhile (rdT K W mt) (rdS K W m) D σ H := by
  obtain ⟨B, φ, S, ρ, I, E, f⟩ := h
  refine ⟨fun k σ' H' => ∃ φ1 S1 ρ1, GInv K B φ1 S1 H' ∧ RepE K B φ1 S1 H' ρ1 σ' ∧ FinS K W D B φ1 S1 H' (wloop mt m k ρ1 S1), ⟨k, φ, S, ρ, I, E, f⟩, ?_⟩
  rintro k σ' H' ⟨φ1, S1, ρ1, I1, E1, f1⟩
  cases k with
  | zero => exact f1.elim
  | succ k =>
    refine fins_bind I1 E1 f1 fun φ2 S2 d v H2 I2 X2 E2 r f2 => ?_
    have r : v = d := r
    subst r
    cases v with
    | false => exact f2 φ2 σ' H2 I2 Ext.refl E2
    | true =>
      refine ⟨fun σ3 H3 => ∃ φ1 S1 ρ1, GInv K B φ1 S1 H3 ∧ RepE K B φ1 S1 H3 ρ1 σ3 ∧ FinS K W D B φ1 S1 H3 (wloop mt m k ρ1 S1), fun σ3 H3 h3 => ⟨k, Nat.lt_succ_self _, h3⟩, ⟨B, φ2, S2, ρ1, I2, E2, ?_⟩⟩
      rw [if_pos rfl] at f2
      cases q3 : m ρ1 S2 with
      | next ρ3 S3 =>
        rw [q3] at f2
        exact fun φ3 σ3 H3 I3 X3 E4 => ⟨φ3, S3, ρ3, I3, E4, FinS.ext f2 X3⟩
      | cnt ρ3 S3 =>
        rw [q3] at f2
        exact fun φ3 σ3 H3 I3 X3 E4 => ⟨φ3, S3, ρ3, I3, E4, FinS.ext f2 X3⟩
      | brk ρ3 S3 => rw [q3] at f2; exact f2
      | ret d S3 => rw [q3] at f2; exact f2
      | err e ρ3 S3 => rw [q3] at f2; exact f2
      | stuck => rw [q3] at f2; exact f2
theorem fs_while {k : Nat} (hp : PassesOwn (model X.prog X.w) X.A X.env X.xe) (hc : PT X c (rdT X.K W mt)) (hb : PSs X sts (rdS X.K W m)) : PS X (.While c sts [] pos) (rdS X.K W (mWhile k mt m)) := PS_imp (ps_while hp hc hb) fun D σ H h => sim_while h
theorem wipe_at : ∀ (vs : List Nat) (σ : L2.St) (j : Nat), (wipe σ vs)[j]? = if j ∈ vs then (σ[j]?).map (fun _ => none) else σ[j]?
  | [], σ, j => by simp [wipe]
  | v :: vs, σ, j => by
    unfold wipe
    rw [List.getElem?_set, wipe_at vs σ j, wipe_length]
    by_cases e : v = j
    · subst e
      rw [if_pos rfl, if_pos (List.mem_cons_self ..)]
      by_cases hl : v < σ.length
      · rw [if_pos hl]; simp [hl]
      · rw [if_neg hl]; simp [Nat.le_of_not_lt hl]
    · rw [if_neg e]
      by_cases hm : j ∈ vs
      · rw [if_pos hm, if_pos (List.mem_cons_of_mem _ hm)]
      · rw [if_neg hm, if_neg]
        intro h
        rcases List.mem_cons.mp h with h | h
        · exact e h.symm
        · exact hm h
theorem wipe_set {vs : List Nat} {σ : L2.St} {i : Nat} {v : Option L2.V} (hi : i ∈ vs) : wipe (σ.set i v) vs = wipe σ vs := by
  apply List.ext_getElem?
  intro j
  rw [wipe_at, wipe_at]
  by_cases hj : j ∈ vs
  · rw [if_pos hj, if_pos hj, List.getElem?_set]
    by_cases e : i = j
    · subst e
      rw [if_pos rfl]
      by_cases hl : i < σ.length
      · rw [if_pos hl]; simp [hl]
      · rw [if_neg hl]; simp [Nat.le_of_not_lt hl]
    · rw [if_neg e]
  · rw [if_neg hj, if_neg hj, List.getElem?_set, if_neg]
    intro e
    subst e
    exact hj hi
theorem wipe_wipe {vs : List Nat} {σ : L2.St} : wipe (wipe σ vs) vs = wipe σ vs := by
  apply List.ext_getElem?
  intro j
  rw [wipe_at]
  by_cases hj : j ∈ vs
  · rw [if_pos hj, wipe_at, if_pos hj]
    cases σ[j]? <;> rfl
  · rw [if_neg hj]
theorem wipe_putAll {vs : List Nat} : ∀ {is : List Nat} {ws : List L2.V} {σ : L2.St}, (∀ i ∈ is, i ∈ vs) → wipe (putAll is ws σ) vs = wipe σ vs
  | [], ws, σ, _ => by cases ws <;> rfl
  | i :: is, [], σ, _ => rfl
  | i :: is, w :: ws, σ, h => by
    unfold putAll
    rw [wipe_putAll (is := is) fun j hj => h j (List.mem_cons_of_mem _ hj), wipe_set (h i (List.mem_cons_self ..))]
theorem wipe_stOf {vs : List Nat} {v : L2.V} {ws : List L2.V} (h : ∀ i ∈ tgS t, i ∈ vs) : wipe (stOf t v ws σ) vs = wipe σ vs := by
  cases t with
  | nm i => exact wipe_set (h i (by simp [tgS]))
  | tp is => exact wipe_putAll h
theorem RepE.wipes {ρ : Ev} (E : RepE K B φ S H ρ σ) (vs : List Nat) : RepE K B φ S H (PH.wipeE ρ vs) (wipe σ vs) := by
  have hl : ∀ vs : List Nat, (PH.wipeE ρ vs).length = ρ.length := fun vs => by
    induction vs with
    | nil => rfl
    | cons v vs ih => simp [PH.wipeE, ih]
  have hg : ∀ (vs : List Nat) (i : Nat) (d : Vl), (PH.wipeE ρ vs)[i]? = some (some d) → i ∉ vs ∧ ρ[i]? = some (some d) := fun vs => by
    induction vs with
    | nil => intro i d h; exact ⟨by simp, h⟩
    | cons v vs ih =>
      intro i d h
      unfold PH.wipeE at h
      rw [List.getElem?_set] at h
      by_cases e : v = i
      · rw [if_pos e] at h
        by_cases hv : v < (PH.wipeE ρ vs).length
        · rw [if_pos hv] at h; cases h
        · rw [if_neg hv] at h; cases h
      · rw [if_neg e] at h
        obtain ⟨h1, h2⟩ := ih i d h
        exact ⟨fun q => by
          rcases List.mem_cons.mp q with q | q
          · exact e q.symm
          · exact h1 q, h2⟩
  refine ⟨by rw [hl, wipe_length]; exact E.1, fun i d h => ?_⟩
  obtain ⟨h1, h2⟩ := hg vs i d h
  obtain ⟨v, h3, h4⟩ := E.2 i d h2
  exact ⟨v, by rw [wipe_at, if_neg h1]; exact h3, h4⟩
/-- block one more address -/
def Bpl (B : Addr → Prop) (a : Addr) : Addr → Prop := fun b => B b ∨ b = a
theorem GInv.plus {a : Addr} {o : HO} (I : GInv K B φ S H) (ha : H a = none) : GInv K (Bpl B a) φ S (upd H a o) where
  len := I.len
  ok := fun n c b h1 h2 => by
    have q := I.ok n c b h1 h2
    have k : Kp (Blk B φ S) H (Blk (Bpl B a) φ S) (upd H a o) := Ext.kpB (B1 := Bpl B a) (fun _ h => .inl h) (fun b hb h => by
      rcases h with h | h
      · exact h
      · exact absurd (by rw [h]; exact ha) hb) I (Ext.new I ha)
    have hb : c ≠ .dead → upd H a o b = H b := fun hc => upd_ne fun e => by
      subst e
      exact I.fresh ha ⟨n, c, h1, hc, h2⟩
    have hV : ∀ {d : Vl} {v : L2.V}, RepV K B φ S H d v → RepV K (Bpl B a) φ S (upd H a o) d v := fun {d v} r => by
      cases d with
      | dat d => exact Rep.kp k d v r
      | cel n => exact r
      | cels ns => obtain ⟨a', as, e1, e2, e3, e4⟩ := r; exact ⟨a', as, e1, (k.old _ _ e3 e2).2, (k.old _ _ e3 e2).1, e4⟩
      | scr ns => obtain ⟨a', e1, e2⟩ := r; exact ⟨a', e1, e2.keep fun o u h => by rw [upd_ne (ne_of_none h ha)]; exact h⟩
    have hF : ∀ {fs : List (Str × Vl)} {vs : List (Str × L2.V)}, RepF K B φ S H fs vs → RepF K (Bpl B a) φ S (upd H a o) fs vs := fun {fs} => by
      induction fs with
      | nil => intro vs r; exact r
      | cons f fs ih => rintro vs ⟨v, ws, e, h1, h2⟩; exact ⟨v, ws, e, hV h1, ih h2⟩
    cases c with
    | dead => trivial
    | lst ds => obtain ⟨vs, e, r⟩ := q; exact ⟨vs, by rw [hb (by simp)]; exact e, RepL.kp k ds vs r⟩
    | ins C fs => obtain ⟨dx, vs, e, r⟩ := q; exact ⟨dx, vs, by rw [hb (by simp)]; exact e, hF r⟩
    | dct fs => obtain ⟨vs, e, r⟩ := q; exact ⟨vs, by rw [hb (by simp)]; exact e, hF r⟩
  inj := I.inj
  blk := fun b h q => by
    rcases q with q | q
    · exact I.blk b h q
    · subst q; exact I.fresh ha h
  btr := fun b h => by
    rcases h with h | h
    · obtain ⟨u, e⟩ := I.btr b h
      exact ⟨u, by rw [upd_ne (ne_of_none e ha)]; exact e⟩
    · subst h; exact ⟨o, upd_same⟩
theorem RepV.less {a : Addr} {d : Vl} {v : L2.V} (r : RepV K (Bpl B a) φ S H d v) : RepV K B φ S H d v := by
  have k : Kp (Blk (Bpl B a) φ S) H (Blk B φ S) H := ⟨fun b o h n => ⟨h, fun q => n (by
    rcases q with q | q
    · exact .inl (.inl q)
    · exact .inr q)⟩, fun _ _ h => h⟩
  cases d with
  | dat d => exact Rep.kp k d v r
  | cel n => exact r
  | cels ns => obtain ⟨a', as, e1, e2, e3, e4⟩ := r; exact ⟨a', as, e1, (k.old _ _ e3 e2).2, e3, e4⟩
  | scr ns => exact r
theorem RepL.less {a : Addr} {ds : List PH.D} {vs : List L2.V} (r : RepL K (Blk (Bpl B a) φ S) H ds vs) : RepL K (Blk B φ S) H ds vs :=
  RepL.kp ⟨fun b o h n => ⟨h, fun q => n (by
    rcases q with q | q
    · exact .inl (.inl q)
    · exact .inr q)⟩, fun _ _ h => h⟩ ds vs r
theorem RepF.less {a : Addr} : ∀ {fs : List (Str × Vl)} {vs : List (Str × L2.V)}, RepF K (Bpl B a) φ S H fs vs → RepF K B φ S H fs vs
  | [], vs, r => r
  | f :: fs, vs, ⟨v, ws, e, h1, h2⟩ => ⟨v, ws, e, h1.less, RepF.less h2⟩
theorem GInv.less {a : Addr} (I : GInv K (Bpl B a) φ S H) : GInv K B φ S H where
  len := I.len
  ok := fun n c b h1 h2 => by
    have q := I.ok n c b h1 h2
    cases c with
    | dead => trivial
    | lst ds => obtain ⟨vs, e, r⟩ := q; exact ⟨vs, e, r.less⟩
    | ins C fs => obtain ⟨dx, vs, e, r⟩ := q; exact ⟨dx, vs, e, r.less⟩
    | dct fs => obtain ⟨vs, e, r⟩ := q; exact ⟨vs, e, r.less⟩
  inj := I.inj
  blk := fun b h q => I.blk b h (.inl q)
  btr := fun b h => I.btr b (.inl h)
/-- the blocked list is changed -/
theorem Kp.plusPut {a : Addr} {acc : List L2.V} {o : HO} (ha : H a = some (.lst acc)) : Kp (Blk (Bpl B a) φ S) H (Blk (Bpl B a) φ S) (upd H a o) :=
  ⟨fun b o' h n => ⟨by
    rw [upd_ne]
    · exact h
    · intro e; subst e; exact n (.inl (.inr rfl)), n⟩, fun b w h => by
    have ne : b ≠ a := fun e => by
      subst e
      rcases h with h | ⟨o', h⟩
      · rw [ha] at h; cases h
      · rw [ha] at h; cases h
    rcases h with h | ⟨o', h⟩
    · exact .inl (by rw [upd_ne ne]; exact h)
    · exact .inr ⟨o', by rw [upd_ne ne]; exact h⟩⟩
theorem RepV.plusPut {a : Addr} {acc : List L2.V} {o : HO} (ha : H a = some (.lst acc)) {d : Vl} {v : L2.V} (r : RepV K (Bpl B a) φ S H d v) : RepV K (Bpl B a) φ S (upd H a o) d v := by
  have k := Kp.plusPut (B := B) (φ := φ) (S := S) (o := o) ha
  cases d with
  | dat d => exact Rep.kp k d v r
  | cel n => exact r
  | cels ns => obtain ⟨a', as, e1, e2, e3, e4⟩ := r; exact ⟨a', as, e1, (k.old _ _ e3 e2).2, (k.old _ _ e3 e2).1, e4⟩
  | scr ns =>
    obtain ⟨a', e1, e2⟩ := r
    refine ⟨a', e1, e2.keep fun o u h => ?_⟩
    rw [upd_ne]
    · exact h
    · intro e; subst e; rw [ha] at h; cases h
theorem RepF.plusPut {a : Addr} {acc : List L2.V} {o : HO} (ha : H a = some (.lst acc)) : ∀ {fs : List (Str × Vl)} {vs : List (Str × L2.V)}, RepF K (Bpl B a) φ S H fs vs → RepF K (Bpl B a) φ S (upd H a o) fs vs
  | [], vs, r => r
  | f :: fs, vs, ⟨v, ws, e, h1, h2⟩ => ⟨v, ws, e, h1.plusPut ha, RepF.plusPut ha h2⟩
theorem GInv.plusPut {a : Addr} {acc : List L2.V} {o : HO} (I : GInv K (Bpl B a) φ S H) (ha : H a = some (.lst acc)) : GInv K (Bpl B a) φ S (upd H a o) where
  len := I.len
  ok := fun n c b h1 h2 => by
    have q := I.ok n c b h1 h2
    have k := Kp.plusPut (B := B) (φ := φ) (S := S) (o := o) ha
    have hb : c ≠ .dead → upd H a o b = H b := fun hc => upd_ne fun e => by
      subst e
      exact I.blk b ⟨n, c, h1, hc, h2⟩ (.inr rfl)
    cases c with
    | dead => trivial
    | lst ds => obtain ⟨vs, e, r⟩ := q; exact ⟨vs, by rw [hb (by simp)]; exact e, RepL.kp k ds vs r⟩
    | ins C fs => obtain ⟨dx, vs, e, r⟩ := q; exact ⟨dx, vs, by rw [hb (by simp)]; exact e, r.plusPut ha⟩
    | dct fs => obtain ⟨vs, e, r⟩ := q; exact ⟨vs, by rw [hb (by simp)]; exact e, r.plusPut ha⟩
  inj := I.inj
  blk := I.blk
  btr := fun b h => by
    by_cases e : b = a
    · subst e; exact ⟨o, upd_same⟩
    · obtain ⟨u, h1⟩ := I.btr b h
      exact ⟨u, by rw [upd_ne e]; exact h1⟩
theorem RepV.plus {a : Addr} {o : HO} (I : GInv K B φ S H) (ha : H a = none) {d : Vl} {v : L2.V} (r : RepV K B φ S H d v) : RepV K (Bpl B a) φ S (upd H a o) d v := by
  have k : Kp (Blk B φ S) H (Blk (Bpl B a) φ S) (upd H a o) := Ext.kpB (B1 := Bpl B a) (fun _ h => .inl h) (fun b hb h => by
    rcases h with h | h
    · exact h
    · exact absurd (by rw [h]; exact ha) hb) I (Ext.new I ha)
  cases d with
  | dat d => exact Rep.kp k d v r
  | cel n => exact r
  | cels ns => obtain ⟨a', as, e1, e2, e3, e4⟩ := r; exact ⟨a', as, e1, (k.old _ _ e3 e2).2, (k.old _ _ e3 e2).1, e4⟩
  | scr ns => obtain ⟨a', e1, e2⟩ := r; exact ⟨a', e1, e2.keep fun o u h => by rw [upd_ne (ne_of_none h ha)]; exact h⟩
theorem RepE.plus {a : Addr} {o : HO} {ρ : Ev} (I : GInv K B φ S H) (ha : H a = none) (E : RepE K B φ S H ρ σ) : RepE K (Bpl B a) φ S (upd H a o) ρ σ :=
  ⟨E.1, fun i d h => by
    obtain ⟨v, h1, h2⟩ := E.2 i d h
    exact ⟨v, h1, h2.plus I ha⟩⟩
theorem RepE.plusPut {a : Addr} {acc : List L2.V} {o : HO} {ρ : Ev} (ha : H a = some (.lst acc)) (E : RepE K (Bpl B a) φ S H ρ σ) : RepE K (Bpl B a) φ S (upd H a o) ρ σ :=
  ⟨E.1, fun i d h => by
    obtain ⟨v, h1, h2⟩ := E.2 i d h
    exact ⟨v, h1, h2.plusPut ha⟩⟩
/-- the list of a comprehension, done: it is a tree or a cell -/
theorem Fin.done {cl : Bool} {a : Addr} {ds : List PH.D} {vs : List L2.V} {H0 : Hp} {φ0 : List Addr} {S0 : Sto} (f : Fin K W σ (RepV K) B φ0 S0 H0 (PH.newL cl ds S) Q) (I : GInv K (Bpl B a) φ S H) (X0 : Ext φ0 S0 H0 φ S H) (h0 : H0 a = none) (nB : ¬ B a) (ha : H a = some (.lst vs)) (l : RepL K (Blk (Bpl B a) φ S) H ds vs) : Q (.ref a) H := by
  have na : ¬ Alive φ S a := fun q => I.blk a q (.inr rfl)
  unfold PH.newL at f
  cases cl with
  | false =>
    refine f φ _ H I.less X0 ⟨a, vs, rfl, fun q => ?_, ha, l.less⟩
    rcases q with q | q
    · exact nB q
    · exact na q
  | true =>
    have X1 : Ext φ0 S0 H0 (φ ++ [a]) (S ++ [.lst ds]) H := {
      old := fun b o h n => by
        obtain ⟨h1, h2⟩ := X0.old b o h n
        refine ⟨h1, fun q => ?_⟩
        rcases (alive_app I.len).mp q with q | ⟨_, q⟩
        · exact h2 q
        · subst q; rw [h0] at h; cases h
      ids := fun n b h => by
        have := X0.ids n b h
        rw [List.getElem?_append_left (List.getElem?_eq_some_iff.mp this).1]; exact this }
    have hS : ∀ b, Blk B (φ ++ [a]) (S ++ [.lst ds]) b → Blk (Bpl B a) φ S b := fun b q => by
      rcases q with q | q
      · exact .inl (.inl q)
      · rcases (alive_app I.len).mp q with q | ⟨_, q⟩
        · exact .inr q
        · exact .inl (.inr q)
    have k : Kp (Blk (Bpl B a) φ S) H (Blk B (φ ++ [a]) (S ++ [.lst ds])) H := ⟨fun b o h n => ⟨h, fun q => n (hS b q)⟩, fun _ _ h => h⟩
    have hφ : ∀ (n : Nat) (b : Addr), φ[n]? = some b → (φ ++ [a])[n]? = some b := fun n b h => by rw [List.getElem?_append_left (List.getElem?_eq_some_iff.mp h).1]; exact h
    have hV : ∀ {d : Vl} {v : L2.V}, RepV K (Bpl B a) φ S H d v → RepV K B (φ ++ [a]) (S ++ [.lst ds]) H d v := fun {d v} r => by
      cases d with
      | dat d => exact Rep.kp k d v r
      | cel n => obtain ⟨b, e1, e2⟩ := r; exact ⟨b, e1, hφ _ _ e2⟩
      | cels ns => obtain ⟨a', as, e1, e2, e3, e4⟩ := r; exact ⟨a', as, e1, (k.old _ _ e3 e2).2, e3, map_ids hφ ns as e4⟩
      | scr ns => exact r
    have hF : ∀ {fs : List (Str × Vl)} {vs : List (Str × L2.V)}, RepF K (Bpl B a) φ S H fs vs → RepF K B (φ ++ [a]) (S ++ [.lst ds]) H fs vs := fun {fs} => by
      induction fs with
      | nil => intro vs r; exact r
      | cons f fs ih => rintro vs ⟨v, ws, e, h1, h2⟩; exact ⟨v, ws, e, hV h1, ih h2⟩
    refine f (φ ++ [a]) _ H ?_ X1 ⟨a, rfl, by rw [← I.len]; exact getElem_app⟩
    exact {
      len := by simp [I.len]
      ok := fun n c b h1 h2 => by
        by_cases hn : n < S.length
        · rw [List.getElem?_append_left hn] at h1
          rw [List.getElem?_append_left (by rw [I.len]; exact hn)] at h2
          have q := I.ok n c b h1 h2
          cases c with
          | dead => trivial
          | lst es => obtain ⟨us, e, r⟩ := q; exact ⟨us, e, RepL.kp k es us r⟩
          | ins C fs => obtain ⟨dx, us, e, r⟩ := q; exact ⟨dx, us, e, hF r⟩
          | dct fs => obtain ⟨us, e, r⟩ := q; exact ⟨us, e, hF r⟩
        · have e : n = S.length := by
            have := (List.getElem?_eq_some_iff.mp h1).1
            simp at this
            omega
          subst e
          rw [List.getElem?_append_right (Nat.le_refl _)] at h1
          rw [← I.len, List.getElem?_append_right (Nat.le_refl _)] at h2
          simp at h1 h2
          subst h1 h2
          exact ⟨vs, ha, RepL.kp k ds vs l⟩
      inj := fun n m c c' b h1 h2 h3 h4 h5 h6 => by
        have key : ∀ (n : Nat) (c : Cell), (S ++ [.lst ds])[n]? = some c → (n < S.length ∧ S[n]? = some c) ∨ n = S.length := fun n c h => by
          by_cases hn : n < S.length
          · rw [List.getElem?_append_left hn] at h; exact .inl ⟨hn, h⟩
          · have := (List.getElem?_eq_some_iff.mp h).1
            simp at this
            exact .inr (by omega)
        have kφ : ∀ n : Nat, n < S.length → (φ ++ [a])[n]? = φ[n]? := fun n hn => List.getElem?_append_left (by rw [I.len]; exact hn)
        have kp : (φ ++ [a])[S.length]? = some a := by rw [← I.len]; simp
        rcases key n c h1 with ⟨hn, e1⟩ | e1 <;> rcases key m c' h3 with ⟨hm, e2⟩ | e2
        · rw [kφ n hn] at h5
          rw [kφ m hm] at h6
          exact I.inj n m c c' b e1 h2 e2 h4 h5 h6
        · subst e2
          rw [kp] at h6
          cases h6
          rw [kφ n hn] at h5
          exact absurd ⟨n, c, e1, h2, h5⟩ na
        · subst e1
          rw [kp] at h5
          cases h5
          rw [kφ m hm] at h6
          exact absurd ⟨m, c', e2, h4, h6⟩ na
        · omega
      blk := fun b h => by
        rcases (alive_app I.len).mp h with h | ⟨_, h⟩
        · exact fun q => I.blk b h (.inl q)
        · subst h; exact nB
      btr := fun b h => I.btr b (.inl h) }
end
end PH

namespace PH
open PySem PySem.Spec PyProof.Rows L2
section
variable {X : Cx} {W : WX} {e a b c : Expr} {es rest : List Expr} {pos p q p2 : Pos} {x y z : Str} {K : PySem.W.Frag} {ma mb mc : FE} {mt mu : FT} {mas : FA} {mi mj : FI} {B : Addr → Prop} {φ φ' : List Addr} {S S' : Sto} {H H' : Hp} {σ : L2.St} {Q : VK} {m n : FS} {st : Stmt} {sts : List Stmt} {D : Ends} {t t1 : Tg}
def mYes : FT := fun _ S => .ok true S
theorem sim_yes {Q : Bool → Hp → Prop} (h : rdT K W mYes σ H Q) : tYes σ H Q := by
  obtain ⟨B, φ, S, ρ, I, E, f⟩ := h
  exact Fin.now (v := true) f I rfl
theorem PTs_imp {es : List Expr} {t u : TT} (h : PTs X es t) (i : ∀ σ H Q, u σ H Q → t σ H Q) : PTs X es u := ⟨fun pins s σ H Q I q => h.run pins s σ H Q I (i σ H Q q)⟩
theorem fts_nil : PTs X [] (rdT X.K W mYes) := PTs_imp pts_nil fun σ H Q h => sim_yes h
theorem fts_one {c : Expr} (h : PT X c (rdT X.K W mt)) : PTs X [c] (rdT X.K W mt) := pts_one h
/-- the items of a comprehension -/
def lcGo (t : Tg) (mt : FT) (me : FE) (ρ : Ev) : List PH.D → Sto → Res (List PH.D)
  | [], S => .ok [] S
  | d :: r, S => match tgF t (.dat d) ρ with
    | none => .stuck
    | some ρ1 => match mt ρ1 S with
      | .ok b S1 => if b = true then (match me ρ1 S1 with
          | .ok (.dat e) S2 => (match lcGo t mt me ρ r S2 with
            | .ok es S3 => .ok (e :: es) S3
            | _ => .stuck)
          | _ => .stuck) else lcGo t mt me ρ r S1
      | _ => .stuck
def mLc (cl : Bool) (mi : FI) (t : Tg) (mt : FT) (me : FE) (vs : List Nat) : FE := fun ρ S => (mi ρ S).bind fun ds S1 => if ds.length ≤ sizeLine then (match lcGo t mt me (wipeE ρ vs) ds S1 with
  | .ok es S2 => newL cl es S2
  | _ => .stuck) else .stuck
theorem lcGo_len {me : FE} : ∀ {ds : List PH.D} {S S' : Sto} {ρ : Ev} {es : List PH.D}, lcGo t mt me ρ ds S = .ok es S' → es.length ≤ ds.length
  | [], S, S', ρ, es, h => by unfold lcGo at h; cases h; simp
  | d :: r, S, S', ρ, es, h => by
    unfold lcGo at h
    split at h
    · cases h
    · split at h
      · split at h
        · split at h
          · split at h
            · rename_i q
              cases h
              have := lcGo_len q
              simp
              omega
            · cases h
          · cases h
        · have := lcGo_len h
          simp
          omega
      · cases h
theorem sim_lc {cl : Bool} {me : FE} {vs : List Nat} (ht : ∀ i ∈ tgS t, i ∈ vs) (h : rdE K W (mLc cl mi t mt me vs) σ H Q) : tLc (rdI K W mi) (tgR K t) (rdT K wNo mt) (rdE K wNo me) vs σ H Q := by
  refine rd_bind (k := fun ds ρ S1 => if ds.length ≤ sizeLine then (match lcGo t mt me (wipeE ρ vs) ds S1 with | .ok es S2 => newL cl es S2 | _ => .stuck) else .stuck) h fun B φ0 S0 ρ ds J H0 I0 E0 r f0 => ?_
  intro A hA
  split at f0
  case isFalse => exact f0.elim
  rename_i hsz
  cases q0 : lcGo t mt me (wipeE ρ vs) ds S0 with
  | stuck => rw [q0] at f0; exact f0.elim
  | err e S' => rw [q0] at f0; exact f0.elim
  | ok es0 Sz =>
  rw [q0] at f0
  have nB : ¬ B A := fun q => by obtain ⟨u, e⟩ := I0.btr A q; rw [hA] at e; cases e
  have IA : GInv K (Bpl B A) φ0 S0 (upd H0 A (.lst [])) := I0.plus hA
  have b2 : ∀ a, H0 a ≠ none → Bpl B A a → B a := fun b hb h => by
    rcases h with h | h
    · exact h
    · exact absurd (by rw [h]; exact hA) hb
  -- what is known at a turn
  refine ⟨fun i k H' => i ≤ ds.length ∧ k = ds.length - i ∧ ∃ φ1 S1 us acc rest, GInv K (Bpl B A) φ1 S1 H' ∧ Ext φ0 S0 H0 φ1 S1 H' ∧ RepE K (Bpl B A) φ1 S1 H' (wipeE ρ vs) (wipe σ vs) ∧ H' A = some (.lst us) ∧ us.length ≤ i ∧ RepL K (Blk (Bpl B A) φ1 S1) H' acc us ∧ lcGo t mt me (wipeE ρ vs) (ds.drop i) S1 = .ok rest Sz ∧ acc ++ rest = es0,
    ⟨_, Nat.zero_le _, rfl, φ0, S0, [], [], es0, IA, Ext.new I0 hA, (E0.wipes vs).plus I0 hA, upd_same, Nat.le_refl _, rfl, q0, rfl⟩, ?_⟩
  rintro i k H' ⟨hi, rfl, φ1, S1, us, acc, rs, I1, X1, E1, hA1, hul, l1, g1, ea⟩
  obtain ⟨hgo, hstop, hyld⟩ := r φ1 S1 H' (Bpl B A) I1 (X1.kpB (fun _ h => .inl h) b2 I0)
  by_cases hlt : i < ds.length
  · refine .inr ⟨hgo i hlt, fun H2 => i + 1 ≤ ds.length ∧ ∃ φ1 S1 us acc rest, GInv K (Bpl B A) φ1 S1 H2 ∧ Ext φ0 S0 H0 φ1 S1 H2 ∧ RepE K (Bpl B A) φ1 S1 H2 (wipeE ρ vs) (wipe σ vs) ∧ H2 A = some (.lst us) ∧ us.length ≤ i + 1 ∧ RepL K (Blk (Bpl B A) φ1 S1) H2 acc us ∧ lcGo t mt me (wipeE ρ vs) (ds.drop (i + 1)) S1 = .ok rest Sz ∧ acc ++ rest = es0, fun H2 ⟨h1, h2⟩ => ⟨ds.length - (i + 1), by omega, h1, rfl, h2⟩, fun x H2 y => ?_⟩
    have hd : ds[i]? = some ds[i] := by simp [hlt]
    obtain ⟨I2, X2, r2⟩ := hyld i x H2 ds[i] hd y
    rw [List.drop_eq_getElem_cons hlt] at g1
    unfold lcGo at g1
    split at g1
    case h_1 => cases g1
    rename_i ρ2 q2
    have hA2 := (X2.old A _ hA1 fun q => I1.blk A q (.inr rfl)).1
    refine tg_sim (E1.ext X2 I1) (d := .dat ds[i]) r2 q2 fun ws E3 => ⟨by rw [wipe_stOf ht, wipe_wipe], Bpl B A, φ1, S1, ρ2, I2, E3, ?_⟩
    split at g1
    case h_2 => cases g1
    rename_i b S3 q3
    rw [q3]
    intro φ3 b' H3 I3 X3 rb
    have rb : b' = b := rb
    subst rb
    have hA3 := (X3.old A _ hA2 fun q => I2.blk A q (.inr rfl)).1
    have Xa := X1.trans (X2.trans X3)
    cases b' with
    | false =>
      exact ⟨hlt, φ3, S3, us, acc, rs, I3, Xa, (E1.ext X2 I1).ext X3 I2, hA3, Nat.le_succ_of_le hul, X3.repL I2 (X2.repL I1 l1), g1, ea⟩
    | true =>
      rw [if_pos rfl]
      rw [if_pos rfl] at g1
      refine ⟨Bpl B A, φ3, S3, ρ2, I3, E3.ext X3 I2, ?_⟩
      split at g1
      case h_2 => cases g1
      rename_i e S4 q4
      rw [q4]
      intro φ4 v4 H4 I4 X4 r4
      have hA4 := (X4.old A _ hA3 fun q => I3.blk A q (.inr rfl)).1
      split at g1
      case h_2 => cases g1
      rename_i es S5 q5
      cases g1
      have l4 : RepL K (Blk (Bpl B A) φ4 S4) H4 (acc ++ [e]) (us ++ [v4]) := (X4.repL I3 (X3.repL I2 (X2.repL I1 l1))).snoc r4
      refine ⟨us, hA4, by omega, hlt, φ4, S4, us ++ [v4], acc ++ [e], es, I4.plusPut hA4, ?_, (((E1.ext X2 I1).ext X3 I2).ext X4 I3).plusPut hA4, upd_same, by simp; omega, RepL.kp (Kp.plusPut hA4) _ _ l4, q5, by rw [← ea]; simp⟩
      exact ⟨fun b o h nb => by
        obtain ⟨h1, h2⟩ := (Xa.trans X4).old b o h nb
        exact ⟨by rw [upd_ne (fun e => by subst e; rw [hA] at h; cases h)]; exact h1, h2⟩, (Xa.trans X4).ids⟩
  · have e : i = ds.length := by omega
    subst e
    rw [List.drop_length] at g1
    cases g1
    rw [List.append_nil] at ea
    subst ea
    exact .inl ⟨hstop, Fin.done f0 I1 X1 hA nB hA1 l1⟩
theorem f_lc {cl : Bool} {me : FE} {elt tg iter : Expr} {ifs : List Expr} {scope : Scope} {own : List (Str × Nat)} (hc : X.calm = true) (hN : X.N.Nodup) (hi : PI X tg iter (rdI X.K W mi)) (ok : BlkOk X.N X.env.scope scope own)
    (hg : ∀ (s : Shared) (H : Hp) (C : Addr) (cl : List (Str × Addr)) (fp : List Addr), PG (X.blk s H scope (compEnvC scope cl C X.env) fp) tg (tgR X.K t)) (ht : ∀ (s : Shared) (H : Hp) (C : Addr) (cl : List (Str × Addr)) (fp : List Addr), PTs (X.blk s H scope (compEnvC scope cl C X.env) fp) ifs (rdT X.K wNo mt))
    (he : ∀ (s : Shared) (H : Hp) (C : Addr) (cl : List (Str × Addr)) (fp : List Addr), PE (X.blk s H scope (compEnvC scope cl C X.env) fp) elt (rdE X.K wNo me)) (hs : ∀ x, foldedSetIterable iter X.env x = pure x := by intro _; rfl) (hv : ∀ i ∈ tgS t, i ∈ own.map (·.2) := by decide) :
    PE X (.ListComp elt [⟨tg, iter, ifs, 0⟩] scope pos) (rdE X.K W (mLc cl mi t mt me (own.map (·.2)))) := PE_imp (pe_lc hc hN hi ok hg ht he hs) fun σ H Q h => sim_lc hv h
theorem fs_setLc {i : Nat} {y : Str} {py : Pos} {cl : Bool} {me : FE} {elt tg iter : Expr} {ifs : List Expr} {scope : Scope} {own : List (Str × Nat)} {spos : Pos} (hc : X.calm = true) (hN : X.N.Nodup) (hy : X.N[i]? = some y) (hyl : X.env.scope.names.lookup y = some .local)
    (hsw : swapsWith (.ListComp elt [⟨tg, iter, ifs, 0⟩] scope pos) (some (.Name y py)) spos.line X.env = pure true) (hi : PI X tg iter (rdI X.K W mi)) (ok : BlkOk X.N X.env.scope scope own)
    (hg : ∀ (s : Shared) (H : Hp) (C : Addr) (cl : List (Str × Addr)) (fp : List Addr), PG (X.blk s H scope (compEnvC scope cl C X.env) fp) tg (tgR X.K t)) (ht : ∀ (s : Shared) (H : Hp) (C : Addr) (cl : List (Str × Addr)) (fp : List Addr), PTs (X.blk s H scope (compEnvC scope cl C X.env) fp) ifs (rdT X.K wNo mt))
    (he : ∀ (s : Shared) (H : Hp) (C : Addr) (cl : List (Str × Addr)) (fp : List Addr), PE (X.blk s H scope (compEnvC scope cl C X.env) fp) elt (rdE X.K wNo me)) (hs : ∀ x, foldedSetIterable iter X.env x = pure x := by intro _; rfl) (hv : ∀ i ∈ tgS t, i ∈ own.map (·.2) := by decide) :
    PS X (.Assign [.Name y py] (.ListComp elt [⟨tg, iter, ifs, 0⟩] scope pos) spos) (rdS X.K W (mAsg (mLc cl mi t mt me (own.map (·.2))) (.nm i))) := PS_imp (ps_setLc hc hN hy hyl hsw hi ok hg ht he hs) fun D σ H h => by
  obtain ⟨B, φ, S, ρ, I, E, f⟩ := h
  refine sim_lc hv (fins_bind I E f fun φ' S' d v H1 I1 X1 E1 r f1 => ?_)
  exact f1 φ' _ H1 I1 Ext.refl (E1.set r i)
end
end PH

namespace PH
open PySem PySem.Spec PyProof.Rows L2
section
variable {X : Cx} {W : WX} {e a b c o i : Expr} {es rest : List Expr} {pos p q p2 tpos apos cpos : Pos} {x y z : Str} {K : PySem.W.Frag} {ma mb mc mo mx : FE} {mt mt1 mu : FT} {mas : FA} {mi mj : FI} {B : Addr → Prop} {φ φ' : List Addr} {S S' : Sto} {H H' : Hp} {σ : L2.St} {Q : VK} {m n : FS} {st : Stmt} {sts : List Stmt} {D : Ends} {t t1 : Tg}
def lcGo2 (t : Tg) (mt : FT) (mj : FI) (t1 : Tg) (mt1 : FT) (me : FE) (vs1 : List Nat) (ρ : Ev) : List PH.D → Sto → Res (List PH.D)
  | [], S => .ok [] S
  | d :: r, S => match tgF t (.dat d) ρ with
    | none => .stuck
    | some ρ1 => match mt ρ1 S with
      | .ok b S1 => if b = true then (match mj ρ1 S1 with
          | .ok ds1 S2 => (match lcGo t1 mt1 me (wipeE ρ1 vs1) ds1 S2 with
            | .ok xs S3 => (match lcGo2 t mt mj t1 mt1 me vs1 ρ r S3 with
              | .ok ys S4 => .ok (xs ++ ys) S4
              | _ => .stuck)
            | _ => .stuck)
          | _ => .stuck) else lcGo2 t mt mj t1 mt1 me vs1 ρ r S1
      | _ => .stuck
def mLc2 (cl : Bool) (mi : FI) (t : Tg) (mt : FT) (mj : FI) (t1 : Tg) (mt1 : FT) (me : FE) (vs vs1 : List Nat) : FE := fun ρ S => (mi ρ S).bind fun ds S1 => match lcGo2 t mt mj t1 mt1 me vs1 (wipeE ρ vs) ds S1 with
  | .ok es S2 => if es.length ≤ sizeLine then newL cl es S2 else .stuck
  | _ => .stuck
theorem sim_lc2 {cl : Bool} {me : FE} {vs vs1 : List Nat} (ht : ∀ i ∈ tgS t, i ∈ vs) (ht1 : ∀ i ∈ tgS t1, i ∈ vs1) (h : rdE K W (mLc2 cl mi t mt mj t1 mt1 me vs vs1) σ H Q) : tLc2 (rdI K W mi) (tgR K t) (rdT K wNo mt) (rdI K wNo mj) (tgR K t1) (rdT K wNo mt1) (rdE K wNo me) vs vs1 σ H Q := by
  refine rd_bind (k := fun ds ρ S1 => match lcGo2 t mt mj t1 mt1 me vs1 (wipeE ρ vs) ds S1 with | .ok es S2 => if es.length ≤ sizeLine then newL cl es S2 else .stuck | _ => .stuck) h fun B φ0 S0 ρ ds J H0 I0 E0 r f0 => ?_
  intro A hA
  cases q0 : lcGo2 t mt mj t1 mt1 me vs1 (wipeE ρ vs) ds S0 with
  | stuck => rw [q0] at f0; exact f0.elim
  | err e S' => rw [q0] at f0; exact f0.elim
  | ok es0 Sz =>
  rw [q0] at f0
  dsimp only at f0
  split at f0
  case isFalse => exact f0.elim
  rename_i hsz
  have nB : ¬ B A := fun q => by obtain ⟨u, e⟩ := I0.btr A q; rw [hA] at e; cases e
  have IA : GInv K (Bpl B A) φ0 S0 (upd H0 A (.lst [])) := I0.plus hA
  have b2 : ∀ a, H0 a ≠ none → Bpl B A a → B a := fun b hb h => by
    rcases h with h | h
    · exact h
    · exact absurd (by rw [h]; exact hA) hb
  refine ⟨fun i k H' => i ≤ ds.length ∧ k = ds.length - i ∧ ∃ φ1 S1 us acc rest, GInv K (Bpl B A) φ1 S1 H' ∧ Ext φ0 S0 H0 φ1 S1 H' ∧ RepE K (Bpl B A) φ1 S1 H' (wipeE ρ vs) (wipe σ vs) ∧ H' A = some (.lst us) ∧ RepL K (Blk (Bpl B A) φ1 S1) H' acc us ∧ lcGo2 t mt mj t1 mt1 me vs1 (wipeE ρ vs) (ds.drop i) S1 = .ok rest Sz ∧ acc ++ rest = es0,
    ⟨_, Nat.zero_le _, rfl, φ0, S0, [], [], es0, IA, Ext.new I0 hA, (E0.wipes vs).plus I0 hA, upd_same, rfl, q0, rfl⟩, ?_⟩
  rintro i k H' ⟨hi, rfl, φ1, S1, us, acc, rs, I1, X1, E1, hA1, l1, g1, ea⟩
  obtain ⟨hgo, hstop, hyld⟩ := r φ1 S1 H' (Bpl B A) I1 (X1.kpB (fun _ h => .inl h) b2 I0)
  by_cases hlt : i < ds.length
  · refine .inr ⟨hgo i hlt, fun H2 => i + 1 ≤ ds.length ∧ ∃ φ1 S1 us acc rest, GInv K (Bpl B A) φ1 S1 H2 ∧ Ext φ0 S0 H0 φ1 S1 H2 ∧ RepE K (Bpl B A) φ1 S1 H2 (wipeE ρ vs) (wipe σ vs) ∧ H2 A = some (.lst us) ∧ RepL K (Blk (Bpl B A) φ1 S1) H2 acc us ∧ lcGo2 t mt mj t1 mt1 me vs1 (wipeE ρ vs) (ds.drop (i + 1)) S1 = .ok rest Sz ∧ acc ++ rest = es0, fun H2 ⟨h1, h2⟩ => ⟨ds.length - (i + 1), by omega, h1, rfl, h2⟩, fun x H2 y => ?_⟩
    have hd : ds[i]? = some ds[i] := by simp [hlt]
    obtain ⟨I2, X2, r2⟩ := hyld i x H2 ds[i] hd y
    rw [List.drop_eq_getElem_cons hlt] at g1
    unfold lcGo2 at g1
    split at g1
    case h_1 => cases g1
    rename_i ρ2 q2
    have hA2 := (X2.old A _ hA1 fun q => I1.blk A q (.inr rfl)).1
    refine tg_sim (E1.ext X2 I1) (d := .dat ds[i]) r2 q2 fun ws E3 => ⟨by rw [wipe_stOf ht, wipe_wipe], Bpl B A, φ1, S1, ρ2, I2, E3, ?_⟩
    split at g1
    case h_2 => cases g1
    rename_i b S3 q3
    rw [q3]
    intro φ3 b' H3 I3 X3 rb
    have rb : b' = b := rb
    subst rb
    have hA3 := (X3.old A _ hA2 fun q => I2.blk A q (.inr rfl)).1
    have Xa := X1.trans (X2.trans X3)
    cases b' with
    | false =>
      exact ⟨hlt, φ3, S3, us, acc, rs, I3, Xa, (E1.ext X2 I1).ext X3 I2, hA3, X3.repL I2 (X2.repL I1 l1), g1, ea⟩
    | true =>
      rw [if_pos rfl]
      rw [if_pos rfl] at g1
      refine ⟨Bpl B A, φ3, S3, ρ2, I3, E3.ext X3 I2, ?_⟩
      split at g1
      case h_2 => cases g1
      rename_i ds1 S4 q4
      rw [q4]
      intro φ4 J1 H4 I4 X4 rJ
      split at g1
      case h_2 => cases g1
      rename_i xs S5 q5
      split at g1
      case h_2 => cases g1
      rename_i ys S6 q6
      cases g1
      have hA4 := (X4.old A _ hA3 fun q => I3.blk A q (.inr rfl)).1
      have Xb := Xa.trans X4
      have Eo := (((E1.ext X2 I1).ext X3 I2).ext X4 I3)
      have Ei := ((E3.ext X3 I2).ext X4 I3)
      refine ⟨fun j k H' => j ≤ ds1.length ∧ k = ds1.length - j ∧ ∃ φ5 S5' us acc rest, GInv K (Bpl B A) φ5 S5' H' ∧ Kp (Blk (Bpl B A) φ4 S4) H4 (Blk (Bpl B A) φ5 S5') H' ∧ Ext φ0 S0 H0 φ5 S5' H' ∧ RepE K (Bpl B A) φ5 S5' H' (wipeE ρ vs) (wipe σ vs) ∧ RepE K (Bpl B A) φ5 S5' H' (wipeE ρ2 vs1) (wipe (stOf t x ws (wipe σ vs)) vs1) ∧ H' A = some (.lst us) ∧ RepL K (Blk (Bpl B A) φ5 S5') H' acc us ∧ lcGo t1 mt1 me (wipeE ρ2 vs1) (ds1.drop j) S5' = .ok rest S5 ∧ acc ++ rest ++ ys = es0,
        ⟨_, Nat.zero_le _, rfl, φ4, S4, us, acc, xs, I4, Ext.refl.kp I4, Xb, Eo, Ei.wipes vs1, hA4, X4.repL I3 (X3.repL I2 (X2.repL I1 l1)), q5, by rw [← ea]; simp⟩, ?_⟩
      rintro j k H5 ⟨hj, rfl, φ5, S5', us5, acc5, rs5, I5, X5, X5', E5, E5', hA5, l5, g5, ea5⟩
      obtain ⟨hgo1, hstop1, hyld1⟩ := rJ φ5 S5' H5 (Bpl B A) I5 X5
      by_cases hlt1 : j < ds1.length
      · refine .inr ⟨hgo1 j hlt1, fun H6 => j + 1 ≤ ds1.length ∧ ∃ φ5 S5' us acc rest, GInv K (Bpl B A) φ5 S5' H6 ∧ Kp (Blk (Bpl B A) φ4 S4) H4 (Blk (Bpl B A) φ5 S5') H6 ∧ Ext φ0 S0 H0 φ5 S5' H6 ∧ RepE K (Bpl B A) φ5 S5' H6 (wipeE ρ vs) (wipe σ vs) ∧ RepE K (Bpl B A) φ5 S5' H6 (wipeE ρ2 vs1) (wipe (stOf t x ws (wipe σ vs)) vs1) ∧ H6 A = some (.lst us) ∧ RepL K (Blk (Bpl B A) φ5 S5') H6 acc us ∧ lcGo t1 mt1 me (wipeE ρ2 vs1) (ds1.drop (j + 1)) S5' = .ok rest S5 ∧ acc ++ rest ++ ys = es0, fun H6 ⟨h1, h2⟩ => ⟨ds1.length - (j + 1), by omega, h1, rfl, h2⟩, fun x1 H6 y1 => ?_⟩
        have hd1 : ds1[j]? = some ds1[j] := by simp [hlt1]
        obtain ⟨I6, X6, r6⟩ := hyld1 j x1 H6 ds1[j] hd1 y1
        rw [List.drop_eq_getElem_cons hlt1] at g5
        unfold lcGo at g5
        split at g5
        case h_1 => cases g5
        rename_i ρ7 q7
        have hA6 := (X6.old A _ hA5 fun q => I5.blk A q (.inr rfl)).1
        refine tg_sim (E5'.ext X6 I5) (d := .dat ds1[j]) r6 q7 fun ws1 E7 => ⟨by rw [wipe_stOf ht1, wipe_wipe], Bpl B A, φ5, S5', ρ7, I6, E7, ?_⟩
        split at g5
        case h_2 => cases g5
        rename_i b8 S8 q8
        rw [q8]
        intro φ8 b8' H8 I8 X8 rb8
        have rb8 : b8' = b8 := rb8
        subst rb8
        have hA8 := (X8.old A _ hA6 fun q => I6.blk A q (.inr rfl)).1
        have Xc := X6.trans X8
        cases b8' with
        | false =>
          exact ⟨hlt1, φ8, S8, us5, acc5, rs5, I8, X5.trans (Xc.kp I5), X5'.trans Xc, (E5.ext X6 I5).ext X8 I6, (E5'.ext X6 I5).ext X8 I6, hA8, X8.repL I6 (X6.repL I5 l5), g5, ea5⟩
        | true =>
          rw [if_pos rfl]
          rw [if_pos rfl] at g5
          refine ⟨Bpl B A, φ8, S8, ρ7, I8, E7.ext X8 I6, ?_⟩
          split at g5
          case h_2 => cases g5
          rename_i e9 S9 q9
          rw [q9]
          intro φ9 v9 H9 I9 X9 r9
          have hA9 := (X9.old A _ hA8 fun q => I8.blk A q (.inr rfl)).1
          split at g5
          case h_2 => cases g5
          rename_i es10 S10 q10
          cases g5
          have l9 : RepL K (Blk (Bpl B A) φ9 S9) H9 (acc5 ++ [e9]) (us5 ++ [v9]) := (X9.repL I8 (X8.repL I6 (X6.repL I5 l5))).snoc r9
          have hus : us5.length < sizeLine := by
            have := l5.len
            have h2 := congrArg List.length ea5
            simp at h2
            omega
          have up : ∀ {φz Sz Hz}, Hz A = none → Ext φz Sz Hz φ9 S9 H9 → Ext φz Sz Hz φ9 S9 (upd H9 A (.lst (us5 ++ [v9]))) := fun {φz Sz Hz} hz Xz => ⟨fun b o h nb => by
            obtain ⟨h1, h2⟩ := Xz.old b o h nb
            exact ⟨by rw [upd_ne (fun e => by subst e; rw [hz] at h; cases h)]; exact h1, h2⟩, Xz.ids⟩
          refine ⟨us5, hA9, hus, hlt1, φ9, S9, us5 ++ [v9], acc5 ++ [e9], es10, I9.plusPut hA9, (X5.trans ((Xc.trans X9).kp I5)).trans (Kp.plusPut hA9), up hA ((X5'.trans Xc).trans X9), (((E5.ext X6 I5).ext X8 I6).ext X9 I8).plusPut hA9, (((E5'.ext X6 I5).ext X8 I6).ext X9 I8).plusPut hA9, upd_same, RepL.kp (Kp.plusPut hA9) _ _ l9, q10, by rw [← ea5]; simp⟩
      · have e : j = ds1.length := by omega
        subst e
        rw [List.drop_length] at g5
        cases g5
        rw [List.append_nil] at ea5
        exact .inl ⟨hstop1, hlt, φ5, S5, us5, acc5, ys, I5, X5', E5, hA5, l5, q6, ea5⟩
  · have e : i = ds.length := by omega
    subst e
    rw [List.drop_length] at g1
    cases g1
    rw [List.append_nil] at ea
    subst ea
    exact .inl ⟨hstop, Fin.done f0 I1 X1 hA nB hA1 l1⟩
theorem f_lc2 {cl : Bool} {me : FE} {elt tg iter tg1 iter1 : Expr} {ifs ifs1 : List Expr} {scope : Scope} {own : List (Str × Nat)} {vs1 : List Nat} (hc : X.calm = true) (hN : X.N.Nodup) (hi : PI X tg iter (rdI X.K W mi)) (ok : BlkOk X.N X.env.scope scope own) (hv : ∀ i ∈ vs1, i ∈ own.map (·.2))
    (hg : ∀ (s : Shared) (H : Hp) (C : Addr) (cl : List (Str × Addr)) (fp : List Addr), PG (X.blk s H scope (compEnvC scope cl C X.env) fp) tg (tgR X.K t)) (ht : ∀ (s : Shared) (H : Hp) (C : Addr) (cl : List (Str × Addr)) (fp : List Addr), PTs (X.blk s H scope (compEnvC scope cl C X.env) fp) ifs (rdT X.K wNo mt))
    (hi1 : ∀ (s : Shared) (H : Hp) (C : Addr) (cl : List (Str × Addr)) (fp : List Addr), PI (X.blk s H scope (compEnvC scope cl C X.env) fp) tg1 iter1 (rdI X.K wNo mj))
    (hg1 : ∀ (s : Shared) (H : Hp) (C : Addr) (cl : List (Str × Addr)) (fp : List Addr), PG (X.blk s H scope (compEnvC scope cl C X.env) fp) tg1 (tgR X.K t1)) (ht1 : ∀ (s : Shared) (H : Hp) (C : Addr) (cl : List (Str × Addr)) (fp : List Addr), PTs (X.blk s H scope (compEnvC scope cl C X.env) fp) ifs1 (rdT X.K wNo mt1))
    (he : ∀ (s : Shared) (H : Hp) (C : Addr) (cl : List (Str × Addr)) (fp : List Addr), PE (X.blk s H scope (compEnvC scope cl C X.env) fp) elt (rdE X.K wNo me)) (hs : ∀ x, foldedSetIterable iter X.env x = pure x := by intro _; rfl) (hs1 : ∀ env x, foldedSetIterable iter1 env x = pure x := by intro _ _; rfl)
    (hv0 : ∀ i ∈ tgS t, i ∈ own.map (·.2) := by decide) (hv1 : ∀ i ∈ tgS t1, i ∈ vs1 := by decide) :
    PE X (.ListComp elt [⟨tg, iter, ifs, 0⟩, ⟨tg1, iter1, ifs1, 0⟩] scope pos) (rdE X.K W (mLc2 cl mi t mt mj t1 mt1 me (own.map (·.2)) vs1)) := PE_imp (pe_lc2 hc hN hi ok hv hg ht hi1 hg1 ht1 he hs hs1) fun σ H Q h => sim_lc2 hv0 hv1 h
theorem fs_setLc2 {i : Nat} {y : Str} {py : Pos} {cl : Bool} {me : FE} {elt tg iter tg1 iter1 : Expr} {ifs ifs1 : List Expr} {scope : Scope} {own : List (Str × Nat)} {vs1 : List Nat} {spos : Pos} (hc : X.calm = true) (hN : X.N.Nodup) (hy : X.N[i]? = some y) (hyl : X.env.scope.names.lookup y = some .local)
    (hsw : swapsWith (.ListComp elt [⟨tg, iter, ifs, 0⟩, ⟨tg1, iter1, ifs1, 0⟩] scope pos) (some (.Name y py)) spos.line X.env = pure true) (hi : PI X tg iter (rdI X.K W mi)) (ok : BlkOk X.N X.env.scope scope own) (hv : ∀ i ∈ vs1, i ∈ own.map (·.2))
    (hg : ∀ (s : Shared) (H : Hp) (C : Addr) (cl : List (Str × Addr)) (fp : List Addr), PG (X.blk s H scope (compEnvC scope cl C X.env) fp) tg (tgR X.K t)) (ht : ∀ (s : Shared) (H : Hp) (C : Addr) (cl : List (Str × Addr)) (fp : List Addr), PTs (X.blk s H scope (compEnvC scope cl C X.env) fp) ifs (rdT X.K wNo mt))
    (hi1 : ∀ (s : Shared) (H : Hp) (C : Addr) (cl : List (Str × Addr)) (fp : List Addr), PI (X.blk s H scope (compEnvC scope cl C X.env) fp) tg1 iter1 (rdI X.K wNo mj))
    (hg1 : ∀ (s : Shared) (H : Hp) (C : Addr) (cl : List (Str × Addr)) (fp : List Addr), PG (X.blk s H scope (compEnvC scope cl C X.env) fp) tg1 (tgR X.K t1)) (ht1 : ∀ (s : Shared) (H : Hp) (C : Addr) (cl : List (Str × Addr)) (fp : List Addr), PTs (X.blk s H scope (compEnvC scope cl C X.env) fp) ifs1 (rdT X.K wNo mt1))
    (he : ∀ (s : Shared) (H : Hp) (C : Addr) (cl : List (Str × Addr)) (fp : List Addr), PE (X.blk s H scope (compEnvC scope cl C X.env) fp) elt (rdE X.K wNo me)) (hs : ∀ x, foldedSetIterable iter X.env x = pure x := by intro _; rfl) (hs1 : ∀ env x, foldedSetIterable iter1 env x = pure x := by intro _ _; rfl)
    (hv0 : ∀ i ∈ tgS t, i ∈ own.map (·.2) := by decide) (hv1 : ∀ i ∈ tgS t1, i ∈ vs1 := by decide) :
    PS X (.Assign [.Name y py] (.ListComp elt [⟨tg, iter, ifs, 0⟩, ⟨tg1, iter1, ifs1, 0⟩] scope pos) spos) (rdS X.K W (mAsg (mLc2 cl mi t mt mj t1 mt1 me (own.map (·.2)) vs1) (.nm i))) := PS_imp (ps_setLc2 hc hN hy hyl hsw hi ok hv hg ht hi1 hg1 ht1 he hs hs1) fun D σ H h => by
  obtain ⟨B, φ, S, ρ, I, E, f⟩ := h
  refine sim_lc2 hv0 hv1 (fins_bind I E f fun φ' S' d v H1 I1 X1 E1 r f1 => ?_)
  exact f1 φ' _ H1 I1 Ext.refl (E1.set r i)
def fApp (x y : Vl) (S : Sto) : Res Vl := match x, y with
  | .cel n, .dat d => (match S[n]? with
    | some (.lst ds) => if ds.length < sizeLine then .ok (.dat .non) (S.set n (.lst (ds ++ [d]))) else .stuck
    | _ => .stuck)
  | _, _ => .stuck
theorem cell_put {n : Nat} {ds ds' : List PH.D} {v v' : L2.V} {d' : Vl} {vs vs' : List L2.V} {a : Addr} (I : GInv K B φ S H) (hn : S[n]? = some (.lst ds)) (ha : φ[n]? = some a) (l : RepL K (Blk B φ S) H ds' vs') (r : RepV K B φ S H d' v')
    (f : Fin K W σ (RepV K) B φ S H (.ok d' (S.set n (.lst ds'))) Q) : Q v' (upd H a (.lst vs')) := by
  have X1 := Ext.put (H := H) (o := .lst vs') (x := .lst ds') hn (by simp) ha (by simp)
  have I1 : GInv K B φ (S.set n (.lst ds')) (upd H a (.lst vs')) := I.put hn (by simp) ha (by simp) ⟨vs', upd_same, X1.repL I l⟩
  exact f φ v' _ I1 X1 (r.ext X1 I)
theorem mt_app : ∀ {x : L2.V} {y : L2.V} {d e : Vl}, GInv K B φ S H → RepV K B φ S H d x → RepV K B φ S H e y → Fin K W σ (RepV K) B φ S H (fApp d e S) Q → cAppend x [y] H Q := fun {x y d e} I r1 r2 f => by
  unfold fApp at f
  split at f
  · rename_i n d
    obtain ⟨a, rfl, h1⟩ := r1
    split at f
    · rename_i ds q
      obtain ⟨vs, h2, l⟩ := I.ok n _ a q h1
      split at f
      · rename_i hl
        exact ⟨vs, h2, by rw [l.len]; exact hl, cell_put (v := .non) (v' := .non) (d' := .dat .non) (vs := vs) I q h1 (l.snoc r2) rfl f⟩
      · exact f.elim
    · exact f.elim
  · exact f.elim
theorem app_ty {d e : Vl} {v : L2.V} (I : GInv K B φ S H) (r : RepV K B φ S H d v) (h : ∃ ds, seqL S d = some ds) : tyV K "list" v H := by
  obtain ⟨ds, q⟩ := h
  obtain ⟨a, vs, rfl, h1, l⟩ := seqL_ok I q r
  exact .inl ⟨rfl, vs, SqL.of h1⟩
def mApp (a b : FE) : FE := fun ρ S => (a ρ S).bind fun x S1 => match seqL S1 x with
  | some _ => (b ρ S1).bind fun y S2 => fApp x y S2
  | none => .stuck
theorem f_app (ha : PE X a (rdE X.K W ma)) (hb : PE X b (rdE X.K W mb)) (hs : starEach [b] X.env = (false, eval b X.env) :: starEach [] X.env := by rfl) (hbase : attributeBase a "append" X.env (eval a X.env) = eval a X.env := by rfl) (hline : (apos.endLine == cpos.line) = true := by rfl)
    (hfew : ((backTo cpos (starEach [b] X.env)).all (fun x => !x.1) && (backToKw cpos (keywordEach [] X.env)).all (fun x => x.1.isSome)
      && decide ([b].length + ([] : List Keyword).length + (if ([] : List Keyword).isEmpty then 0 else 1) < 30)) = true := by rfl)
    (hpl : (backTo cpos (starEach ([] : List Expr) X.env)).any (·.1) = false := by rfl) : PE X (.Call (.Attribute a "append" apos) [b] [] cpos) (rdE X.K W (mApp ma mb)) :=
  PE_imp (pe_bm PySem.F.plainAttrs_list PySem.F.slot_list_append PySem.F.type_list_append mt_appendC ha (pa_cons hb pa_nil hs) hbase hfew hline hs hpl) fun σ H Q h =>
    rd_bind (k := fun x ρ S1 => match seqL S1 x with | some _ => (mb ρ S1).bind fun y S2 => fApp x y S2 | none => .stuck) h fun B φ S ρ d v H1 I E r f => by
      split at f
      · rename_i ds q
        exact ⟨app_ty (e := d) I r ⟨ds, q⟩, fin_bind I E f fun φ' S' d2 v2 H2 I2 X2 E2 r2 f2 => mt_app I2 (r.ext X2 I) r2 f2⟩
      · exact f.elim
def fPop (x : Vl) (S : Sto) : Res Vl := match x with
  | .cel n => (match S[n]? with
    | some (.lst ds) => (match ds[ds.length - 1]? with
      | some d => .ok (.dat d) (S.set n (.lst ds.dropLast))
      | none => .stuck)
    | _ => .stuck)
  | _ => .stuck
theorem RepL.dropLast {Bk : Addr → Prop} {ds : List PH.D} {vs : List L2.V} (h : RepL K Bk H ds vs) : RepL K Bk H ds.dropLast vs.dropLast := by
  rw [List.dropLast_eq_take, List.dropLast_eq_take, h.len]
  exact h.take _
theorem f_pop (ha : PE X a (rdE X.K W ma)) (hbase : attributeBase a "pop" X.env (eval a X.env) = eval a X.env := by rfl) (hline : (apos.endLine == cpos.line) = true := by rfl) : PE X (.Call (.Attribute a "pop" apos) [] [] cpos) (rdE X.K W (m1 fPop ma)) :=
  PE_imp (pe_bm0 PySem.F.plainAttrs_list PySem.F.slot_list_pop PySem.F.type_list_pop mt_popC ha hbase hline) fun σ H Q h =>
    rd_bind (k := fun x ρ S1 => fPop x S1) h fun B φ S ρ d v H1 I E r f => by
      unfold fPop at f
      split at f
      · rename_i n
        obtain ⟨a, rfl, h1⟩ := r
        split at f
        · rename_i ds q
          obtain ⟨vs, h2, l⟩ := I.ok n _ a q h1
          split at f
          · rename_i d qd
            obtain ⟨v', h3, h4⟩ := l.get qd
            exact ⟨.inl ⟨rfl, vs, SqL.of h2⟩, vs, v', h2, by rw [l.len]; exact h3, cell_put (v := .non) (d' := .dat d) (vs := vs) I q h1 l.dropLast h4 f⟩
          · exact f.elim
        · exact f.elim
      · exact f.elim
/-- xs[k] = v -/
def setC (x : Vl) (k : Int) (d : PH.D) (S : Sto) : Option Sto := match x with
  | .cel n => (match S[n]? with
    | some (.lst ds) => if 0 ≤ k ∧ k.toNat < ds.length then some (S.set n (.lst (ds.set k.toNat d))) else none
    | _ => none)
  | _ => none
theorem setC_ok {x : Vl} {k : Int} {d : PH.D} {v u : L2.V} {Qh : Hp → Prop} (I : GInv K B φ S H) (r : RepV K B φ S H x v) (rd' : Rep K (Blk B φ S) H d u) (h : setC x k d S = some S') (q : ∀ H', GInv K B φ S' H' → Ext φ S H φ S' H' → Qh H') : cSetL v (.int k) u H Qh := by
  unfold setC at h
  split at h
  · rename_i n
    obtain ⟨a, rfl, h1⟩ := r
    split at h
    · rename_i ds q1
      split at h
      · rename_i hk
        cases h
        obtain ⟨vs, h2, l⟩ := I.ok n _ a q1 h1
        have X1 := Ext.put (H := H) (o := .lst (vs.set k.toNat u)) (x := .lst (ds.set k.toNat d)) q1 (by simp) h1 (by simp)
        exact ⟨vs, h2, hk.1, by rw [l.len]; exact hk.2, q _ (I.put q1 (by simp) h1 (by simp) ⟨_, upd_same, X1.repL I (l.set rd' _)⟩) X1⟩
      · cases h
    · cases h
  · cases h
def mSetI (a o i : FE) : FS := fun ρ S => (a ρ S).toS ρ fun v S1 => (o ρ S1).toS ρ fun x S2 => (i ρ S2).toS ρ fun k S3 => match v, k with
  | .dat d, .dat (.int k) => (match setC x k d S3 with
    | some S4 => .next ρ S4
    | none => .stuck)
  | _, _ => .stuck
theorem fs_setI (ha : PE X a (rdE X.K W ma)) (ho : PE X o (rdE X.K W mo)) (hi : PE X i (rdE X.K W mx)) (hs : swapsWithSole [.Subscript o i tpos] a pos.line X.env = pure false := by rfl) (hw : swappedStores [.Subscript o i tpos] a X.env = pure none := by rfl)
    (h1 : (assignEach [.Subscript o i tpos] X.env).map (·.2) = [assign (.Subscript o i tpos) X.env] := by rfl)
    (hz : ∀ v, assign (.Subscript o i tpos) X.env v = (do
      let ov ← holding [v] (eval o X.env)
      let iv ← holding [v, ov] (eval i X.env)
      standAt tpos
      holding [v, ov, iv] (setItem ov iv v)
      release [v, ov, iv] []) := by intro _; rfl) : PS X (.Assign [.Subscript o i tpos] a pos) (rdS X.K W (mSetI ma mo mx)) := PS_imp (ps_asg ha (pg_sub ho hi set_listC hz) hs hw h1) fun D σ H h => by
  obtain ⟨B, φ, S, ρ, I, E, f⟩ := h
  refine fins_bind I E f fun φ1 S1 d1 v1 H1 I1 X1 E1 r1 f1 => fins_bind I1 E1 f1 fun φ2 S2 d2 v2 H2 I2 X2 E2 r2 f2 => fins_bind I2 E2 f2 fun φ3 S3 d3 v3 H3 I3 X3 E3 r3 f3 => ?_
  split at f3
  · rename_i d k
    cases r3
    split at f3
    · rename_i S4 q
      exact setC_ok I3 (r2.ext X3 I2) ((r1.ext X2 I1).ext X3 I2) q fun H' I' X' => f3 φ3 σ H' I' X' (E3.ext X' I3)
    · exact f3.elim
  · exact f3.elim
def getC (x : Vl) (k : Int) (S : Sto) : Option PH.D := match x with
  | .cel n => (match S[n]? with
    | some (.lst ds) => if 0 ≤ k then ds[k.toNat]? else none
    | _ => none)
  | _ => none
theorem getC_ok {x : Vl} {k : Int} {d : PH.D} {v : L2.V} {Q' : VK} (I : GInv K B φ S H) (r : RepV K B φ S H x v) (h : getC x k S = some d) (q : ∀ u, Rep K (Blk B φ S) H d u → Q' u H) : cGetL v (.int k) H Q' := by
  unfold getC at h
  split at h
  · rename_i n
    obtain ⟨a, rfl, h1⟩ := r
    split at h
    · rename_i ds q1
      split at h
      · rename_i hk
        obtain ⟨vs, h2, l⟩ := I.ok n _ a q1 h1
        obtain ⟨u, h3, h4⟩ := l.get h
        exact ⟨vs, u, h2, hk, h3, q u h4⟩
      · cases h
    · cases h
  · cases h
/-- xs[k] op= e, ints -/
def mAugI (g : Int → Int → Int) (o i e : FE) : FS := fun ρ S => (o ρ S).toS ρ fun x S1 => (i ρ S1).toS ρ fun k S2 => match k with
  | .dat (.int k) => (match getC x k S2 with
    | some (.int u) => (e ρ S2).toS ρ fun w S3 => (match w with
      | .dat (.int w) => (match setC x k (.int (g u w)) S3 with
        | some S4 => .next ρ S4
        | none => .stuck)
      | _ => .stuck)
    | _ => .stuck)
  | _ => .stuck
theorem sim_augI {g : Int → Int → Int} {r : R2} {me : FE} (hr : ∀ i j H Q, Q (.int (g i j)) H → r (.int i) (.int j) H Q) (h : rdS K W (mAugI g mo mx me) D σ H) : tAugS (rdE K W mo) (rdE K W mx) (rdE K W me) cGetL (cIp r) cSetL D σ H := by
  obtain ⟨B, φ, S, ρ, I, E, f⟩ := h
  refine fins_bind I E f fun φ1 S1 d1 v1 H1 I1 X1 E1 r1 f1 => fins_bind I1 E1 f1 fun φ2 S2 d2 v2 H2 I2 X2 E2 r2 f2 => ?_
  split at f2
  · rename_i k
    cases r2
    split at f2
    · rename_i u q
      refine getC_ok I2 (r1.ext X2 I1) q fun u' ru => ?_
      cases ru
      refine fins_bind I2 E2 f2 fun φ3 S3 d3 v3 H3 I3 X3 E3 r3 f3 => ?_
      split at f3
      · rename_i w
        cases r3
        split at f3
        · rename_i S4 q4
          refine hr _ _ _ _ ?_
          exact setC_ok I3 ((r1.ext X2 I1).ext X3 I2) (d := .int (g u w)) rfl q4 fun H' I' X' => f3 φ3 σ H' I' X' (E3.ext X' I3)
        · exact f3.elim
      · exact f3.elim
    · exact f2.elim
  · exact f2.elim
theorem fs_augIadd {me : FE} (ho : PE X o (rdE X.K W mo)) (hi : PE X i (rdE X.K W mx)) (he : PE X e (rdE X.K W me)) (ha : ∀ ov iv new, augStore i ov iv new = (do holding [new, ov, iv] (setItem ov iv new); release [new, ov, iv] []; pure .next) := by intros; rfl) : PS X (.AugAssign (.Subscript o i tpos) .Add e pos) (rdS X.K W (mAugI (fun x y => x + y) mo mx me)) :=
  PS_imp (s_augS ho hi he ip_addC ha) fun D σ H h => sim_augI (fun _ _ _ _ q => q) h
theorem fs_augIsub {me : FE} (ho : PE X o (rdE X.K W mo)) (hi : PE X i (rdE X.K W mx)) (he : PE X e (rdE X.K W me)) (ha : ∀ ov iv new, augStore i ov iv new = (do holding [new, ov, iv] (setItem ov iv new); release [new, ov, iv] []; pure .next) := by intros; rfl) : PS X (.AugAssign (.Subscript o i tpos) .Sub e pos) (rdS X.K W (mAugI (fun x y => x - y) mo mx me)) :=
  PS_imp (s_augS ho hi he ip_subC ha) fun D σ H h => sim_augI (fun _ _ _ _ q => q) h
/-- x op= e, ints -/
def mAug (g : Int → Int → Int) (k : Nat) (e : FE) : FS := fun ρ S => match lk ρ k with
  | some (.dat (.int u)) => (e ρ S).toS ρ fun w S1 => (match w with
    | .dat (.int w) => .next (ρ.set k (some (.dat (.int (g u w))))) S1
    | _ => .stuck)
  | _ => .stuck
theorem sim_aug {g : Int → Int → Int} {k : Nat} {r : R2} {me : FE} (hr : ∀ i j H Q, Q (.int (g i j)) H → r (.int i) (.int j) H Q) (h : rdS K W (mAug g k me) D σ H) : tAug k (rdE K W me) (cIp r) D σ H := by
  obtain ⟨B, φ, S, ρ, I, E, f⟩ := h
  unfold mAug at f
  split at f
  · rename_i u q
    obtain ⟨v, h1, h2⟩ := E.2 k _ (lk_at q)
    cases h2
    refine ⟨_, h1, fins_bind I E f fun φ3 S3 d3 v3 H3 I3 X3 E3 r3 f3 => ?_⟩
    split at f3
    · cases r3
      exact hr _ _ _ _ (f3 φ3 _ H3 I3 Ext.refl (E3.set (d := .dat (.int (g _ _))) (v := .int (g _ _)) rfl k))
    · exact f3.elim
  · exact f.elim
theorem fs_augAdd {k : Nat} {me : FE} {pos' : Pos} (hN : X.N.Nodup) (hi : X.N[k]? = some x) (hx : Loc X.env.scope x) (he : PE X e (rdE X.K W me)) (hf : X.fn x = true ∨ X.env.scope.names.lookup x = some .local := by first | exact .inl rfl | exact .inr rfl | assumption) : PS X (.AugAssign (.Name x pos') .Add e pos) (rdS X.K W (mAug (fun x y => x + y) k me)) :=
  PS_imp (ps_aug hN hi hx he ip_addC hf) fun D σ H h => sim_aug (fun _ _ _ _ q => q) h
theorem fs_augSub {k : Nat} {me : FE} {pos' : Pos} (hN : X.N.Nodup) (hi : X.N[k]? = some x) (hx : Loc X.env.scope x) (he : PE X e (rdE X.K W me)) (hf : X.fn x = true ∨ X.env.scope.names.lookup x = some .local := by first | exact .inl rfl | exact .inr rfl | assumption) : PS X (.AugAssign (.Name x pos') .Sub e pos) (rdS X.K W (mAug (fun x y => x - y) k me)) :=
  PS_imp (ps_aug hN hi hx he ip_subC hf) fun D σ H h => sim_aug (fun _ _ _ _ q => q) h
def mPar (i j : Nat) (a b : FE) : FS := fun ρ S => (a ρ S).toS ρ fun x S1 => (b ρ S1).toS ρ fun y S2 => .next ((ρ.set i (some x)).set j (some y)) S2
end
end PH

namespace PH
open PySem PySem.Spec PyProof.Rows L2
abbrev FD := List Vl → Sto → Res Vl
def spF (K : PySem.W.Frag) (m : FD) : Sp := fun vs H Q E => ∃ B φ S ds, GInv K B φ S H ∧ RepVs K B φ S H ds vs ∧ Fin K (fun c x _ H => E c x H) [] (RepV K) B φ S H (m ds S) Q
section
variable {X : Cx} {W : WX} {e a b c o i : Expr} {es rest : List Expr} {pos p q p2 tpos apos cpos : Pos} {x y z : Str} {K : PySem.W.Frag} {ma mb mc mo mx : FE} {mt mt1 mu : FT} {mas : FA} {mi mj : FI} {B : Addr → Prop} {φ φ' : List Addr} {S S' : Sto} {H H' : Hp} {σ : L2.St} {Q : VK} {m n : FS} {st : Stmt} {sts : List Stmt} {D : Ends} {t t1 : Tg} {ps : List Str} {md : FD} {j k : Nat}
theorem Fin.toE {r : Res Vl} (f : Fin K W σ (RepV K) B φ S H r Q) : Fin K (fun c x _ H => WE W σ c x H) [] (RepV K) B φ S H r Q := by
  cases r with
  | ok d S' => exact f
  | err e S' => exact f
  | stuck => exact f
def mCall (md : FD) (as : FA) : FE := fun ρ S => (as ρ S).bind md
theorem f_call (F : OkX X.prog X.w X.K X.mg X.base j x ps (spF X.K md)) (hr : Room k X.A) (tk : Takes X W) (ha : PA X (e :: es) (rdA X.K W mas)) (hjk : j ≤ k := by decide) (hg : Gl X x := by rfl) (hdb : (x == ("__debug__" : Str)) = false := by decide)
    (he : starEach (e :: es) X.env = (false, eval e X.env) :: starEach es X.env := by rfl) (hpl : (backTo pos (starEach es X.env)).any (·.1) = false := by rfl) : PE X (.Call (.Name x p) (e :: es) [] pos) (rdE X.K W (mCall md mas)) := by
  obtain ⟨fd, F, hm, hk, hb⟩ := F
  refine PE_imp (pe_callS (E := WE W) F (hr.mono hjk) hg hm hk hb (fun σ => passAt tk σ) ha hdb he hpl) fun σ H Q h => ?_
  exact rd_bind (k := fun ds _ S => md ds S) h fun B φ S ρ d v H1 I E r f => ⟨B, φ, S, d, I, r, f.toE⟩
theorem f_call0 (F : OkX X.prog X.w X.K X.mg X.base j x ps (spF X.K md)) (hr : Room k X.A) (tk : Takes X W) (hjk : j ≤ k := by decide) (hg : Gl X x := by rfl) (hdb : (x == ("__debug__" : Str)) = false := by decide) : PE X (.Call (.Name x p) [] [] pos) (rdE X.K W (mCall md mNil)) := by
  obtain ⟨fd, F, hm, hk, hb⟩ := F
  refine ⟨fun pins s σ H Q I h => ?_⟩
  refine wpAny_Call_Name_kw (ld_glob I hg hm ?_ hdb)
  refine PySem.W.callWith_K0 I.kIn hk (run_fnS (E := WE W) F (hr.mono hjk) hb (passAt tk σ) I .nil ?_)
  obtain ⟨B, φ, S, ρ, J, E, f⟩ := h
  exact ⟨B, φ, S, [], J, rfl, Fin.toE f⟩
def Vl.below (n : Nat) : Vl → Bool
  | .dat _ => true
  | .cel m => decide (m < n)
  | .cels ms => ms.all fun m => decide (m < n)
  | .scr _ => true
def Cell.below (n : Nat) : Cell → Bool
  | .dead => true
  | .lst _ => true
  | .ins _ fs => fs.all fun f => f.2.below n
  | .dct fs => fs.all fun f => f.2.below n
/-- what is made within goes -/
def trunc (n : Nat) (r : Res Vl) : Res Vl := match r with
  | .ok d S => if d.below n && ((S.take n).all fun c => c.below n) then .ok d (S.take n) else .stuck
  | .err e S => if (S.take n).all fun c => c.below n then .err e (S.take n) else .stuck
  | .stuck => .stuck
def ofOut : Out → Res Vl
  | .ret d S => .ok d S
  | .next _ S => .ok (.dat .non) S
  | .err e _ S => .err e S
  | _ => .stuck
def envOf (n : Nat) (ds : List Vl) : Ev := ds.map some ++ List.replicate (n - ds.length) none
/-- the def of n names, np of them parameters -/
def run (n np : Nat) (mb : FS) : FD := fun ds S => if ds.length = np then ofOut (mb (envOf n ds) S) else .stuck
/-- the same; its own cells go -/
def runT (n np : Nat) (mb : FS) : FD := fun ds S => if ds.length = np then trunc S.length (ofOut (mb (envOf n ds) S)) else .stuck
theorem take_get {α : Type} {n m : Nat} {l : List α} (h : m < n) : (l.take n)[m]? = l[m]? := by
  rw [List.getElem?_take, if_pos h]
theorem alive_take {n : Nat} {a : Addr} (h : Alive (φ.take n) (S.take n) a) : Alive φ S a := by
  obtain ⟨m, c, h1, h2, h3⟩ := h
  rw [List.getElem?_take] at h1 h3
  by_cases hm : m < n
  · rw [if_pos hm] at h1 h3; exact ⟨m, c, h1, h2, h3⟩
  · rw [if_neg hm] at h1; cases h1
theorem RepV.take {n : Nat} {d : Vl} {v : L2.V} (r : RepV K B φ S H d v) (h : d.below n = true) : RepV K B (φ.take n) (S.take n) H d v := by
  have k : Kp (Blk B φ S) H (Blk B (φ.take n) (S.take n)) H := ⟨fun b o h nb => ⟨h, fun q => nb (by
    rcases q with q | q
    · exact .inl q
    · exact .inr (alive_take q))⟩, fun _ _ h => h⟩
  cases d with
  | dat d => exact Rep.kp k d v r
  | cel m =>
    obtain ⟨a, e, h1⟩ := r
    exact ⟨a, e, by rw [take_get (of_decide_eq_true h)]; exact h1⟩
  | cels ms =>
    obtain ⟨a, as, e1, e2, e3, e4⟩ := r
    refine ⟨a, as, e1, (k.old _ _ e3 e2).2, e3, ?_⟩
    rw [← e4]
    apply List.map_congr_left
    intro m hm
    exact take_get (of_decide_eq_true (List.all_eq_true.mp h m hm))
  | scr ns => exact r
theorem RepF.take {n : Nat} : ∀ {fs : List (Str × Vl)} {vs : List (Str × L2.V)}, RepF K B φ S H fs vs → (fs.all fun f => f.2.below n) = true → RepF K B (φ.take n) (S.take n) H fs vs
  | [], vs, r, _ => r
  | f :: fs, vs, ⟨v, ws, e, h1, h2⟩, h => by
    simp only [List.all_cons, Bool.and_eq_true] at h
    exact ⟨v, ws, e, h1.take h.1, RepF.take h2 h.2⟩
theorem GInv.take {n : Nat} (I : GInv K B φ S H) (h : ((S.take n).all fun c => c.below n) = true) : GInv K B (φ.take n) (S.take n) H where
  len := by rw [List.length_take, List.length_take, I.len]
  ok := fun m c a h1 h2 => by
    have hc := List.all_eq_true.mp h c (List.mem_of_getElem? h1)
    rw [List.getElem?_take] at h1 h2
    by_cases hm : m < n
    · rw [if_pos hm] at h1 h2
      have q := I.ok m c a h1 h2
      have k : Kp (Blk B φ S) H (Blk B (φ.take n) (S.take n)) H := ⟨fun b o h nb => ⟨h, fun q => nb (by
        rcases q with q | q
        · exact .inl q
        · exact .inr (alive_take q))⟩, fun _ _ h => h⟩
      cases c with
      | dead => trivial
      | lst ds => obtain ⟨vs, e, r⟩ := q; exact ⟨vs, e, RepL.kp k ds vs r⟩
      | ins C fs => obtain ⟨dx, vs, e, r⟩ := q; exact ⟨dx, vs, e, r.take hc⟩
      | dct fs => obtain ⟨vs, e, r⟩ := q; exact ⟨vs, e, r.take hc⟩
    · rw [if_neg hm] at h1; cases h1
  inj := fun i j d d' b h1 h2 h3 h4 h5 h6 => by
    rw [List.getElem?_take] at h1 h3 h5 h6
    by_cases hi : i < n
    · by_cases hj : j < n
      · rw [if_pos hi] at h1 h5
        rw [if_pos hj] at h3 h6
        exact I.inj i j d d' b h1 h2 h3 h4 h5 h6
      · rw [if_neg hj] at h3; cases h3
    · rw [if_neg hi] at h1; cases h1
  blk := fun b h => I.blk b (alive_take h)
  btr := I.btr
theorem Ext.take {n : Nat} {φ0 : List Addr} {S0 : Sto} {H0 : Hp} (x : Ext φ0 S0 H0 φ S H) (hn : φ0.length ≤ n) : Ext φ0 S0 H0 (φ.take n) (S.take n) H :=
  ⟨fun b o h nb => ⟨(x.old b o h nb).1, fun q => (x.old b o h nb).2 (alive_take q)⟩, fun m a h => by
    have := (List.getElem?_eq_some_iff.mp h).1
    rw [take_get (by omega)]
    exact x.ids m a h⟩
theorem Fin.trunc {r : Res Vl} {n : Nat} (f : Fin K W σ (RepV K) B φ S H (PH.trunc n r) Q) (I : GInv K B φ S H) (hn : n = S.length) : Fin K W σ (RepV K) B φ S H r Q := by
  have hl : φ.length ≤ n := by rw [hn, I.len]; exact Nat.le_refl _
  cases r with
  | ok d S' =>
    unfold PH.trunc at f
    dsimp only at f
    split at f
    · rename_i h
      obtain ⟨h1, h2⟩ := Bool.and_eq_true_iff.mp h
      exact fun φ' v H' I' X' r' => f (φ'.take n) v H' (I'.take h2) (X'.take hl) (r'.take h1)
    · exact f.elim
  | err e S' =>
    unfold PH.trunc at f
    dsimp only at f
    split at f
    · rename_i h
      refine fun φ' c x H' I' X' r' => f (φ'.take n) c x H' (I'.take h) (X'.take hl) ⟨r'.1, ?_⟩
      rcases r'.2 with h0 | ⟨d, vs, e1, e2, e3⟩
      · exact .inl h0
      · refine .inr ⟨d, vs, e1, e2, RepL.kp ⟨fun b o h nb => ⟨h, fun q => nb (by
          rcases q with q | q
          · exact .inl q
          · exact .inr (alive_take q))⟩, fun _ _ h => h⟩ _ _ e3⟩
    · exact f.elim
  | stuck => exact f
theorem envOf_ok {ds : List Vl} {vs : List L2.V} {N : List Str} (r : RepVs K B φ S H ds vs) : RepE K B φ S H (envOf N.length ds) (start N vs) := by
  have hl := r.len
  have hg : ∀ {ds : List Vl} {vs : List L2.V}, RepVs K B φ S H ds vs → ∀ (i : Nat) (d : Vl), ds[i]? = some d → ∃ v, vs[i]? = some v ∧ RepV K B φ S H d v := fun {ds} => by
    induction ds with
    | nil => intro vs r i d h; simp at h
    | cons d ds ih =>
      rintro vs ⟨v, ws, e, h1, h2⟩ i d' h
      subst e
      cases i with
      | zero => simp at h; subst h; exact ⟨v, rfl, h1⟩
      | succ i =>
        obtain ⟨v', h3, h4⟩ := ih h2 i d' (by simpa using h)
        exact ⟨v', by simpa using h3, h4⟩
  unfold envOf L2.start
  refine ⟨by simp [hl], fun i d h => ?_⟩
  by_cases hi : i < ds.length
  · rw [List.getElem?_append_left (by simpa using hi)] at h
    rw [List.getElem?_append_left (by simp [hl, hi])]
    rw [List.getElem?_map] at h ⊢
    cases q : ds[i]? with
    | none => rw [q] at h; cases h
    | some d' =>
      rw [q] at h
      have : d' = d := by simpa using h
      subst this
      obtain ⟨v, h1, h2⟩ := hg r i d' q
      exact ⟨v, by rw [h1]; rfl, h2⟩
  · rw [List.getElem?_append_right (by simpa using Nat.le_of_not_lt hi)] at h
    rw [List.getElem?_replicate] at h
    split at h <;> cases h
theorem fin_body {mb : FS} {E : XK} {ds : List Vl} {vs : List L2.V} {N : List Str} (I : GInv K B φ S H) (r : RepVs K B φ S H ds vs) (f : Fin K (fun c x _ H => E c x H) [] (RepV K) B φ S H (ofOut (mb (envOf N.length ds) S)) Q) : rdS K (fun c x _ H => E c x H) mb { nx := fun _ H' => Q .non H', rt := Q } (start N vs) H := by
  refine ⟨B, φ, S, envOf N.length ds, I, envOf_ok r, ?_⟩
  unfold ofOut at f
  cases q : mb (envOf N.length ds) S with
  | next ρ' S' => rw [q] at f; exact fun φ' σ' H' I' X' _ => f φ' _ H' I' X' rfl
  | ret d S' => rw [q] at f; exact f
  | brk ρ' S' => rw [q] at f; exact f.elim
  | cnt ρ' S' => rw [q] at f; exact f.elim
  | err e ρ' S' => rw [q] at f; exact fun φ' σ' c x H' I' X' _ r' => f φ' c x H' I' X' r'
  | stuck => rw [q] at f; exact f
end
section
variable {P : Program} {w : World} {K : PySem.W.Frag} {mg : Str → Option Value} {base : Heap}
/-- a def's function runs so: with its cells kept (T = false) or dropped -/
structure Runs (md : FD) (n np : Nat) (mb : FS) : Prop where
  ok : ∀ ds S, ds.length = np → md ds S = ofOut (mb (envOf n ds) S) ∨ md ds S = trunc S.length (ofOut (mb (envOf n ds) S))
  no : ∀ ds S, ds.length ≠ np → md ds S = .stuck
theorem Runs.plain {n np : Nat} {mb : FS} : Runs (run n np mb) n np mb := ⟨fun ds S h => .inl (by unfold run; rw [if_pos h]), fun ds S h => by unfold run; rw [if_neg h]⟩
theorem Runs.cut {n np : Nat} {mb : FS} : Runs (runT n np mb) n np mb := ⟨fun ds S h => .inr (by unfold runT; rw [if_pos h]), fun ds S h => by unfold runT; rw [if_neg h]⟩
theorem spF_len {md : FD} {n np : Nat} {mb : FS} (R : Runs md n np mb) : ∀ vs H Q E, spF K md vs H Q E → vs.length = np := fun vs H Q E ⟨B, φ, S, ds, I, r, f⟩ => by
  rw [r.len]
  by_cases h : ds.length = np
  · exact h
  · rw [R.no ds S h] at f; exact f.elim
theorem spF_body {md : FD} {np : Nat} {mb : FS} {N : List Str} (R : Runs md N.length np mb) {vs : List L2.V} {H : Hp} {Q : VK} {E : XK} (h : spF K md vs H Q E) : rdS K (fun c x _ H => E c x H) mb { nx := fun _ H' => Q .non H', rt := Q } (start N vs) H := by
  obtain ⟨B, φ, S, ds, I, r, f⟩ := h
  by_cases hl : ds.length = np
  · rcases R.ok ds S hl with e | e
    · rw [e] at f; exact fin_body I r f
    · rw [e] at f; exact fin_body I r (Fin.trunc f I rfl)
  · rw [R.no ds S hl] at f; exact f.elim
theorem okF {x : Str} {st : Stmt} {N ps : List Str} {k : Nat} {md : FD} {mb : FS} (F : FnP K x st) (g : mg x = some (.ref (He.ga K x))) (S : FnScope N ps (defScope st)) (R : Runs md N.length ps.length mb)
    (bnd : ∀ (kV doc pm : Value) (an : Option Addr) (cdv ct : Value) (us : List Value), us.length = ps.length → bindArgs (PySem.W.fnOf x x (defArgs st) (defBody st) (defScope st) .none kV doc pm an cdv ct) ⟨us, []⟩ = pure (ps.zip us))
    (hbody : ∀ (cdv : Value) (A : Around) (outer : List Env) (s : Shared) (H : Hp) (E : XK), Room k (A.deeper (envOfC x (defScope st) s.heap.objs.size (He.ga K x) cdv)) →
      PSs (cxOf (L2.CX P w) P w K mg base N x (defScope st) (He.ga K x) cdv A outer s H E) (defBody st) (rdS K (fun c x _ H => E c x H) mb)) : OkX P w K mg base (k + 1) x ps (spF K md) :=
  okX_of F g S (spF_len R) bnd fun cdv A outer s H vs Q E hr h => ⟨_, hbody cdv A outer s H E hr, spF_body R h⟩
theorem okFM {C m q : Str} {st : Stmt} {N ps : List Str} {k : Nat} {md : FD} {mb : FS} (F : FnM K C m q st) (g : Meth K (He.ga K C) m (He.ma K (He.ga K C) m)) (S : FnScope N ps (defScope st)) (R : Runs md N.length ps.length mb)
    (bnd : ∀ (kV doc pm : Value) (an : Option Addr) (cdv ct : Value) (us : List Value), us.length = ps.length → bindArgs (PySem.W.fnOf m q (defArgs st) (defBody st) (defScope st) .none kV doc pm an cdv ct) ⟨us, []⟩ = pure (ps.zip us))
    (hbody : ∀ (cdv : Value) (A : Around) (outer : List Env) (s : Shared) (H : Hp) (E : XK), Room k (A.deeper (envOfC q (defScope st) s.heap.objs.size (He.ma K (He.ga K C) m) cdv)) →
      PSs (cxOf (L2.CX P w) P w K mg base N q (defScope st) (He.ma K (He.ga K C) m) cdv A outer s H E) (defBody st) (rdS K (fun c x _ H => E c x H) mb)) : OkMX P w K mg base (k + 1) C m ps (spF K md) :=
  okMX_of F g S (spF_len R) bnd fun cdv A outer s H vs Q E hr h => ⟨_, hbody cdv A outer s H E hr, spF_body R h⟩
end
end PH

namespace PH
open PySem PySem.Spec PyProof.Rows L2
section
variable {X : Cx} {W : WX} {e a b c o i : Expr} {es rest : List Expr} {pos p q p2 tpos apos cpos pos' : Pos} {x y z f C mn : Str} {K : PySem.W.Frag} {ma mb mc mo mx : FE} {mt mt1 mu : FT} {mas : FA} {B : Addr → Prop} {φ φ' : List Addr} {S S' : Sto} {H H' : Hp} {σ : L2.St} {Q : VK} {m n : FS} {D : Ends} {ps : List Str} {md : FD} {j k : Nat}
def isIns (S : Sto) (C mn : Str) : Vl → Bool
  | .cel n => match S[n]? with
    | some (.ins C' fs) => decide (C' = C) && fs.all fun f => decide (f.1 ≠ mn)
    | _ => false
  | .dat (.ins C' ns _) => decide (C' = C) && ns.all fun f => decide (f ≠ mn)
  | _ => false
theorem RepF.miss : ∀ {fs : List (Str × Vl)} {vs : List (Str × L2.V)}, RepF K B φ S H fs vs → (fs.all fun f => decide (f.1 ≠ mn)) = true → vs.lookup mn = none
  | [], vs, r, _ => by cases r; rfl
  | d :: ds, vs, ⟨v, ws, e, h1, h2⟩, h => by
    subst e
    simp only [List.all_cons, Bool.and_eq_true, decide_eq_true_eq] at h
    rw [List.lookup_cons, show (mn == d.1) = false by simpa using Ne.symm h.1]
    exact RepF.miss h2 h.2
theorem zip_miss : ∀ {ns : List Str} {vs : List L2.V}, (ns.all fun f => decide (f ≠ mn)) = true → (ns.zip vs).lookup mn = none
  | [], vs, _ => by simp
  | d :: ds, [], _ => by simp
  | d :: ds, v :: vs, h => by
    simp only [List.all_cons, Bool.and_eq_true, decide_eq_true_eq] at h
    rw [List.zip_cons_cons, List.lookup_cons, show (mn == d) = false by simpa using Ne.symm h.1]
    exact zip_miss h.2
theorem ins_ok {d : Vl} {v : L2.V} (I : GInv K B φ S H) (r : RepV K B φ S H d v) (h : isIns S C mn d = true) : ∃ a dx fs, v = .ref a ∧ H a = some (.ins (He.ga K C) dx fs) ∧ fs.lookup mn = none := by
  cases d with
  | cel n =>
    obtain ⟨a, rfl, h1⟩ := r
    have h : (match S[n]? with | some (.ins C' fs) => decide (C' = C) && fs.all fun f => decide (f.1 ≠ mn) | _ => false) = true := h
    split at h
    · rename_i C' fs q
      obtain ⟨h2, h3⟩ := He.ba h
      have e : C' = C := of_decide_eq_true h2
      subst e
      obtain ⟨dx, vs, h4, h5⟩ := I.ok n _ a q h1
      exact ⟨a, dx, vs, rfl, h4, h5.miss h3⟩
    · cases h
  | dat d =>
    cases d with
    | ins C' ns xs =>
      obtain ⟨h2, h3⟩ := He.ba (show (decide (C' = C) && ns.all fun f => decide (f ≠ mn)) = true from h)
      have e : C' = C := of_decide_eq_true h2
      subst e
      obtain ⟨a, dx, vs, rfl, _, h4, _⟩ := r
      exact ⟨a, dx, _, rfl, h4, zip_miss h3⟩
    | _ => cases h
  | cels ns => cases h
  | scr ns => cases h
def mMeth (C mn : Str) (md : FD) (o : FE) (as : FA) : FE := fun ρ S => (o ρ S).bind fun x S1 => if isIns S1 C mn x = true then (as ρ S1).bind fun ds S2 => md (x :: ds) S2 else .stuck
theorem f_meth {pl : Sem Bool} (F : OkMX X.prog X.w X.K X.mg X.base j C mn ps (spF X.K md)) (hr : Room k X.A) (tk : Takes X W) (c : Cls X.K (He.ga X.K C)) (ho : PE X o (rdE X.K W mo)) (ha : PA X (e :: es) (rdA X.K W mas)) (hjk : j ≤ k := by decide)
    (hst : starEach (e :: es) X.env = (false, eval e X.env) :: starEach es X.env := by rfl) (hpl : (backTo pos (starEach es X.env)).any (·.1) = false := by rfl)
    (ht : eval (.Call (.Attribute o mn apos) (e :: es) [] pos) X.env = eval o X.env >>= fun ov => standAt apos.atName >>= fun _ => holding [ov] (getMethod ov mn pl) >>= fun q => callWith pos q.1 q.2 (backTo pos (starEach (e :: es) X.env)) (backToKw pos (keywordEach [] X.env)) := by rfl) :
    PE X (.Call (.Attribute o mn apos) (e :: es) [] pos) (rdE X.K W (mMeth C mn md mo mas)) := by
  obtain ⟨⟨fd, F, hb⟩, mt⟩ := F
  refine ⟨fun pins s σ H Q I h => ?_⟩
  have h' : rdE X.K W mo σ H fun v H1 => ∃ a dx fs, v = .ref a ∧ H1 a = some (.ins (He.ga X.K C) dx fs) ∧ fs.lookup mn = none ∧ rdA X.K W mas σ H1 fun vs H2 => spF X.K md (.ref a :: vs) H2 Q (WE W σ) :=
    rd_bind (k := fun x ρ S1 => if isIns S1 C mn x = true then (mas ρ S1).bind fun ds S2 => md (x :: ds) S2 else .stuck) h fun B φ S ρ d v H1 I E r f => by
      split at f
      · rename_i hi
        obtain ⟨a, dx, fs, rfl, h1, h2⟩ := ins_ok I r hi
        exact ⟨a, dx, fs, rfl, h1, h2, fin_bind I E f fun φ' S' ds vs H2 I2 X2 E2 r2 f2 => ⟨B, φ', S', d :: ds, I2, ⟨_, _, rfl, r.ext X2 I, r2⟩, f2.toE⟩⟩
      · exact f.elim
  refine PySem.W.methodCall_KW (pl := pl) (thn (ho.run pins s σ H _ I h') fun u s1 hh => ?_) ht
  obtain ⟨x, H1, I1, rx, a, dx, fs, rfl, ea, l, q⟩ := hh
  obtain rfl : u = Value.ref a := rx
  refine getmeth_ok I1 ea c mt l (PySem.W.callWith_K (first := [.ref a]) (h₀ := X.base) I.ok.mod.kin mt.kp (thn (ha.run pos pins s1 σ H1 _ I1 q) fun us s2 hh => ?_) hst hpl)
  obtain ⟨vs, H2, I2, r, q2⟩ := hh
  exact ⟨I2.kIn, run_fnS (us := .ref a :: us) (vs := .ref a :: vs) (E := WE W) F (hr.mono hjk) hb (passAt tk σ) I2 (.cons rfl r) q2⟩
theorem f_meth0 {pl : Sem Bool} (F : OkMX X.prog X.w X.K X.mg X.base j C mn ps (spF X.K md)) (hr : Room k X.A) (tk : Takes X W) (c : Cls X.K (He.ga X.K C)) (ho : PE X o (rdE X.K W mo)) (hjk : j ≤ k := by decide)
    (ht : eval (.Call (.Attribute o mn apos) [] [] pos) X.env = eval o X.env >>= fun ov => standAt apos.atName >>= fun _ => holding [ov] (getMethod ov mn pl) >>= fun q => callWith pos q.1 q.2 (backTo pos (starEach [] X.env)) (backToKw pos (keywordEach [] X.env)) := by rfl) :
    PE X (.Call (.Attribute o mn apos) [] [] pos) (rdE X.K W (mMeth C mn md mo mNil)) := by
  obtain ⟨⟨fd, F, hb⟩, mt⟩ := F
  refine ⟨fun pins s σ H Q I h => ?_⟩
  have h' : rdE X.K W mo σ H fun v H1 => ∃ a dx fs, v = .ref a ∧ H1 a = some (.ins (He.ga X.K C) dx fs) ∧ fs.lookup mn = none ∧ spF X.K md [.ref a] H1 Q (WE W σ) :=
    rd_bind (k := fun x ρ S1 => if isIns S1 C mn x = true then md [x] S1 else .stuck) h fun B φ S ρ d v H1 I E r f => by
      split at f
      · rename_i hi
        obtain ⟨a, dx, fs, rfl, h1, h2⟩ := ins_ok I r hi
        exact ⟨a, dx, fs, rfl, h1, h2, B, φ, S, [d], I, ⟨_, _, rfl, r, rfl⟩, f.toE⟩
      · exact f.elim
  refine PySem.W.methodCall_KW (pl := pl) (thn (ho.run pins s σ H _ I h') fun u s1 hh => ?_) ht
  obtain ⟨x, H1, I1, rx, a, dx, fs, rfl, ea, l, q⟩ := hh
  obtain rfl : u = Value.ref a := rx
  exact getmeth_ok I1 ea c mt l (PySem.W.callWith_K0 (first := [.ref a]) I1.kIn mt.kp (run_fnS (us := [.ref a]) (vs := [.ref a]) (E := WE W) F (hr.mono hjk) hb (passAt tk σ) I1 (.cons rfl .nil) q))
def fldOf (S : Sto) (C f : Str) : Vl → Option Vl
  | .cel n => match S[n]? with
    | some (.ins C' fs) => if C' = C then fs.lookup f else none
    | _ => none
  | .dat (.ins C' ns xs) => if C' = C then ((ns.zip xs).lookup f).map Vl.dat else none
  | _ => none
theorem RepF.look {d : Vl} : ∀ {fs : List (Str × Vl)} {vs : List (Str × L2.V)}, RepF K B φ S H fs vs → fs.lookup f = some d → ∃ v, vs.lookup f = some v ∧ RepV K B φ S H d v
  | [], vs, r, h => by cases h
  | g :: fs, vs, ⟨v, ws, e, h1, h2⟩, h => by
    subst e
    obtain ⟨g1, g2⟩ := g
    rw [List.lookup_cons] at h ⊢
    cases q : f == g1 with
    | true => rw [q] at h; cases h; exact ⟨v, rfl, h1⟩
    | false => rw [q] at h; exact RepF.look h2 h
theorem zip_look {Bk : Addr → Prop} {d : PH.D} : ∀ {ns : List Str} {ds : List PH.D} {vs : List L2.V}, RepL K Bk H ds vs → (ns.zip ds).lookup f = some d → ∃ v, (ns.zip vs).lookup f = some v ∧ Rep K Bk H d v
  | [], ds, vs, r, h => by simp at h
  | n :: ns, [], vs, r, h => by simp at h
  | n :: ns, d' :: ds, vs, ⟨v, ws, e, h1, h2⟩, h => by
    subst e
    rw [List.zip_cons_cons, List.lookup_cons] at h ⊢
    cases q : f == n with
    | true => rw [q] at h; cases h; exact ⟨v, rfl, h1⟩
    | false => rw [q] at h; exact zip_look h2 h
def mFld (C f : Str) (o : FE) : FE := fun ρ S => (o ρ S).bind fun x S1 => match fldOf S1 C f x with
  | some d => .ok d S1
  | none => .stuck
theorem fldOf_ok {x d : Vl} {v : L2.V} (I : GInv K B φ S H) (r : RepV K B φ S H x v) (h : fldOf S C f x = some d) : ∃ a dx fs u, v = .ref a ∧ H a = some (.ins (He.ga K C) dx fs) ∧ fs.lookup f = some u ∧ RepV K B φ S H d u := by
  cases x with
  | cel n =>
    obtain ⟨a, rfl, h1⟩ := r
    replace h : (match S[n]? with | some (.ins C' fs) => if C' = C then fs.lookup f else none | _ => none) = some d := h
    split at h
    · rename_i C' fs q
      split at h
      · rename_i e
        subst e
        obtain ⟨dx, vs, h4, h5⟩ := I.ok n _ a q h1
        obtain ⟨u, h6, h7⟩ := h5.look h
        exact ⟨a, dx, vs, u, rfl, h4, h6, h7⟩
      · cases h
    · cases h
  | dat d' =>
    cases d' with
    | ins C' ns xs =>
      replace h : (if C' = C then ((ns.zip xs).lookup f).map Vl.dat else none) = some d := h
      split at h
      · rename_i e
        subst e
        obtain ⟨a, dx, vs, rfl, _, h4, l⟩ := r
        cases q : (ns.zip xs).lookup f with
        | none => rw [q] at h; cases h
        | some d0 =>
          rw [q] at h
          cases h
          obtain ⟨u, h6, h7⟩ := zip_look l q
          exact ⟨a, dx, _, u, rfl, h4, h6, h7⟩
      · cases h
    | _ => cases h
  | cels ns => cases h
  | scr ns => cases h
theorem f_fld (c : Cls X.K (He.ga X.K C)) (n : NoAttr X.K (He.ga X.K C) f) (ho : PE X o (rdE X.K W mo)) (hb : attributeBase o f X.env (eval o X.env) = eval o X.env := by rfl) : PE X (.Attribute o f pos) (rdE X.K W (mFld C f mo)) := PE_imp (e_fld c n ho hb) fun σ H Q h =>
  rd_bind (k := fun x _ S1 => match fldOf S1 C f x with | some d => .ok d S1 | none => .stuck) h fun B φ S ρ d v H1 I E r f' => by
    split at f'
    · rename_i d' q
      obtain ⟨a, dx, fs, u, rfl, h1, h2, h3⟩ := fldOf_ok I r q
      exact ⟨dx, fs, u, h1, h2, Fin.now f' I h3⟩
    · exact f'.elim
def putFV (f : Str) (v : Vl) : List (Str × Vl) → List (Str × Vl)
  | [] => [(f, v)]
  | (g, x) :: r => if g = f then (g, v) :: r else (g, x) :: putFV f v r
theorem RepF.put {d : Vl} {v : L2.V} (r : RepV K B φ S H d v) : ∀ {fs : List (Str × Vl)} {vs : List (Str × L2.V)}, RepF K B φ S H fs vs → RepF K B φ S H (putFV f d fs) (putF f v vs)
  | [], vs, h => by cases h; exact ⟨v, [], rfl, r, rfl⟩
  | (g, x) :: fs, vs, ⟨u, ws, e, h1, h2⟩ => by
    subst e
    unfold putFV putF
    split
    · exact ⟨v, ws, rfl, r, h2⟩
    · exact ⟨u, _, rfl, h1, RepF.put r h2⟩
theorem RepF.len : ∀ {fs : List (Str × Vl)} {vs : List (Str × L2.V)}, RepF K B φ S H fs vs → vs.length = fs.length
  | [], vs, h => by cases h; rfl
  | d :: ds, vs, ⟨v, ws, e, _, h2⟩ => by subst e; simp [RepF.len h2]
def setF (S : Sto) (C f : Str) (x d : Vl) : Option Sto := match x with
  | .cel n => (match S[n]? with
    | some (.ins C' fs) => if C' = C ∧ fs.length < 1000 then some (S.set n (.ins C (putFV f d fs))) else none
    | _ => none)
  | _ => none
def mSetF (C f : Str) (o v : FE) : FS := fun ρ S => (v ρ S).toS ρ fun d S1 => (o ρ S1).toS ρ fun x S2 => match setF S2 C f x d with
  | some S3 => .next ρ S3
  | none => .stuck
theorem fs_setF {value : Expr} {mv : FE} (c : Cls X.K (He.ga X.K C)) (na : NoAttr X.K (He.ga X.K C) f) (ho : PE X o (rdE X.K W mo)) (hv : PE X value (rdE X.K W mv)) (hs : swapsWith value (some (.Attribute o f pos')) pos.line X.env = pure false := by rfl) : PS X (.Assign [.Attribute o f pos'] value pos) (rdS X.K W (mSetF C f mo mv)) := PS_imp (s_setF c na ho hv hs) fun D σ H h => by
  obtain ⟨B, φ, S, ρ, I, E, f'⟩ := h
  refine fins_bind I E f' fun φ1 S1 d1 v1 H1 I1 X1 E1 r1 f1 => fins_bind I1 E1 f1 fun φ2 S2 d2 v2 H2 I2 X2 E2 r2 f2 => ?_
  split at f2
  · rename_i S3 q
    unfold setF at q
    split at q
    · rename_i n
      obtain ⟨a, rfl, h1⟩ := r2
      split at q
      · rename_i C' fs q1
        split at q
        · rename_i hc
          obtain ⟨e, hl⟩ := hc
          subst e
          cases q
          obtain ⟨dx, vs, h4, h5⟩ := I2.ok n _ a q1 h1
          have X3 := Ext.put (H := H2) (o := .ins (He.ga X.K C') dx (putF f v1 vs)) (x := .ins C' (putFV f d1 fs)) q1 (by simp) h1 (by simp)
          have r1' := r1.ext X2 I1
          refine ⟨dx, vs, h4, by rw [h5.len]; exact hl, f2 φ2 σ _ (I2.put q1 (by simp) h1 (by simp) ⟨dx, _, upd_same, (h5.put r1').ext X3 I2⟩) X3 (E2.ext X3 I2)⟩
        · cases q
      · cases q
    · cases q
  · exact f2.elim
end
end PH

namespace PH
open PySem PySem.Spec PyProof.Rows L2
section
variable {X : Cx} {W : WX} {e a b c o i : Expr} {es rest : List Expr} {pos p q p2 tpos apos cpos pos' : Pos} {x y z f mn : Str} {K : PySem.W.Frag} {ma mb mc mo mx : FE} {mas : FA} {B : Addr → Prop} {φ φ' : List Addr} {S S' : Sto} {H H' : Hp} {σ : L2.St} {Q : VK} {m n : FS} {D : Ends} {ps : List Str} {md : FD} {j k : Nat}
theorem run_makeS {C fA : Addr} {fd : FuncData} {sp : Sp} {CX : CXT} {E : L2.St → XK} {pins : List (Addr × Obj)} {s : Shared} {us : List Value} {vs : List L2.V} (M : Mk X.K C fA) (F : FnOk X.prog X.w X.K X.mg X.base CX k fA fd ps sp) (hr : Room (k + 1) X.A) (hb : Binds X.K fd ps [])
    (hx : PassesAt CX X σ (E σ)) (I : Inv X pins σ H s) (r : Vals vs us)
    (h : ∀ x dx, H x = none → H dx = none → dx ≠ x → sp (.ref x :: vs) (upd (upd H dx (.own x)) x (.ins C dx [])) (fun v H2 => v = .non ∧ Q (.ref x) H2) (E σ)) :
    wpAny (model X.prog X.w) X.A (call (.ref C) us) (EP X pins σ Q) X.xe s := by
  have hq := h (s.heap.objs.size + 1) s.heap.objs.size (I.hok.fresh (Nat.le_succ _)) (I.hok.fresh (Nat.le_refl _)) (Nat.ne_of_lt (Nat.lt_succ_self _))
  have I2 := Inv.made (C := C) I
  have r2 : Vals (V.ref (s.heap.objs.size + 1) :: vs) (Value.ref (s.heap.objs.size + 1) :: us) := .cons rfl r
  have hl : (Value.ref (s.heap.objs.size + 1) :: us ++ []).length = ps.length := by
    have e := r2.length
    rw [F.len _ _ _ _ hq] at e
    rw [List.append_nil]
    exact e.symm
  have b := hb _ (Value.ref (s.heap.objs.size + 1) :: us) I2.kIn hl
  rw [List.append_nil] at b
  refine wpAny_call (make_map (f := fA) I.kIn M.makes M.init (beq_iff_eq.mp M.fn) (codeAny_mono (F.run _ X.stack _ _ ⟨Value.ref (s.heap.objs.size + 1) :: us, []⟩ (Value.ref (s.heap.objs.size + 1) :: us) _ _ (E σ) (hr.make C us [])
    (I2.env0.make C us []) b r2 hq) fun r s' hq' => ?_))
  cases r with
  | error e => exact hx pins _ _ e s' I2 hq'
  | ok fl =>
    cases fl with
    | ret u =>
      obtain ⟨v, H', I3, rv, ev, q3⟩ := I2.after hq'
      subst ev
      exact ⟨rv, ⟨V.ref (s.heap.objs.size + 1), H', I3, rfl, q3⟩⟩
    | next => exact False.elim hq'
    | brk => exact False.elim hq'
    | cont => exact False.elim hq'
def allDF : List (Str × Vl) → Option (List PH.D)
  | [] => some []
  | (_, .dat d) :: r => match allDF r with
    | some ds => some (d :: ds)
    | none => none
  | _ :: _ => none
theorem allDF_ok : ∀ {fs : List (Str × Vl)} {vs : List (Str × L2.V)} {ds : List PH.D}, allDF fs = some ds → RepF K B φ S H fs vs → ∃ ws, vs = (fs.map (·.1)).zip ws ∧ RepL K (Blk B φ S) H ds ws
  | [], vs, ds, h, r => by cases h; cases r; exact ⟨[], rfl, rfl⟩
  | (g, .dat d) :: fs, vs, ds, h, ⟨v, ws, e, h1, h2⟩ => by
    unfold allDF at h
    cases q : allDF fs with
    | none => rw [q] at h; cases h
    | some es =>
      rw [q] at h
      cases h
      obtain ⟨us, e2, l⟩ := allDF_ok q h2
      subst e e2
      exact ⟨v :: us, rfl, v, us, rfl, h1, l⟩
  | (_, .cel _) :: fs, vs, ds, h, _ => by cases h
  | (_, .cels _) :: fs, vs, ds, h, _ => by cases h
  | (_, .scr _) :: fs, vs, ds, h, _ => by cases h
/-- an instance whose __init__ is done -/
def made (kp : Bool) (n : Nat) (r : Res Vl) : Res Vl := match r with
  | .ok (.dat .non) S => if kp then .ok (.cel n) S else (match S[n]? with
    | some (.ins C fs) => (match allDF fs with
      | some ds => if ((S.take n).all fun c => c.below n) then .ok (.dat (.ins C (fs.map (·.1)) ds)) (S.take n) else .stuck
      | none => .stuck)
    | _ => .stuck)
  | .err e S => if ((S.take n).all fun c => c.below n) then .err e (S.take n) else .stuck
  | _ => .stuck
def mMake (kp : Bool) (C : Str) (md : FD) (as : FA) : FE := fun ρ S => (as ρ S).bind fun ds S1 => made kp S1.length (md (.cel S1.length :: ds) (S1 ++ [.ins C []]))
theorem alive_taken {n : Nat} {c : Cell} {a : Addr} (I : GInv K B φ S H) (hn : S[n]? = some c) (hc : c ≠ .dead) (ha : φ[n]? = some a) : ¬ Blk B (φ.take n) (S.take n) a := fun q => by
  rcases q with q | ⟨m, c', h1, h2, h3⟩
  · exact I.blk a ⟨n, c, hn, hc, ha⟩ q
  · rw [List.getElem?_take] at h1 h3
    by_cases hm : m < n
    · rw [if_pos hm] at h1 h3
      have := I.inj n m c c' a hn hc h1 h2 ha h3
      omega
    · rw [if_neg hm] at h1; cases h1
theorem fin_make {kp : Bool} {C : Str} {ds : List Vl} {vs : List L2.V} (I : GInv K B φ S H) (r : RepVs K B φ S H ds vs) (f : Fin K W σ (RepV K) B φ S H (made kp S.length (md (.cel S.length :: ds) (S ++ [.ins C []]))) Q) :
    ∀ x dx, H x = none → H dx = none → dx ≠ x → spF K md (.ref x :: vs) (upd (upd H dx (.own x)) x (.ins (He.ga K C) dx [])) (fun v H2 => v = .non ∧ Q (.ref x) H2) (WE W σ) := fun x dx nx ndx ne => by
  have I1 := I.new (o := .own x) ndx
  have X1 := Ext.new (o := .own x) I ndx
  have nx1 : upd H dx (.own x) x = none := by rw [upd_ne (Ne.symm ne)]; exact nx
  have X2 := Ext.newC (o := .ins (He.ga K C) dx []) (x := .ins C []) I1 nx1
  have I2 : GInv K B (φ ++ [x]) (S ++ [.ins C []]) (upd (upd H dx (.own x)) x (.ins (He.ga K C) dx [])) := I1.newC nx1 fun _ => ⟨dx, [], upd_same, rfl⟩
  have X12 := X1.trans X2
  refine ⟨B, φ ++ [x], S ++ [.ins C []], .cel S.length :: ds, I2, ⟨_, _, rfl, ⟨x, rfl, by rw [← I.len]; exact getElem_app⟩, RepVs.ext X2 I1 (RepVs.ext X1 I r)⟩, ?_⟩
  have hφ : φ.length ≤ S.length := by rw [I.len]; exact Nat.le_refl _
  cases q : md (.cel S.length :: ds) (S ++ [.ins C []]) with
  | stuck => rw [q] at f; exact f
  | err e S' =>
    rw [q] at f
    unfold made at f
    dsimp only at f
    split at f
    · rename_i h
      intro φ' c y H' I' X' r'
      refine f (φ'.take S.length) c y H' (I'.take h) ((X12.trans X').take hφ) ⟨r'.1, ?_⟩
      rcases r'.2 with h0 | ⟨d, us, e1, e2, e3⟩
      · exact .inl h0
      · refine .inr ⟨d, us, e1, e2, RepL.kp ⟨fun b o h nb => ⟨h, fun q => nb (by
          rcases q with q | q
          · exact .inl q
          · exact .inr (alive_take q))⟩, fun _ _ h => h⟩ _ _ e3⟩
    · exact f.elim
  | ok d S' =>
    rw [q] at f
    intro φ' v H' I' X' r'
    unfold made at f
    split at f
    · rename_i S0 e
      cases e
      cases r'
      refine ⟨rfl, ?_⟩
      have hx' : φ'[S.length]? = some x := X'.ids _ _ (by rw [← I.len]; exact getElem_app)
      split at f
      · exact f φ' _ H' I' (X12.trans X') ⟨x, rfl, hx'⟩
      · split at f
        · rename_i C' fs q1
          split at f
          · rename_i ds' q2
            split at f
            · rename_i h
              obtain ⟨dx', vs', h4, h5⟩ := I'.ok _ _ _ q1 hx'
              obtain ⟨ws, e2, l⟩ := allDF_ok q2 h5
              subst e2
              refine f (φ'.take S.length) _ H' (I'.take h) ((X12.trans X').take hφ) ⟨x, dx', ws, rfl, alive_taken I' q1 (by simp) hx', h4, RepL.kp ⟨fun b o h nb => ⟨h, fun q => nb (by
                rcases q with q | q
                · exact .inl q
                · exact .inr (alive_take q))⟩, fun _ _ h => h⟩ _ _ l⟩
            · exact f.elim
          · exact f.elim
        · exact f.elim
    · rename_i e; cases e
    · exact f.elim
theorem f_make {kp : Bool} {C : Str} (T : ClF X.K X.mg C) (F : OkMX X.prog X.w X.K X.mg X.base j C "__init__" ps (spF X.K md)) (hr : Room k X.A) (tk : Takes X W) (ha : PA X (e :: es) (rdA X.K W mas)) (hjk : j + 1 ≤ k := by decide) (hg : Gl X C := by rfl) (hdb : (C == ("__debug__" : Str)) = false := by decide)
    (he : starEach (e :: es) X.env = (false, eval e X.env) :: starEach es X.env := by rfl) (hpl : (backTo pos (starEach es X.env)).any (·.1) = false := by rfl) : PE X (.Call (.Name C p) (e :: es) [] pos) (rdE X.K W (mMake kp C md mas)) := by
  obtain ⟨⟨fd, F, hb⟩, mt⟩ := F
  refine ⟨fun pins s σ H Q I h => ?_⟩
  refine wpAny_Call_Name_kw (ld_glob I hg T.glo ?_ hdb)
  have h' : rdA X.K W mas σ H fun vs H1 => ∀ x dx, H1 x = none → H1 dx = none → dx ≠ x → spF X.K md (.ref x :: vs) (upd (upd H1 dx (.own x)) x (.ins (He.ga X.K C) dx [])) (fun v H2 => v = .non ∧ Q (.ref x) H2) (WE W σ) :=
    rd_bind (k := fun ds _ S1 => made kp S1.length (md (.cel S1.length :: ds) (S1 ++ [.ins C []]))) h fun B φ S ρ d v H1 I E r f => fin_make I r f
  refine PySem.W.callWith_K (h₀ := X.base) I.ok.mod.kin T.mak.kp (thn (ha.run pos pins s σ H _ I h') fun us s1 ⟨vs, H1, I1, r, q⟩ => ⟨I1.kIn, ?_⟩) he hpl
  exact run_makeS (E := WE W) T.mak F (hr.mono hjk) hb (passAt tk σ) I1 r q
def mRaise (cls : Str) : FS := fun ρ S => .err ⟨cls, [], []⟩ ρ S
theorem fs_raise (F : XcF X.K X.mg x) (tk : Takes X W) (hc : X.calm = true := by rfl) (hg : Gl X x := by rfl) (hdb : (x == ("__debug__" : Str)) = false := by decide) : PS X (.Raise (some (.Call (.Name x p) [] [] pos)) none pos') (rdS X.K W (mRaise x)) := PS_imp (p_raise F tk hc hg hdb) fun D σ H h => by
  obtain ⟨B, φ, S, ρ, I, E, f⟩ := h
  exact f φ σ _ _ H I Ext.refl E ⟨rfl, .inl ⟨rfl, rfl⟩⟩
end
/-- what must be known of the class x, whose fields are ns (the last one stored first) -/
def spX1 (C : Addr) (f : Str) : Sp := fun vs H Q _ => ∃ a y, vs = [.ref a, y] ∧ H a = some (exo a C none) ∧ ∀ dx, H dx = none → dx ≠ a → Q .non (upd (upd H dx (exd dx [(f, y)])) a (exo a C (some dx)))
def spX2 (C : Addr) (f g : Str) : Sp := fun vs H Q _ => ∃ a y z, vs = [.ref a, y, z] ∧ H a = some (exo a C none) ∧ ∀ dx, H dx = none → dx ≠ a → Q .non (upd (upd (upd H dx (exd dx [(f, y)])) a (exo a C (some dx))) dx (exd dx [(g, z), (f, y)]))
structure XcA (P : Program) (w : World) (K : PySem.W.Frag) (mg : Str → Option Value) (base : Heap) (k : Nat) (x : Str) (ps : List Str) (sp : Sp) : Prop where
  cls : OexC K (He.ga K x)
  ini : PySem.W.findIn K (.ref (He.ga K x)) "__init__" = some (some (.ref (He.ma K (He.ga K x) "__init__")))
  ty : PySem.W.typeIn K (.ref (He.ma K (He.ga K x) "__init__")) = some (.type "function")
  fn : ∃ fd, FnOk P w K mg base CX0 k (He.ma K (He.ga K x) "__init__") fd ps sp ∧ Binds K fd ps []
  glo : mg x = some (.ref (He.ga K x))
section
variable {X : Cx} {W : WX} {e : Expr} {es : List Expr} {pos p pos' : Pos} {x f g : Str} {K : PySem.W.Frag} {mas : FA} {B : Addr → Prop} {φ φ' : List Addr} {S S' : Sto} {H H' : Hp} {σ : L2.St} {ps : List Str} {j k : Nat}
/-- raise x(e, ..): ns the fields, last first -/
def mRaiseA (cls : Str) (ns : List Str) (as : FA) : FS := fun ρ S => (as ρ S).toS ρ fun xs S1 => match allD xs with
  | some ds => if ds.length = ns.length then .err ⟨cls, ns, ds.reverse⟩ ρ S1 else .stuck
  | none => .stuck
theorem fs_raise1 (F : XcA X.prog X.w X.K X.mg X.base j x ps (spX1 (He.ga X.K x) f)) (hr : Room k X.A) (tk : Takes X W) (ha : PA X (e :: es) (rdA X.K W mas)) (hjk : j + 1 ≤ k := by decide) (hc : X.calm = true := by rfl) (hg : Gl X x := by rfl) (hdb : (x == ("__debug__" : Str)) = false := by decide)
    (he : starEach (e :: es) X.env = (false, eval e X.env) :: starEach es X.env := by rfl) (hpl : (backTo pos (starEach es X.env)).any (·.1) = false := by rfl) : PS X (.Raise (some (.Call (.Name x p) (e :: es) [] pos)) none pos') (rdS X.K W (mRaiseA x [f] mas)) := by
  obtain ⟨fd, F1, hb⟩ := F.fn
  refine PS_imp (ps_raise hc tk (pmk_oex F.cls F.ini F.ty F1 (hr.mono hjk) hb .nil (fun _ _ _ _ _ _ _ h => h.elim) hg F.glo ha hdb he hpl)) fun D σ H h => ?_
  obtain ⟨B, φ, S, ρ, I, E, f'⟩ := h
  refine fins_bind I E f' fun φ1 S1 ds vs H1 I1 X1 E1 r f1 => ?_
  split at f1
  · rename_i xs q
    have l := allD_ok q r
    split at f1
    · rename_i hl
      match xs, hl with
      | [d], _ =>
        obtain ⟨v, ws, rfl, h1, h2⟩ := l
        cases h2
        refine ⟨by simp, fun a na => ⟨a, v, rfl, upd_same, fun dx ndx ne => ⟨rfl, dx, [(f, v)], upd_same, ?_, ?_, ?_⟩⟩⟩
        · rw [upd_ne ne, upd_same]
        · rw [upd_ne ne] at ndx; exact ndx
        · have n1 : H1 dx = none := by rw [upd_ne ne] at ndx; exact ndx
          have eH : (upd (del (upd (upd (upd H1 a (exo a (He.ga X.K x) none)) dx (exd dx [(f, v)])) a (exo a (He.ga X.K x) (some dx))) a) dx (.xd [(f, v)])) = upd H1 dx (.xd [(f, v)]) := by
            funext b
            unfold upd del
            by_cases hb : b = dx
            · rw [if_pos hb, if_pos hb]
            · rw [if_neg hb, if_neg hb]
              by_cases hba : b = a
              · rw [if_pos hba, hba]; exact na.symm
              · rw [if_neg hba]; simp only [if_neg hba, if_neg hb]
          rw [eH]
          have X2 := Ext.new (o := .xd [(f, v)]) I1 n1
          exact f1 φ1 σ _ _ _ (I1.new n1) X2 (E1.ext X2 I1) ⟨rfl, .inr ⟨dx, [v], rfl, upd_same, v, [], rfl, Rep.kp (X2.kp I1) _ _ h1, rfl⟩⟩
    · exact f1.elim
  · exact f1.elim
theorem fs_raise2 (F : XcA X.prog X.w X.K X.mg X.base j x ps (spX2 (He.ga X.K x) f g)) (hr : Room k X.A) (tk : Takes X W) (ha : PA X (e :: es) (rdA X.K W mas)) (hjk : j + 1 ≤ k := by decide) (hc : X.calm = true := by rfl) (hg : Gl X x := by rfl) (hdb : (x == ("__debug__" : Str)) = false := by decide)
    (he : starEach (e :: es) X.env = (false, eval e X.env) :: starEach es X.env := by rfl) (hpl : (backTo pos (starEach es X.env)).any (·.1) = false := by rfl) : PS X (.Raise (some (.Call (.Name x p) (e :: es) [] pos)) none pos') (rdS X.K W (mRaiseA x [g, f] mas)) := by
  obtain ⟨fd, F1, hb⟩ := F.fn
  refine PS_imp (ps_raise hc tk (pmk_oex F.cls F.ini F.ty F1 (hr.mono hjk) hb .nil (fun _ _ _ _ _ _ _ h => h.elim) hg F.glo ha hdb he hpl)) fun D σ H h => ?_
  obtain ⟨B, φ, S, ρ, I, E, f'⟩ := h
  refine fins_bind I E f' fun φ1 S1 ds vs H1 I1 X1 E1 r f1 => ?_
  split at f1
  · rename_i xs q
    have l := allD_ok q r
    split at f1
    · rename_i hl
      match xs, hl with
      | [d, d2], _ =>
        obtain ⟨v, ws, rfl, h1, u, ws', rfl, h2, h3⟩ := l
        cases h3
        refine ⟨by simp, fun a na => ⟨a, v, u, rfl, upd_same, fun dx ndx ne => ⟨rfl, dx, [(g, u), (f, v)], ?_, upd_same, ?_, ?_⟩⟩⟩
        · rw [upd_ne (Ne.symm ne), upd_same]
        · rw [upd_ne ne] at ndx; exact ndx
        · have n1 : H1 dx = none := by rw [upd_ne ne] at ndx; exact ndx
          have eH : (upd (del (upd (upd (upd (upd H1 a (exo a (He.ga X.K x) none)) dx (exd dx [(f, v)])) a (exo a (He.ga X.K x) (some dx))) dx (exd dx [(g, u), (f, v)])) a) dx (.xd [(g, u), (f, v)])) = upd H1 dx (.xd [(g, u), (f, v)]) := by
            funext b
            unfold upd del
            by_cases hb : b = dx
            · rw [if_pos hb, if_pos hb]
            · rw [if_neg hb, if_neg hb]
              by_cases hba : b = a
              · rw [if_pos hba, hba]; exact na.symm
              · rw [if_neg hba]; simp only [if_neg hba, if_neg hb]
          rw [eH]
          have X2 := Ext.new (o := .xd [(g, u), (f, v)]) I1 n1
          exact f1 φ1 σ _ _ _ (I1.new n1) X2 (E1.ext X2 I1) ⟨rfl, .inr ⟨dx, [u, v], rfl, upd_same, u, [v], rfl, Rep.kp (X2.kp I1) _ _ h2, v, [], rfl, Rep.kp (X2.kp I1) _ _ h1, rfl⟩⟩
    · exact f1.elim
  · exact f1.elim
end
end PH

namespace PH
open PySem PySem.Spec PyProof.Rows L2
/-- the classes cs stand beside each other -/
def XMs (K : PySem.W.Frag) (cs : List Str) : Prop := ∀ c ∈ cs, ∀ d ∈ cs, PySem.W.exmOne K (.ref (He.ga K c)) (.ref (He.ga K d)) = some (decide (c = d))
def xmB (K : PySem.W.Frag) (cs : List Str) : Bool := cs.all fun c => cs.all fun d => decide (PySem.W.exmOne K (.ref (He.ga K c)) (.ref (He.ga K d)) = some (decide (c = d)))
theorem xmB_ok {K : PySem.W.Frag} {cs : List Str} (h : xmB K cs = true) : XMs K cs := fun c hc d hd => of_decide_eq_true (List.all_eq_true.mp (List.all_eq_true.mp h c hc) d hd)
section
variable {X : Cx} {W : WX} {e a b c o i : Expr} {es rest : List Expr} {pos p q p2 tpos apos cpos pos' np : Pos} {x y z f mn : Str} {K : PySem.W.Frag} {ma mb mc mo mx : FE} {mas : FA} {B : Addr → Prop} {φ φ' : List Addr} {S S' : Sto} {H H' : Hp} {σ : L2.St} {Q : VK} {m n : FS} {D : Ends} {cs : List Str}
/-- what runs behind an error -/
def handle (cs : List Str) : List (Str × FS) → Er → Ev → Sto → Out
  | [], e, ρ, S => .err e ρ S
  | (c, m) :: r, e, ρ, S => if e.cls = c then (match m ρ S with
      | .err _ _ _ => .stuck
      | o => o) else handle cs r e ρ S
def mTryN (cs : List Str) (m : FS) (hs : List (Str × FS)) : FS := fun ρ S => match m ρ S with
  | .err e ρ' S' => if e.cls ∈ cs ∧ ∀ h ∈ hs, h.1 ∈ cs then handle cs hs e ρ' S' else .stuck
  | o => o
theorem FinS.wNo {o : Out} (f : FinS K W D B φ S H (match o with | .err _ _ _ => .stuck | o => o)) : FinS K PH.wNo D B φ S H o := by
  cases o with
  | err e ρ S' => exact f.elim
  | next ρ S' => exact f
  | ret d S' => exact f
  | brk ρ S' => exact f
  | cnt ρ S' => exact f
  | stuck => exact f
def hsR (K : PySem.W.Frag) (hs : List (Str × FS)) : List (Value × (Addr → Value → Option Addr → TS)) := hs.map fun h => (.ref (He.ga K h.1), fun _ _ _ => rdS K wNo h.2)
theorem handle_ok {e : Er} {c : Value} {d : Option Addr} {Wout : WX} (M : XMs K cs) (he : e.cls ∈ cs) (rx : RepX K B φ S H e c d) (I : GInv K B φ S H) {ρ : Ev} (E : RepE K B φ S H ρ σ) : ∀ {hs : List (Str × FS)}, (∀ h ∈ hs, h.1 ∈ cs) → FinS K Wout D B φ S H (handle cs hs e ρ S) → wMany K Wout D (hsR K hs) c d σ H
  | [], _, f => f φ σ c d H I Ext.refl E rx
  | (c', m) :: r, hc, f => by
    unfold handle at f
    have q := M e.cls he c' (hc _ (List.mem_cons_self ..))
    have ec : c = .ref (He.ga K e.cls) := rx.1
    refine ⟨decide (e.cls = c'), by rw [ec]; exact q, fun h a na => ?_, fun h => ?_⟩
    · rw [if_pos (of_decide_eq_true h)] at f
      exact ⟨B, φ, S, ρ, I, E, f.wNo⟩
    · rw [if_neg (of_decide_eq_false h)] at f
      exact handle_ok M he rx I E (hs := r) (fun h hh => hc h (List.mem_cons_of_mem _ hh)) f
theorem sim_tryN {hs : List (Str × FS)} (M : XMs K cs) (h : rdS K W (mTryN cs m hs) D σ H) : rdS K (wMany K W D (hsR K hs)) m D σ H := by
  obtain ⟨B, φ, S, ρ, I, E, f⟩ := h
  refine ⟨B, φ, S, ρ, I, E, ?_⟩
  unfold mTryN at f
  cases q : m ρ S with
  | err e ρ' S' =>
    rw [q] at f
    dsimp only at f
    split at f
    · rename_i hh
      exact fun φ' σ' c x H' I' X' E' r => handle_ok M hh.1 r I' E' hh.2 (FinS.ext f X')
    · exact f.elim
  | next ρ S' => rw [q] at f; exact f
  | ret d S' => rw [q] at f; exact f
  | brk ρ S' => rw [q] at f; exact f
  | cnt ρ S' => rw [q] at f; exact f
  | stuck => rw [q] at f; exact f
theorem fs_tryN {body : List Stmt} {h₀ : ExceptHandler} {hds : List ExceptHandler} {hs' : List (Str × FS)} (M : XMs X.K cs) (hs : X.stack = X.env :: X.outer) (hf : X.env.frame = some X.env.locals) (tk : Takes X W)
    (hb : ∀ (W : WX) (pn : List (Addr × Obj)) (xe : Value → Shared → Prop), Takes (X.tr pn xe) W → PassesOwn (model X.prog X.w) X.A X.env xe → PSs (X.tr pn xe) body (rdS X.K W m))
    (hh : HdsOk X (h₀ :: hds) (hsR X.K hs')) : PS X (.Try body (h₀ :: hds) [] [] pos) (rdS X.K W (mTryN cs m hs')) := PS_imp (ps_try_many (tb := fun W => rdS X.K W m) hs hf tk hb hh) fun D σ H h => sim_tryN M h
theorem hd_nil : HdsOk X [] (hsR X.K []) := .nil
theorem hd_cons {b₀ : Stmt} {suite : List Stmt} {hds : List ExceptHandler} {m : FS} {hs' : List (Str × FS)} (g : X.mg x = some (.ref (He.ga X.K x)))
    (hsu : ∀ (a : Addr) (oe : Obj) (cls : Value) (d : Option Addr) (pn : List (Addr × Obj)), PSs (X.suite a ((a, oe) :: pn)) (b₀ :: suite) (rdS X.K wNo m)) (r : HdsOk X hds (hsR X.K hs')) (hg : Gl X x := by rfl) (hd : (x == ("__debug__" : Str)) = false := by decide) :
    HdsOk X (.ExceptHandler (some (.Name x np)) none (b₀ :: suite) pos' :: hds) (hsR X.K ((x, m) :: hs')) := .cons ⟨hg, hd, .inl g⟩ (fun a oe cls d pn _ _ => hsu a oe cls d pn) r
inductive XIt where
  | c (v : L2.V) (d : PH.D) | f (n : Str)
def itR (a : Addr) (cls : Value) (d : Option Addr) (C : Addr) (i : Nat) : List XIt → TA
  | [] => tNil
  | .c v _ :: r => tCons (tC v) (itR a cls d C i r)
  | .f n :: r => tCons (tXf a cls d C n (cVar i)) (itR a cls d C i r)
def itF (e : Er) : List XIt → Option (List PH.D)
  | [] => some []
  | .c _ d :: r => match itF e r with
    | some ds => some (d :: ds)
    | none => none
  | .f n :: r => match (e.ns.zip e.xs).lookup n, itF e r with
    | some d, some ds => some (d :: ds)
    | _, _ => none
/-- the constants are what they say -/
def itOk : List XIt → Prop
  | [] => True
  | .c v d :: r => (∀ (K : PySem.W.Frag) (Bk : Addr → Prop) (H : Hp), Rep K Bk H d v) ∧ itOk r
  | .f _ :: r => itOk r
theorem itR_ok {e : Er} {cl : Value} {x : Option Addr} {C : Str} {k : Nat} {a : Addr} {its : List XIt} {ds : List PH.D} {Q : List L2.V → Hp → Prop} (ok : itOk its) (rx : RepX K B φ S H e cl x) (hC : e.cls = C) (hσ : sl σ k = some (.ref a)) (h : itF e its = some ds)
    (q : ∀ vs, RepL K (Blk B φ S) H ds vs → Q vs H) : itR a cl x (He.ga K C) k its σ H Q := by
  induction its generalizing ds Q with
  | nil => cases h; exact q [] rfl
  | cons it r ih =>
    cases it with
    | c v d =>
      unfold itF at h
      cases q1 : itF e r with
      | none => rw [q1] at h; cases h
      | some es =>
        rw [q1] at h
        cases h
        exact ih ok.2 q1 fun vs l => q (v :: vs) ⟨v, vs, rfl, ok.1 _ _ _, l⟩
    | f n =>
      unfold itF at h
      cases q0 : (e.ns.zip e.xs).lookup n with
      | none => rw [q0] at h; cases h
      | some d =>
        cases q1 : itF e r with
        | none => rw [q0, q1] at h; cases h
        | some es =>
          rw [q0, q1] at h
          cases h
          obtain ⟨ec, rest⟩ := rx
          subst hC
          rcases rest with ⟨e1, _⟩ | ⟨dd, us, e1, e2, l⟩
          · rw [e1] at q0; simp at q0
          · obtain ⟨v, h2, h3⟩ := zip_look l q0
            show (match sl σ k with | some v => _ | none => False)
            rw [hσ]
            exact ⟨rfl, ec, dd, _, v, e1, e2, h2, ih ok q1 fun vs l => q (v :: vs) ⟨v, vs, rfl, h3, l⟩⟩
def mTryA (cs : List Str) (m : FS) (c : Str) (k : Nat) (its : List XIt) : FS := fun ρ S => match m ρ S with
  | .err e ρ' S' => if (e.cls ∈ cs ∧ c ∈ cs) ∧ k < ρ'.length then (if e.cls = c then (match itF e its with
      | some ds => if ds.length ≤ sizeLine then .ret (.dat (.tup ds)) S' else .stuck
      | none => .stuck) else .err e ρ' S') else .stuck
  | o => o
theorem sl_of : ∀ {σ : L2.St} {i : Nat} {v : L2.V}, σ[i]? = some (some v) → sl σ i = some v
  | [], _, _, h => by simp at h
  | x :: _, 0, v, h => by simp at h; exact h
  | _ :: r, n + 1, v, h => sl_of (σ := r) (i := n) (by simpa using h)
theorem sim_tryA {c : Str} {its : List XIt} {k : Nat} (M : XMs K cs) (ok : itOk its) (h : rdS K W (mTryA cs m c k its) D σ H) : rdS K (wAs K (.ref (He.ga K c)) k (fun a cls d => tRet (tTup (itR a cls d (He.ga K c) k its))) W D) m D σ H := by
  obtain ⟨B, φ, S, ρ, I, E, f⟩ := h
  refine ⟨B, φ, S, ρ, I, E, ?_⟩
  unfold mTryA at f
  cases q : m ρ S with
  | err e ρ' S' =>
    rw [q] at f
    dsimp only at f
    split at f
    · rename_i hh
      intro φ' σ' c' x H' I' X' E' r
      have q1 := M e.cls hh.1.1 c hh.1.2
      have hl : k < σ'.length := by rw [← E'.1]; exact hh.2
      refine ⟨decide (e.cls = c), by rw [r.1]; exact q1, fun h a na => ?_, fun h => ?_⟩
      · have ec := of_decide_eq_true h
        rw [if_pos ec] at f
        split at f
        · rename_i ds qd
          split at f
          · rename_i hs
            refine itR_ok ok r ec (sl_of (by rw [List.getElem?_set, if_pos rfl, if_pos hl])) qd fun vs l => ⟨by rw [l.len]; exact hs, fun p hp => ?_⟩
            have X2 := Ext.new (o := .tup vs) I' hp
            exact f φ' _ _ (I'.new hp) (X'.trans X2) ⟨p, vs, rfl, .inl (.inl upd_same), X2.repL I' l⟩
          · exact f.elim
        · exact f.elim
      · rw [if_neg (of_decide_eq_false h)] at f
        exact f φ' σ' c' x H' I' X' E' r
    · exact f.elim
  | next ρ S' => rw [q] at f; exact f
  | ret d S' => rw [q] at f; exact f
  | brk ρ S' => rw [q] at f; exact f
  | cnt ρ S' => rw [q] at f; exact f
  | stuck => rw [q] at f; exact f
theorem xa_nil {a : Addr} {cls : Value} {d : Option Addr} {C : Addr} {k : Nat} : PA X [] (itR a cls d C k []) := pa_nil
theorem xa_c {a : Addr} {cls : Value} {d : Option Addr} {C : Addr} {k : Nat} {v : L2.V} {dd : PH.D} {its : List XIt} (h : PE X e (tC v)) (r : PA X es (itR a cls d C k its)) (hs : starEach (e :: es) X.env = (false, eval e X.env) :: starEach es X.env := by rfl) : PA X (e :: es) (itR a cls d C k (.c v dd :: its)) := pa_cons h r hs
/-- what is known of the class c of a caught error: its fields may be read -/
theorem xa_f {a : Addr} {oe : Obj} {cls : Value} {d : Option Addr} {C : Addr} {k : Nat} {pn : List (Addr × Obj)} {nm : Str} {its : List XIt} (T : XfC X.K C) (hno : PySem.W.findIn X.K (.ref C) nm = some none) (hz : Zc cls d oe) (hf : ∃ vs, oe.data = .fields vs) (he : PE (X.suite a ((a, oe) :: pn)) e (cVar k)) (r : PA (X.suite a ((a, oe) :: pn)) es (itR a cls d C k its))
    (hb : attributeBase e nm X.env (eval e X.env) = eval e X.env := by rfl) (hs : starEach (.Attribute e nm pos :: es) X.env = (false, eval (.Attribute e nm pos) X.env) :: starEach es X.env := by rfl) : PA (X.suite a ((a, oe) :: pn)) (.Attribute e nm pos :: es) (itR a cls d C k (.f nm :: its)) := pa_cons (pe_xf T hno hz hf he hb) r hs
theorem fs_tryA {body : List Stmt} {b₀ : Stmt} {suite : List Stmt} {nm : Str} {k : Nat} {its : List XIt} (M : XMs X.K cs) (ok : itOk its) (hs : X.stack = X.env :: X.outer) (hf : X.env.frame = some X.env.locals) (hN : X.N.Nodup) (hi : X.N[k]? = some nm) (hln : X.env.kindOf nm = some .local) (g : X.mg x = some (.ref (He.ga X.K x))) (tk : Takes X W)
    (hb : ∀ (W : WX) (pn : List (Addr × Obj)) (xe : Value → Shared → Prop), Takes (X.tr pn xe) W → PassesOwn (model X.prog X.w) X.A X.env xe → PSs (X.tr pn xe) body (rdS X.K W m))
    (hsu : ∀ (a : Addr) (oe : Obj) (cls : Value) (d : Option Addr) (pn : List (Addr × Obj)), Zc cls d oe → (∃ vs, oe.data = .fields vs) → PSs (X.suite a ((a, oe) :: pn)) (b₀ :: suite) (tRet (tTup (itR a cls d (He.ga X.K x) k its)))) (hg : Gl X x := by rfl) (hd : (x == ("__debug__" : Str)) = false := by decide) :
    PS X (.Try body [.ExceptHandler (some (.Name x np)) (some nm) (b₀ :: suite) pos'] [] [] pos) (rdS X.K W (mTryA cs m x k its)) :=
  PS_imp (ps_try_as (tb := fun W => rdS X.K W m) hs hf hN hi hln ⟨hg, hd, .inl g⟩ tk hb hsu) fun D σ H h => sim_tryA M ok h
end
end PH

namespace PH
open PySem PySem.Spec PyProof.Rows L2
def limits : List (Str × Nat × Int × Int) := [("go", 1, -9, 9), ("turn", 1, 1, 3), ("mirror", 0, 0, 0), ("scale", 1, -3, 3), ("aim", 2, -9, 9), ("place", 2, -9, 9), ("mark", 0, 0, 0), ("return", 0, 0, 0), ("exchange", 0, 0, 0)]
def limAt (K : PySem.W.Frag) (z : Str) : Addr := match PySem.W.nsIn K (He.ga K "LIMITS") z with
  | some (some (.ref a)) => a
  | _ => 0
structure Lim (K : PySem.W.Frag) : Prop where
  pos : ∀ z m lo hi, limits.lookup z = some (m, lo, hi) → PySem.W.nsIn K (He.ga K "LIMITS") z = some (some (.ref (limAt K z))) ∧ ∀ H, SqT K H (limAt K z) [.int (m : Nat), .int lo, .int hi]
  neg : ∀ z, limits.lookup z = none → PySem.W.nsIn K (He.ga K "LIMITS") z = some none
section
variable {X : Cx} {W : WX} {e a b c o i : Expr} {es rest : List Expr} {pos p q p2 tpos apos cpos pos' np : Pos} {x y z f mn C : Str} {K : PySem.W.Frag} {ma mb mc mo mx : FE} {mas : FA} {B : Addr → Prop} {φ φ' : List Addr} {S S' : Sto} {H H' : Hp} {σ : L2.St} {Q : VK} {m n : FS} {D : Ends} {ps : List Str} {md : FD} {j k : Nat}
def fInLim (neg : Bool) (x : Vl) (S : Sto) : Res Vl := match x with
  | .dat (.str z) => .ok (.dat (.bl (if neg then (limits.lookup z).isNone else (limits.lookup z).isSome))) S
  | _ => .stuck
def fLim (x : Vl) (S : Sto) : Res Vl := match x with
  | .dat (.str z) => (match limits.lookup z with
    | some (m, lo, hi) => .ok (.dat (.tup [.int (m : Nat), .int lo, .int hi])) S
    | none => .stuck)
  | _ => .stuck
theorem s_notLim (L : Lim K) {x : L2.V} {d : Vl} (I : GInv K B φ S H) (r : RepV K B φ S H d x) (f : Fin K W σ (RepV K) B φ S H (fInLim true d S) Q) : cInKd K (He.ga K "LIMITS") true x (.ref (He.ga K "LIMITS")) H Q := by
  unfold fInLim at f
  split at f
  · rename_i z
    cases r
    cases q : limits.lookup z with
    | none =>
      refine ⟨rfl, none, L.neg z q, ?_⟩
      rw [q] at f
      exact Fin.now f I rfl
    | some t =>
      obtain ⟨m, lo, hi⟩ := t
      refine ⟨rfl, _, (L.pos z m lo hi q).1, ?_⟩
      rw [q] at f
      exact Fin.now f I rfl
  · exact f.elim
theorem ft_notLim {py : Pos} (L : Lim X.K) (D : ∃ es n, KDict X.K X.w (He.ga X.K "LIMITS") es n) (g : X.mg "LIMITS" = some (.ref (He.ga X.K "LIMITS"))) (ha : PE X a (rdE X.K W ma)) (hg : Gl X "LIMITS" := by rfl) (hm : behindInMarks .NotIn (.Name "LIMITS" py) = false := by rfl) : PT X (.Compare a [.NotIn] [.Name "LIMITS" py] pos) (rdT X.K W (mB (m1 (fInLim true) ma))) :=
  PT_imp (t_cmp (op_notIn_kdC D) ha (pe_glob (v := .ref (He.ga X.K "LIMITS")) hg g rfl) hm) fun σ H Q h => rd_bind (k := fun x _ S => fInLim true x S) (sim_B h) fun B φ S ρ d v H1 I E r f => s_notLim L I r f
theorem f_lim {py : Pos} (L : Lim X.K) (D : ∃ es n, KDict X.K X.w (He.ga X.K "LIMITS") es n) (g : X.mg "LIMITS" = some (.ref (He.ga X.K "LIMITS"))) (ha : PE X a (rdE X.K W ma)) (hg : Gl X "LIMITS" := by rfl) (hs : PlainIx a := by intro _ _; rfl) : PE X (.Subscript (.Name "LIMITS" py) a pos) (rdE X.K W (m1 fLim ma)) :=
  PE_imp (pe_ix (ix_kdC D) (pe_glob (v := .ref (He.ga X.K "LIMITS")) hg g rfl) ha hs) fun σ H Q h => rd_bind (k := fun x _ S => fLim x S) h fun B φ S ρ d v H1 I E r f => by
    unfold fLim at f
    split at f
    · rename_i z
      cases r
      split at f
      · rename_i m lo hi q
        obtain ⟨h1, h2⟩ := L.pos z m lo hi q
        exact ⟨rfl, _, .ref (limAt X.K z), h1, rfl, Fin.now f I ⟨_, _, rfl, h2 H1, _, _, rfl, rfl, _, _, rfl, rfl, _, _, rfl, rfl, rfl⟩⟩
      · exact f.elim
    · exact f.elim
theorem call_lenX {sp : Sp} (F : OkMX X.prog X.w X.K X.mg X.base j C "__len__" ps sp) (hr : Room (j + 1) X.A) : CallR X (.builtin "len") (c1 (rLenO (He.ga X.K C) sp E0)) := by
  intro pins s σ H xs us Q I r h
  obtain ⟨⟨fd, F, hb⟩, mt⟩ := F
  match xs, h with
  | [x], h =>
    cases x with
    | ref a =>
      obtain ⟨dx, fs, ha, h⟩ := h
      cases r with
      | cons r1 r2 =>
        cases r1
        cases r2
        obtain ⟨mA, J, _⟩ := ins_get I.hok ha
        obtain ⟨od, J, _⟩ := J.look
        obtain ⟨fm, hF⟩ := I.fr
        refine PySem.W.len_K hF I.ok.mod.kin J mt.at_ mt.fn ?_
        have e := I.env0
        have hl := F.len _ _ _ _ h
        have b := hb s [.ref a] I.kIn (by simpa using hl)
        have run := F.run X.A.in1 X.stack s H ⟨[.ref a], []⟩ [.ref a] [.ref a] _ E0 hr.in1 ⟨e.frames, e.mod, e.bs, e.bsz, e.funs, e.frf, e.hok, e.bare⟩ (by simpa using b) (.cons rfl .nil) h
        refine wpAny_call (codeAny_mono run fun q s' hq => ?_)
        cases q with
        | error e => obtain ⟨_, _, _, _, _, _, _, _, _, _, _, _, z⟩ := hq; exact z.elim
        | ok fl =>
          cases fl with
          | ret w =>
            obtain ⟨z, H', I', rz, hz⟩ := I.after hq
            cases z with
            | int n =>
              obtain ⟨tk, rfl⟩ := rz
              exact ⟨⟨hz.1.1, by have := hz.1.2; omega⟩, .int n, H', I'.tok _, ⟨_, rfl⟩, hz.2⟩
            | _ => exact hz.elim
          | next => exact False.elim hq
          | brk => exact False.elim hq
          | cont => exact False.elim hq
    | _ => exact h.elim
theorem op_eqX {sp : Sp} (F : OkMX X.prog X.w X.K X.mg X.base j C "__eq__" ps sp) (hr : Room k X.A) (hjk : j ≤ k := by decide) : OpR X (compareOp .Eq) (rEqO (He.ga X.K C) sp) := by
  intro pins s σ H x y v u Q I rx ry h
  obtain ⟨⟨fd, F, hb⟩, mt⟩ := F
  replace hr := hr.mono hjk
  cases x with
  | ref a =>
    cases y with
    | ref b =>
      obtain ⟨dx, fs, dy, gs, ha, hb', h⟩ := h
      cases rx
      cases ry
      show wpAny (model X.prog X.w) X.A (richCompare .Eq (.ref a) (.ref b)) (EP X pins σ Q) X.xe s
      obtain ⟨mA, J, _⟩ := ins_get I.hok ha
      obtain ⟨mB, J', _⟩ := ins_get I.hok hb'
      obtain ⟨od, J, _⟩ := J.look
      obtain ⟨od', J', _⟩ := J'.look
      obtain ⟨fm, hF⟩ := I.fr
      refine PySem.W.cmp_K (op := .Eq) (tb := .ref (He.ga X.K C)) hr.units0 hF I.ok.mod.kin J J'.type (by simp [PySem.W.notFirst]) mt.at_ mt.fn ?_
      have e := I.env0
      have hl := F.len _ _ _ _ h
      have b1 := hb s [.ref a, .ref b] I.kIn (by simpa using hl)
      have run := F.run X.A X.stack s H ⟨[.ref a, .ref b], []⟩ [.ref a, .ref b] [.ref a, .ref b] _ E0 hr e (by simpa using b1) (.cons rfl (.cons rfl .nil)) h
      refine wpAny_call (codeAny_mono run fun q s' hq => ?_)
      cases q with
      | error e => obtain ⟨_, _, _, _, _, _, _, _, _, _, _, _, z⟩ := hq; exact z.elim
      | ok fl =>
        cases fl with
        | ret w =>
          obtain ⟨z, H', I', rz, hz⟩ := I.after hq
          cases z with
          | bl r =>
            cases rz
            exact ⟨.bl r, H', I', rfl, hz⟩
          | _ => exact hz.elim
        | next => exact False.elim hq
        | brk => exact False.elim hq
        | cont => exact False.elim hq
    | _ => exact h.elim
  | _ => cases y <;> exact h.elim
/-- no error, an int -/
def lenR (r : Res Vl) : Res Vl := match r with
  | .ok (.dat (.int n)) S => if 0 ≤ n ∧ n < 2 ^ 62 then .ok (.dat (.int n)) S else .stuck
  | _ => .stuck
def fLenO (C : Str) (md : FD) (x : Vl) (S : Sto) : Res Vl := if isIns S C "__len__" x = true then lenR (md [x] S) else .stuck
theorem f_lenO (hm : X.mg "len" = none) (F : OkMX X.prog X.w X.K X.mg X.base j C "__len__" ps (spF X.K md)) (hr : Room k X.A) (ha : PE X a (rdE X.K W ma)) (hjk : j + 1 ≤ k := by decide) (hg : Gl X "len" := by rfl) (hs : starEach [a] X.env = [(false, eval a X.env)] := by rfl) : PE X (.Call (.Name "len" p) [a] [] pos) (rdE X.K W (m1 (fLenO C md) ma)) :=
  PE_imp (pe_callB (call_lenX F (hr.mono hjk)) hg hm boot_len (pa_cons ha pa_nil hs) (he := hs)) fun σ H Q h => rd_bind (k := fun x _ S => fLenO C md x S) h fun B φ S ρ d v H1 I E r f => by
    unfold fLenO at f
    split at f
    · rename_i hi
      obtain ⟨a, dx, fs, rfl, h1, h2⟩ := ins_ok I r hi
      refine ⟨dx, fs, h1, B, φ, S, [d], I, ⟨_, _, rfl, r, rfl⟩, ?_⟩
      unfold lenR at f
      split at f
      · rename_i n S' q
        rw [q]
        split at f
        · rename_i hn
          intro φ' v H' I' X' r'
          cases r'
          exact ⟨hn, f φ' _ H' I' X' rfl⟩
        · exact f.elim
      · exact f.elim
    · exact f.elim
def boolR (r : Res Vl) : Res Vl := match r with
  | .ok (.dat (.bl n)) S => .ok (.dat (.bl n)) S
  | _ => .stuck
def fEqO (C : Str) (md : FD) (x y : Vl) (S : Sto) : Res Vl := if isIns S C "" x = true ∧ isIns S C "" y = true then boolR (md [x, y] S) else .stuck
theorem s_eqO : SimOp K (rEqO (He.ga K C) (spF K md)) (fEqO C md) := fun {W σ B φ S H x y d e Q} I r1 r2 f => by
  unfold fEqO at f
  split at f
  · rename_i hi
    obtain ⟨a, dx, fs, rfl, h1, h2⟩ := ins_ok I r1 hi.1
    obtain ⟨b, dy, gs, rfl, h3, h4⟩ := ins_ok I r2 hi.2
    refine ⟨dx, fs, dy, gs, h1, h3, B, φ, S, [d, e], I, ⟨_, _, rfl, r1, _, _, rfl, r2, rfl⟩, ?_⟩
    unfold boolR at f
    split at f
    · rename_i n S' q
      rw [q]
      intro φ' v H' I' X' r'
      cases r'
      exact f φ' _ H' I' X' rfl
    · exact f.elim
  · exact f.elim
def fIsC (C : Str) (x : Vl) (S : Sto) : Res Vl := if isIns S C "" x = true then .ok (.dat (.bl true)) S else .stuck
theorem f_isC {q : Pos} (T : IsF X.K C) (hm : X.mg "isinstance" = none) (g : X.mg C = some (.ref (He.ga X.K C))) (ha : PE X a (rdE X.K W ma)) (hg : Gl X "isinstance" := by rfl) (hgC : Gl X C := by rfl) (hdb : (C == ("__debug__" : Str)) = false := by decide)
    (hs : starEach [a, .Name C q] X.env = (false, eval a X.env) :: starEach [.Name C q] X.env := by rfl) : PE X (.Call (.Name "isinstance" p) [a, .Name C q] [] pos) (rdE X.K W (m1 (fIsC C) ma)) := PE_imp (e_isC T hm g ha hg hgC hdb hs) fun σ H Q h => rd_bind (k := fun x _ S => fIsC C x S) h fun B φ S ρ d v H1 I E r f => by
  unfold fIsC at f
  split at f
  · rename_i hi
    obtain ⟨a, dx, fs, rfl, h1, h2⟩ := ins_ok I r hi
    exact ⟨rfl, dx, fs, h1, Fin.now f I rfl⟩
  · exact f.elim
/-- a module's tuple -/
theorem f_gtup {d : PH.D} {x : Str} (g : X.mg x = some (.ref (He.ga X.K x))) (r : ∀ Bk H, Rep X.K Bk H d (.ref (He.ga X.K x))) (hg : Gl X x := by rfl) (hd : (x == ("__debug__" : Str)) = false := by decide) : PE X (.Name x pos) (rdE X.K W (mC d)) := fcst (pe_glob (v := .ref (He.ga X.K x)) hg g rfl hd) r
theorem f_gint {n : Int} {x : Str} (h : ∃ t, X.mg x = some (.int n t)) (hg : Gl X x := by rfl) (hd : (x == ("__debug__" : Str)) = false := by decide) : PE X (.Name x pos) (rdE X.K W (mC (.int n))) := fcst (e_gint h hg hd) fun _ _ => rfl
/-- {} -/
theorem f_dct : PE X (.Dict [] [] pos) (rdE X.K W (mC .dct)) := PE_imp pe_dnewK fun σ H Q h => by
  obtain ⟨B, φ, S, ρ, I, E, f⟩ := h
  exact fun p hp => f φ _ _ (I.new hp) (Ext.new I hp) ⟨p, rfl, I.nblk hp, upd_same⟩
end
section
variable {P : Program} {w : World} {K : PySem.W.Frag} {mg : Str → Option Value} {base : Heap}
def stuckD : FD := fun _ _ => .stuck
theorem okStuck {x : Str} {st : Stmt} {N ps : List Str} {k : Nat} (F : FnP K x st) (g : mg x = some (.ref (He.ga K x))) (S : FnScope N ps (defScope st))
    (bnd : ∀ (kV doc pm : Value) (an : Option Addr) (cdv ct : Value) (us : List Value), us.length = ps.length → bindArgs (PySem.W.fnOf x x (defArgs st) (defBody st) (defScope st) .none kV doc pm an cdv ct) ⟨us, []⟩ = pure (ps.zip us)) : OkX P w K mg base (k + 1) x ps (spF K stuckD) :=
  okX_of F g S (fun vs H Q E ⟨_, _, _, _, _, _, f⟩ => f.elim) bnd fun cdv A outer s H vs Q E hr ⟨_, _, _, _, _, _, f⟩ => f.elim
end
end PH

namespace PH
open PySem PySem.Spec PyProof.Rows L2
def tupAtB (K : PySem.W.Frag) (a : Addr) (vs : List V) : Bool := match K.lookup a with
  | some ⟨.type c, _, .seq its _, _⟩ => decide (c = "tuple") && (decide (its.size ≤ sizeLine) && He.relAll vs its.toList)
  | _ => false
theorem tupAtB_ok {K : PySem.W.Frag} {a : Addr} {vs : List V} (h : tupAtB K a vs = true) (H : Hp) : SqT K H a vs := by
  unfold tupAtB at h
  cases q : K.lookup a with
  | none => rw [q] at h; cases h
  | some o =>
    obtain ⟨oc, od, dt, osl⟩ := o
    rw [q] at h
    cases oc with
    | type c =>
      cases dt with
      | seq its n =>
        obtain ⟨h1, h2⟩ := He.ba (show (decide (c = "tuple") && (decide (its.size ≤ sizeLine) && He.relAll vs its.toList)) = true from h)
        obtain ⟨h3, h4⟩ := He.ba h2
        exact .inr ⟨_, its, n, q, congrArg Value.type (of_decide_eq_true h1), rfl, of_decide_eq_true h3, He.relAll_ok h4⟩
      | _ => cases h
    | _ => cases dt <;> cases h
/-- the keys that a table has -/
theorem SaysT_dic {fa : List He.Fa} {fn : List He.DefD} {ts : List He.Tab} {w : World} {K : PySem.W.Frag} (c : He.SaysT fa fn ts w K) (i : Nat) {t : He.Tab} (h : ts[i]? = some t := by rfl) : He.dicW K (t.1 K) = some (He.keysIn w.params t.2) := by
  have e : ts.map (fun t => He.dicW K (t.1 K)) = ts.map fun t => some (He.keysIn w.params t.2) := congrArg (fun z : He.AlT => z.2) c
  have e2 : (ts.map fun t => He.dicW K (t.1 K))[i]? = (ts.map fun t => some (He.keysIn w.params t.2))[i]? := by rw [e]
  rw [List.getElem?_map, List.getElem?_map, h] at e2
  exact Option.some.inj e2
theorem keys_miss {P : Params} {z : Str} : ∀ {l : List DictEntry} {ks : List Str}, l.map He.keyOf = He.keysIn P ks → z ∉ ks → (l.find? (·.key.isStr z) = none) ∧ l.any (·.refKey) = false
  | [], _, _, _ => ⟨rfl, rfl⟩
  | e :: r, [], h, _ => by cases h
  | e :: r, k :: ks, h, hz => by
    have h1 : He.keyOf e :: r.map He.keyOf = some (k, PyData.keyHash P k) :: He.keysIn P ks := h
    injection h1 with h2 h3
    obtain ⟨i1, i2⟩ := keys_miss h3 (fun m => hz (List.mem_cons_of_mem _ m))
    unfold He.keyOf at h2
    split at h2
    · rename_i x t q
      obtain ⟨h5, h6⟩ := Prod.mk.inj (Option.some.inj h2)
      have nz : e.key.isStr z = false := by
        rw [q]
        show decide (x = z) = false
        exact decide_eq_false fun e => hz (by rw [← e, h5]; exact List.mem_cons_self ..)
      constructor
      · rw [List.find?_cons, nz]; exact i1
      · rw [List.any_cons, i2, Bool.or_false]
        show e.refKey = false
        unfold DictEntry.refKey
        rw [q]
    · cases h2
theorem nsIn_miss {K : PySem.W.Frag} {P : Params} {a : Addr} {ks : List Str} {z : Str} (h : He.dicW K a = some (He.keysIn P ks)) (hz : z ∉ ks) : PySem.W.nsIn K a z = some none := by
  unfold He.dicW at h
  cases q : K.lookup a with
  | none => rw [q] at h; cases h
  | some o =>
    obtain ⟨oc, od, dt, osl⟩ := o
    rw [q] at h
    cases oc with
    | type c =>
      cases od with
      | none =>
        cases dt with
        | dict es n =>
          have h1 : (match decide (c = "dict") && (osl.isEmpty && !(a == sysModules)) with
            | true => some (es.toList.map He.keyOf)
            | false => none) = some (He.keysIn P ks) := h
          cases y : decide (c = "dict") && (osl.isEmpty && !(a == sysModules)) with
          | false => rw [y] at h1; cases h1
          | true =>
            rw [y] at h1
            obtain ⟨i1, i2⟩ := keys_miss (Option.some.inj h1) hz
            unfold PySem.W.nsIn
            rw [q]
            show (match es.toList.find? (·.key.isStr z) with | some e => some (some e.val) | none => if es.toList.any (·.refKey) then none else some none) = some none
            rw [i1, i2]
            rfl
        | _ => cases h
      | some b => cases dt <;> cases h
    | _ => cases od <;> cases dt <;> cases h
def limB (K : PySem.W.Frag) : Bool := limits.all fun q => He.eqO (PySem.W.nsIn K (He.ga K "LIMITS") q.1) (some (some (.ref (limAt K q.1)))) && tupAtB K (limAt K q.1) [.int (q.2.1 : Nat), .int q.2.2.1, .int q.2.2.2]
def limTab : He.Tab := (fun K => He.ga K "LIMITS", limits.map (·.1))
theorem lookup_mem' {κ β : Type} [BEq κ] [LawfulBEq κ] {z : κ} {v : β} : ∀ {l : List (κ × β)}, l.lookup z = some v → (z, v) ∈ l
  | [], h => by cases h
  | (k, u) :: r, h => by
    rw [List.lookup_cons] at h
    cases e : z == k with
    | true =>
      rw [e] at h
      have e2 : z = k := eq_of_beq e
      have e3 : u = v := Option.some.inj h
      rw [e2, e3]
      exact List.mem_cons_self ..
    | false =>
      rw [e] at h
      exact List.mem_cons_of_mem _ (lookup_mem' h)
theorem lookup_none {κ β : Type} [BEq κ] [LawfulBEq κ] {z : κ} : ∀ {l : List (κ × β)}, l.lookup z = none → z ∉ l.map (·.1)
  | [], _ => by simp
  | (k, u) :: r, h => by
    rw [List.lookup_cons] at h
    cases e : z == k with
    | true => rw [e] at h; cases h
    | false =>
      rw [e] at h
      have ne : z ≠ k := by simpa using e
      intro m
      rcases List.mem_cons.mp m with m | m
      · exact ne m
      · exact lookup_none h m
theorem lim_ok {K : PySem.W.Frag} {P : Params} (h : limB K = true) (d : He.dicW K (He.ga K "LIMITS") = some (He.keysIn P (limits.map (·.1)))) : Lim K where
  pos := fun z m lo hi e => by
    obtain ⟨h1, h2⟩ := He.ba (List.all_eq_true.mp h (z, m, lo, hi) (lookup_mem' e))
    exact ⟨He.eqO_ok h1, tupAtB_ok h2⟩
  neg := fun z e => nsIn_miss d (lookup_none e)
/-- a def's object is one -/
theorem FunD_fd {K : PySem.W.Frag} {x q : Str} {pa : Arguments} {bo : List Stmt} {sc : Scope} {dv : List V} {kw : List (Str × V)} {f : Addr} {fd : FuncData} (F : FunD K x q pa bo sc dv kw f fd) : ∃ oc od osl, K.lookup f = some ⟨oc, od, .func fd, osl⟩ := by
  obtain ⟨oc, od, dV, kV, doc, pm, an, cdv, ct, osl, _, lk, _⟩ := F.ex
  exact ⟨oc, od, osl, lk⟩
theorem law_endF {P : Program} {w : World} {K : PySem.W.Frag} {mg : Str → Option Value} {x : Str} {st : Stmt} {N ps : List Str} {k : Nat} {md : FD} {mb : FS} (F : FnP K x st) (S : FnScope N ps (defScope st)) (R : Runs md N.length ps.length mb)
    (bnd : ∀ (kV doc pm : Value) (an : Option Addr) (cdv ct : Value) (us : List Value), us.length = ps.length → bindArgs (PySem.W.fnOf x x (defArgs st) (defBody st) (defScope st) .none kV doc pm an cdv ct) ⟨us, []⟩ = pure (ps.zip us))
    (hbody : ∀ (base : Heap) (cdv : Value) (A : Around) (outer : List Env) (s : Shared) (H : Hp) (E : XK), Room k (A.deeper (envOfC x (defScope st) s.heap.objs.size (He.ga K x) cdv)) →
      PSs (cxOf (L2.CX P w) P w K mg base N x (defScope st) (He.ga K x) cdv A outer s H E) (defBody st) (rdS K (fun c x _ H => E c x H) mb)) :
    ∃ fd, (∀ (s : Shared) (us : List Value), us.length = ps.length → BindsTo s fd ⟨us, []⟩ (ps.zip us)) ∧ ∀ base, FnOk P w K mg base (L2.CX P w) (k + 1) (He.ga K x) fd ps (spF K md) := by
  obtain ⟨fd, F⟩ := F
  refine ⟨fd, fun s us hl => F.bindsA bnd s us hl, fun base => ?_⟩
  obtain ⟨oc, od, dV, kV, doc, pm, an, cdv, ct, osl, e, lk, hc⟩ := F.ex
  subst e
  exact fn_of lk hc.1 S (spF_len R) fun A outer s H vs Q E hr hsp => ⟨_, hbody base cdv A outer s H E hr, spF_body R hsp⟩
/-- the law's promise at the start -/
theorem law_start {K : PySem.W.Frag} {md : FD} {n : Nat} (h : ∀ ns : List Int, ns.length ≤ n → ∃ S, md [.scr ns] [] = .ok (.dat (.bl true)) S) (H : Hp) (a : Addr) (ns : List Int) (hl : ns.length ≤ n) (hO : Only H) (hS : SqL K H a (ns.map V.int)) : spF K md [.ref a] H (fun v _ => v = .bl true) fun _ _ _ => False := by
  obtain ⟨S, e⟩ := h ns hl
  refine ⟨fun _ => False, [], [], [.scr ns], ⟨rfl, fun n c a h => by simp at h, fun n m c c' a h => by simp at h, fun a ⟨n, c, h, _⟩ => by simp at h, fun a h => h.elim⟩, ⟨_, _, rfl, ⟨a, rfl, ?_⟩, rfl⟩, ?_⟩
  · rcases hS with (h | ⟨o, h⟩) | h
    · rcases hO a with q | ⟨o, xs, q⟩
      · rw [h] at q; cases q
      · rw [h] at q; cases q
    · exact .inl ⟨o, h⟩
    · exact .inr (.inr h)
  · rw [e]
    exact fun φ' v H' _ _ r => r
end PH

namespace PH
open PySem PySem.Spec PyProof.Rows L2
def oexB (K : PySem.W.Frag) (C : Addr) : Bool := match K.lookup C with
  | some ⟨.type "type", _, .cls cd, sl⟩ => (match cd.mro, sl.toList with
    | .ref C' :: bm, [_, _, _, _, some (.builtin n), _] => C' == C && n == "ValueError.__new__" && !cd.hasDel && cd.hasDict && PySem.HandSPX.refsVE bm
    | _, _ => false)
  | _ => false
theorem oexB_ok {K : PySem.W.Frag} {C : Addr} (q : oexB K C = true) : ∃ nm q N bs bm sn sub ab col dd k0 k1 k2 k3 k5, K.lookup C = some (excClassObj nm q C N bs bm true sn sub ab col dd k0 k1 k2 k3 k5 "ValueError.__new__") ∧ PySem.HandSPX.refsVE bm = true := by
  unfold oexB at q
  split at q
  · rename_i dd cd sl ho
    split at q
    · rename_i C' bm k0 k1 k2 k3 n k5 hm hs
      simp only [Bool.and_eq_true, beq_iff_eq, Bool.not_eq_true'] at q
      obtain ⟨⟨⟨⟨rfl, rfl⟩, hdel⟩, hdi⟩, hbm⟩ := q
      obtain ⟨nm, bs, mro, ns, qn, hd, sn, sub, ab, col, del⟩ := cd
      dsimp only at hm hdel hdi
      subst hm hdel hdi
      have hsl : sl = #[k0, k1, k2, k3, some (.builtin "ValueError.__new__"), k5] := by
        obtain ⟨l⟩ := sl
        simp only at hs
        rw [hs]
      subst hsl
      exact ⟨nm, qn, ns, bs, bm, sn, sub, ab, col, dd, k0, k1, k2, k3, k5, ho, hbm⟩
    · cases q
  · cases q
structure XaF (K : PySem.W.Frag) (mg : Str → Option Value) (x : Str) (fs : List Str) : Prop where
  cls : OexC K (He.ga K x)
  ini : PySem.W.findIn K (.ref (He.ga K x)) "__init__" = some (some (.ref (He.ma K (He.ga K x) "__init__")))
  ty : PySem.W.typeIn K (.ref (He.ma K (He.ga K x) "__init__")) = some (.type "function")
  glo : mg x = some (.ref (He.ga K x))
  rd : XfC K (He.ga K x)
  no : ∀ f ∈ fs, PySem.W.findIn K (.ref (He.ga K x)) f = some none
def xaB (K : PySem.W.Frag) (x : Str) (fs : List Str) : Bool := oexB K (He.ga K x) && (decide (PySem.W.findIn K (.ref (He.ga K x)) "__setattr__" = some (some (.builtin "object.__setattr__"))) && (decide (PySem.W.subIn K (.ref (He.ga K x)) (.type "BaseException") = some true) && (decide (PySem.W.typeIn K (.ref (He.ga K x)) = some (.type "type")) && (PySem.W.keepIn K (.ref (He.ga K x)) && (decide (PySem.W.findIn K (.ref (He.ga K x)) "__init__" = some (some (.ref (He.ma K (He.ga K x) "__init__")))) && (decide (PySem.W.typeIn K (.ref (He.ma K (He.ga K x) "__init__")) = some (.type "function")) && (xfB K (He.ga K x) && fs.all fun f => decide (PySem.W.findIn K (.ref (He.ga K x)) f = some none))))))))
theorem xaB_ok {K : PySem.W.Frag} {mg : Str → Option Value} {x : Str} {fs : List Str} (h : xaB K x fs = true) (g : mg x = some (.ref (He.ga K x))) : XaF K mg x fs := by
  obtain ⟨h1, h⟩ := He.ba h
  obtain ⟨h2, h⟩ := He.ba h
  obtain ⟨h3, h⟩ := He.ba h
  obtain ⟨h4, h⟩ := He.ba h
  obtain ⟨h5, h⟩ := He.ba h
  obtain ⟨h6, h⟩ := He.ba h
  obtain ⟨h7, h⟩ := He.ba h
  obtain ⟨h8, h9⟩ := He.ba h
  exact ⟨⟨oexB_ok h1, of_decide_eq_true h2, of_decide_eq_true h3, of_decide_eq_true h4, h5⟩, of_decide_eq_true h6, of_decide_eq_true h7, g, xfB_ok h8, fun f hf => of_decide_eq_true (List.all_eq_true.mp h9 f hf)⟩
section
variable {P : Program} {w : World} {K : PySem.W.Frag} {mg : Str → Option Value} {base : Heap}
theorem spX1_len {C : Addr} {f a b : Str} : ∀ vs H Q E, spX1 C f vs H Q E → vs.length = [a, b].length := fun vs H Q E ⟨_, _, e, _⟩ => by rw [e]; rfl
theorem spX2_len {C : Addr} {f g a b c : Str} : ∀ vs H Q E, spX2 C f g vs H Q E → vs.length = [a, b, c].length := fun vs H Q E ⟨_, _, _, e, _⟩ => by rw [e]; rfl
/-- the __init__ of an exception class, walked -/
theorem okInit {x m q : Str} {fs : List Str} {st : Stmt} {N ps : List Str} {k : Nat} {sp : Sp} (T : XaF K mg x fs) (F : FnM K x "__init__" q st) (S : FnScope N ps (defScope st)) (len : ∀ vs H Q E, sp vs H Q E → vs.length = ps.length)
    (bnd : ∀ (kV doc pm : Value) (an : Option Addr) (cdv ct : Value) (us : List Value), us.length = ps.length → bindArgs (PySem.W.fnOf "__init__" q (defArgs st) (defBody st) (defScope st) .none kV doc pm an cdv ct) ⟨us, []⟩ = pure (ps.zip us))
    (hbody : ∀ (cdv : Value) (A : Around) (outer : List Env) (s : Shared) (H : Hp) (vs : List V) (Q : VK) (E : XK), Room k (A.deeper (envOfC q (defScope st) s.heap.objs.size (He.ma K (He.ga K x) "__init__") cdv)) → sp vs H Q E →
      ∃ t, PSs (cxOf CX0 P w K mg base N q (defScope st) (He.ma K (He.ga K x) "__init__") cdv A outer s H E).nox (defBody st) t ∧ t { nx := fun _ H' => Q .non H', rt := Q } (start N vs) H) : XcA P w K mg base (k + 1) x ps sp := by
  obtain ⟨fd, F⟩ := F
  refine ⟨T.cls, T.ini, T.ty, ⟨fd, FunD.ok F S len fun cdv A outer s H vs Q E hr hsp => ?_, F.bindsN bnd⟩, T.glo⟩
  obtain ⟨t, h, q⟩ := hbody cdv A outer s H vs Q E hr hsp
  exact ⟨t, h.nox, q⟩
end
section
variable {X : Cx} {W : WX} {e a b c o i : Expr} {es rest : List Expr} {pos p q p2 tpos apos cpos pos' np : Pos} {x y z f mn C : Str} {K : PySem.W.Frag} {ma mb mc mo mx : FE} {mas : FA} {B : Addr → Prop} {φ φ' : List Addr} {S S' : Sto} {H H' : Hp} {σ : L2.St} {Q : VK} {m n : FS} {D : Ends} {ps : List Str} {md : FD} {j k : Nat}
theorem fs_par {i j : Nat} {px py pt : Pos} {kt k2 pt2} (hc : X.calm = true) (hN : X.N.Nodup) (hi : X.N[i]? = some x) (hj : X.N[j]? = some y) (hij : i ≠ j)
    (hx : X.env.scope.names.lookup x = some .local) (hy : X.env.scope.names.lookup y = some .local) (ha : PE X a (rdE X.K W ma)) (hb : PE X b (rdE X.K W mb))
    (hw : swappedStores [.Tuple [.Name x px, .Name y py] kt pt] (.Tuple [a, b] k2 pt2) X.env = pure (some [x, y]))
    (hs : swapsWithSole [.Tuple [.Name x px, .Name y py] kt pt] (.Tuple [a, b] k2 pt2) pos.line X.env = pure false := by rfl) (h1 : starEach [a, b] X.env = (false, eval a X.env) :: starEach [b] X.env := by rfl) (h2 : starEach [b] X.env = (false, eval b X.env) :: starEach [] X.env := by rfl) :
    PS X (.Assign [.Tuple [.Name x px, .Name y py] kt pt] (.Tuple [a, b] k2 pt2) pos) (rdS X.K W (mPar i j ma mb)) := PS_imp (ps_par hc hN hi hj hij hx hy (pa_cons ha (pa_cons hb pa_nil h2) h1) hw hs) fun D σ H h => by
  obtain ⟨B, φ, S, ρ, I, E, f⟩ := h
  exact fins_bind I E f fun φ1 S1 d1 v1 H1 I1 X1 E1 r1 f1 => fins_bind I1 E1 f1 fun φ2 S2 d2 v2 H2 I2 X2 E2 r2 f2 => ⟨_, _, rfl, f2 φ2 _ H2 I2 Ext.refl ((E2.set (r1.ext X2 I1) i).set r2 j)⟩
def rrngD (n : Nat) : List PH.D := (List.range n).map fun (k : Nat) => PH.D.int (((n : Nat) : Int) - 1 - (k : Int))
def mRevR1 (a : FE) : FI := fun ρ S => (a ρ S).bind fun x S1 => match x with
  | .dat (.int j) => if -(2 ^ 62) ≤ j ∧ j < 2 ^ 62 then .ok (rrngD j.toNat) S1 else .stuck
  | _ => .stuck
theorem fi_revR1 {tg : Expr} {p0 pos0 : Pos} (hg : Gl X "reversed") (hm : X.mg "reversed" = none) (hg1 : Gl X "range") (hm1 : X.mg "range" = none) (ha : PE X a (rdE X.K W ma)) (na : starEach [a] X.env = (false, eval a X.env) :: starEach [] X.env := by rfl)
    (hs : starEach [.Call (.Name "range" p0) [a] [] pos0] X.env = (false, eval (.Call (.Name "range" p0) [a] [] pos0) X.env) :: starEach [] X.env := by rfl) : PI X tg (.Call (.Name "reversed" p) [.Call (.Name "range" p0) [a] [] pos0] [] pos) (rdI X.K W (mRevR1 ma)) :=
  PI_imp (pi_revR hg hm (prg_1 hg1 hm1 ha na) hs) fun σ H R h =>
    rd_bind (k := fun x _ S1 => match x with | Vl.dat (PH.D.int j) => if -(2 ^ 62) ≤ j ∧ j < 2 ^ 62 then Res.ok (rrngD j.toNat) S1 else .stuck | _ => .stuck) h fun B φ S ρ d v H1 I E r f => by
      split at f
      · rename_i j
        cases r
        split at f
        · rename_i hj
          refine ⟨j, rfl, by decide, by decide, hj.1, hj.2, Fin.now f I fun φ1 S1 H2 B1 I1 X1 => ?_⟩
          rw [Int.sub_zero]
          refine ⟨fun i hi => by show i < j.toNat; simpa [rrngD] using hi, by show j.toNat ≤ _; simp [rrngD], fun i x H3 d hd y => ?_⟩
          obtain ⟨rfl, rfl⟩ := y
          have : d = .int (0 + ((j.toNat : Nat) : Int) - 1 + (i : Nat) * -1) := by
            unfold rrngD at hd
            rw [List.getElem?_map] at hd
            cases q : (List.range j.toNat)[i]? with
            | none => rw [q] at hd; cases hd
            | some k =>
              rw [q] at hd
              obtain ⟨_, e⟩ := List.getElem?_eq_some_iff.mp q
              simp at e
              subst e
              cases hd
              simp
              omega
          subst this
          exact ⟨I1, Ext.refl, rfl⟩
        · exact f.elim
      · exact f.elim
end
end PH

namespace PH
open PySem PySem.Spec PyProof.Rows L2
theorem rd_X1 {K : PySem.W.Frag} {mg : Str → Option Value} {x f : Str} {fs : List Str} {a : Addr} {y : V} {H : Hp} {Q : VK} {D : Ends} (T : XaF K mg x fs) (hf : f ∈ fs) (ha : H a = some (exo a (He.ga K x) none)) (hD : ∀ σ H, D.nx σ H = Q .non H) (h : ∀ dx, H dx = none → dx ≠ a → Q .non (upd (upd H dx (exd dx [(f, y)])) a (exo a (He.ga K x) (some dx)))) :
    tOst K f (cVar 0) (cVar 1) D [some (.ref a), some y] H := ⟨a, He.ga K x, rfl, T.cls, T.no f hf, .inl ⟨ha, fun dx n ne => by rw [hD]; exact h dx n ne⟩⟩
theorem rd_X2 {K : PySem.W.Frag} {mg : Str → Option Value} {x f g : Str} {fs : List Str} {a : Addr} {y z : V} {H : Hp} {Q : VK} {D : Ends} (T : XaF K mg x fs) (hf : f ∈ fs) (hg : g ∈ fs) (ha : H a = some (exo a (He.ga K x) none)) (hD : ∀ σ H, D.nx σ H = Q .non H) (h : ∀ dx, H dx = none → dx ≠ a → Q .non (upd (upd (upd H dx (exd dx [(f, y)])) a (exo a (He.ga K x) (some dx))) dx (exd dx [(g, z), (f, y)]))) :
    tSeq (tOst K f (cVar 0) (cVar 1)) (tOst K g (cVar 0) (cVar 2)) D [some (.ref a), some y, some z] H :=
  ⟨a, He.ga K x, rfl, T.cls, T.no f hf, .inl ⟨ha, fun dx n ne => ⟨a, He.ga K x, rfl, T.cls, T.no g hg, .inr ⟨dx, [(f, y)], upd_same, by rw [upd_ne ne, upd_same], by simp, by rw [hD]; exact h dx n ne⟩⟩⟩⟩
theorem in_hu {k : Nat} {A : Around} (r : Room k A) : A.units + 65 < cLine := by have := r.un; omega
/-- what the head must tell for isinstance(x, C) -/
def isB (K : PySem.W.Frag) (C : Str) : Bool := decide (PySem.W.findIn K (.ref (He.ga K C)) "__class__" = some (some (.builtin "object.__class__"))) && (decide (PySem.W.specialIn K (.builtin "object.__class__") "__get__" = some (some (.builtin "getset_descriptor.__get__"))) && (decide (PySem.W.takesIn K (.builtin "object.__class__") = some true) && decide (PySem.W.mroIn K (He.ga K C) (.type "object") = some true)))
theorem isB_ok {K : PySem.W.Frag} {C : Str} (h : isB K C = true) (c : Cls K (He.ga K C)) : IsF K C := by
  obtain ⟨h1, h⟩ := He.ba h
  obtain ⟨h2, h⟩ := He.ba h
  obtain ⟨h3, h4⟩ := He.ba h
  exact ⟨c, of_decide_eq_true h1, of_decide_eq_true h2, of_decide_eq_true h3, of_decide_eq_true h4⟩
end PH

namespace PH
open PySem PySem.Spec PyProof.Rows L2
section
variable {α β : Type} {a b c o i e : FE} {r : FA} {t u : FT} {m n : FS} {ρ : Ev} {S : Sto} {x y z : Vl} {f g : Vl → Vl → Sto → Res Vl} {h : Vl → Sto → Res Vl} {md : FD}
theorem g_bind_ok {d : α} {k : α → Sto → Res β} : (Res.ok d S).bind k = k d S := rfl
theorem g_bind_err {x : Er} {k : α → Sto → Res β} : (Res.err x S : Res α).bind k = .err x S := rfl
theorem g_toS_ok {d : α} {k : α → Sto → Out} : (Res.ok d S).toS ρ k = k d S := rfl
theorem g_toS_err {x : Er} {k : α → Sto → Out} : (Res.err x S : Res α).toS ρ k = .err x ρ S := rfl
theorem g_var {k : Nat} : mVar k ρ S = (match lk ρ k with | some d => .ok d S | none => .stuck) := rfl
theorem g_c {d : D} : mC d ρ S = .ok (.dat d) S := rfl
def kOp1 (f : Vl → Vl → Sto → Res Vl) (b : FE) (ρ : Ev) (x : Vl) (S : Sto) : Res Vl := (b ρ S).bind (f x)
theorem g_op : mOp f a b ρ S = (a ρ S).bind (kOp1 f b ρ) := rfl
theorem g_op1 : kOp1 f b ρ x S = (b ρ S).bind (f x) := rfl
theorem g_1 : m1 h a ρ S = (a ρ S).bind h := rfl
theorem g_B : mB a ρ S = (a ρ S).bind unB := rfl
theorem g_unB {k : Bool} : unB (.dat (.bl k)) S = .ok k S := rfl
theorem g_test : mTest a ρ S = (a ρ S).bind tru := rfl
def kAnd (u : FT) (ρ : Ev) (c : Bool) (S : Sto) : Res Bool := if c = true then u ρ S else .ok false S
def kOr (u : FT) (ρ : Ev) (c : Bool) (S : Sto) : Res Bool := if c = true then .ok true S else u ρ S
def kNot (c : Bool) (S : Sto) : Res Bool := .ok (!c) S
theorem g_and : mAnd t u ρ S = (t ρ S).bind (kAnd u ρ) := rfl
theorem g_or : mOr t u ρ S = (t ρ S).bind (kOr u ρ) := rfl
theorem g_not : mNot t ρ S = (t ρ S).bind kNot := rfl
theorem g_kand_t : kAnd u ρ true S = u ρ S := rfl
theorem g_kand_f : kAnd u ρ false S = .ok false S := rfl
theorem g_kor_t : kOr u ρ true S = .ok true S := rfl
theorem g_kor_f : kOr u ρ false S = u ρ S := rfl
theorem g_knot {c : Bool} : kNot c S = .ok (!c) S := rfl
def kAndV (b : FE) (ρ : Ev) (x : Vl) (S : Sto) : Res Vl := match x with
  | .dat (.bl c) => if c = true then b ρ S else .ok (.dat (.bl false)) S
  | _ => .stuck
def kOrV (b : FE) (ρ : Ev) (x : Vl) (S : Sto) : Res Vl := match x with
  | .dat (.bl c) => if c = true then .ok (.dat (.bl true)) S else b ρ S
  | _ => .stuck
theorem g_andV : mAndV a b ρ S = (a ρ S).bind (kAndV b ρ) := rfl
theorem g_orV : mOrV a b ρ S = (a ρ S).bind (kOrV b ρ) := rfl
theorem g_kandV_t : kAndV b ρ (.dat (.bl true)) S = b ρ S := rfl
theorem g_kandV_f : kAndV b ρ (.dat (.bl false)) S = .ok (.dat (.bl false)) S := rfl
theorem g_korV_t : kOrV b ρ (.dat (.bl true)) S = .ok (.dat (.bl true)) S := rfl
theorem g_korV_f : kOrV b ρ (.dat (.bl false)) S = b ρ S := rfl
def kNV (k : Bool) (S : Sto) : Res Vl := .ok (.dat (.bl (!k))) S
def kNotV (x : Vl) (S : Sto) : Res Vl := (tru x S).bind kNV
theorem g_notV : mNotV a ρ S = (a ρ S).bind kNotV := rfl
theorem g_kNotV : kNotV x S = (tru x S).bind kNV := rfl
theorem g_kNV {k : Bool} : kNV k S = .ok (.dat (.bl (!k))) S := rfl
def kOrT2 (b : FE) (ρ : Ev) (x : Vl) (k : Bool) (S : Sto) : Res Vl := if k = true then .ok x S else b ρ S
def kOrT (b : FE) (ρ : Ev) (x : Vl) (S : Sto) : Res Vl := (tru x S).bind (kOrT2 b ρ x)
theorem g_orT : mOrT a b ρ S = (a ρ S).bind (kOrT b ρ) := rfl
theorem g_kOrT : kOrT b ρ x S = (tru x S).bind (kOrT2 b ρ x) := rfl
theorem g_kOrT_t : kOrT2 b ρ x true S = .ok x S := rfl
theorem g_kOrT_f : kOrT2 b ρ x false S = b ρ S := rfl
theorem g_tru_bl {k : Bool} : tru (.dat (.bl k)) S = .ok k S := rfl
def kCh3 (g : Vl → Vl → Sto → Res Vl) (c : FE) (ρ : Ev) (y z : Vl) (S : Sto) : Res Vl := match z with
  | .dat (.bl k) => if k = true then (c ρ S).bind (g y) else .ok (.dat (.bl false)) S
  | _ => .stuck
def kCh2 (f g : Vl → Vl → Sto → Res Vl) (c : FE) (ρ : Ev) (x y : Vl) (S : Sto) : Res Vl := (f x y S).bind (kCh3 g c ρ y)
def kCh1 (f g : Vl → Vl → Sto → Res Vl) (b c : FE) (ρ : Ev) (x : Vl) (S : Sto) : Res Vl := (b ρ S).bind (kCh2 f g c ρ x)
theorem g_chain : mChain f g a b c ρ S = (a ρ S).bind (kCh1 f g b c ρ) := rfl
theorem g_ch1 : kCh1 f g b c ρ x S = (b ρ S).bind (kCh2 f g c ρ x) := rfl
theorem g_ch2 : kCh2 f g c ρ x y S = (f x y S).bind (kCh3 g c ρ y) := rfl
theorem g_ch3_t : kCh3 g c ρ y (.dat (.bl true)) S = (c ρ S).bind (g y) := rfl
theorem g_ch3_f : kCh3 g c ρ y (.dat (.bl false)) S = .ok (.dat (.bl false)) S := rfl
theorem g_ch3 {k : Bool} : kCh3 g c ρ y (.dat (.bl k)) S = if k = true then (c ρ S).bind (g y) else .ok (.dat (.bl false)) S := rfl
def kIf (a b : FE) (ρ : Ev) (c : Bool) (S : Sto) : Res Vl := if c = true then a ρ S else b ρ S
theorem g_if : mIf t a b ρ S = (t ρ S).bind (kIf a b ρ) := rfl
theorem g_kif_t : kIf a b ρ true S = a ρ S := rfl
theorem g_kif_f : kIf a b ρ false S = b ρ S := rfl
theorem g_nil : mNil ρ S = .ok [] S := rfl
def kCons2 (x : Vl) (xs : List Vl) (S : Sto) : Res (List Vl) := .ok (x :: xs) S
def kCons1 (r : FA) (ρ : Ev) (x : Vl) (S : Sto) : Res (List Vl) := (r ρ S).bind (kCons2 x)
theorem g_cons : mCons a r ρ S = (a ρ S).bind (kCons1 r ρ) := rfl
theorem g_cons1 : kCons1 r ρ x S = (r ρ S).bind (kCons2 x) := rfl
theorem g_cons2 {xs : List Vl} : kCons2 x xs S = .ok (x :: xs) S := rfl
def kLst (cl : Bool) (xs : List Vl) (S : Sto) : Res Vl := match allD xs with
  | some ds => if ds.length ≤ sizeLine then newL cl ds S else .stuck
  | none => .stuck
def kTup (xs : List Vl) (S : Sto) : Res Vl := match allD xs with
  | some ds => if ds.length ≤ sizeLine then .ok (.dat (.tup ds)) S else .stuck
  | none => .stuck
theorem g_lst {cl : Bool} : mLst cl r ρ S = (r ρ S).bind (kLst cl) := rfl
theorem g_tup : mTup r ρ S = (r ρ S).bind kTup := rfl
theorem g_allD_nil : allD [] = some [] := rfl
theorem g_allD_cons {d : D} {xs : List Vl} : allD (.dat d :: xs) = (match allD xs with | some ds => some (d :: ds) | none => none) := rfl
theorem kTup0 : kTup [] S = .ok (.dat (.tup [])) S := rfl
theorem kTup1 {d : D} : kTup [.dat d] S = .ok (.dat (.tup [d])) S := rfl
theorem kTup2 {d e : D} : kTup [.dat d, .dat e] S = .ok (.dat (.tup [d, e])) S := rfl
theorem kTup3 {d e f : D} : kTup [.dat d, .dat e, .dat f] S = .ok (.dat (.tup [d, e, f])) S := rfl
theorem kTup4 {d e f g : D} : kTup [.dat d, .dat e, .dat f, .dat g] S = .ok (.dat (.tup [d, e, f, g])) S := rfl
theorem kLst0 {cl : Bool} : kLst cl [] S = newL cl [] S := rfl
theorem kLst1 {cl : Bool} {d : D} : kLst cl [.dat d] S = newL cl [d] S := rfl
theorem kLst2 {cl : Bool} {d e : D} : kLst cl [.dat d, .dat e] S = newL cl [d, e] S := rfl
theorem kLst3 {cl : Bool} {d e f : D} : kLst cl [.dat d, .dat e, .dat f] S = newL cl [d, e, f] S := rfl
theorem g_newF {ds : List D} : newL false ds S = .ok (.dat (.lst ds)) S := rfl
theorem g_newT {ds : List D} : newL true ds S = .ok (.cel S.length) (S ++ [.lst ds]) := rfl
theorem g_call : mCall md r ρ S = (r ρ S).bind md := rfl
def kSl2 (cl : Bool) (x : Vl) (lo : Option Int) (hi : Option Int) (S : Sto) : Res Vl := fSl cl x lo hi S
def kSl1 (cl : Bool) (h : FO) (ρ : Ev) (x : Vl) (lo : Option Int) (S : Sto) : Res Vl := (h ρ S).bind (kSl2 cl x lo)
def kSl0 (cl : Bool) (l h : FO) (ρ : Ev) (x : Vl) (S : Sto) : Res Vl := (l ρ S).bind (kSl1 cl h ρ x)
theorem g_sl {cl : Bool} {l h : FO} : mSl cl a l h ρ S = (a ρ S).bind (kSl0 cl l h ρ) := rfl
theorem g_sl0 {cl : Bool} {l h : FO} : kSl0 cl l h ρ x S = (l ρ S).bind (kSl1 cl h ρ x) := rfl
theorem g_sl1 {cl : Bool} {h : FO} {lo : Option Int} : kSl1 cl h ρ x lo S = (h ρ S).bind (kSl2 cl x lo) := rfl
theorem g_sl2 {cl : Bool} {lo hi : Option Int} : kSl2 cl x lo hi S = fSl cl x lo hi S := rfl
theorem g_noP : mNoP ρ S = .ok none S := rfl
def kPart (x : Vl) (S : Sto) : Res (Option Int) := match x with
  | .dat (.int i) => .ok (some i) S
  | _ => .stuck
theorem g_part : mPart a ρ S = (a ρ S).bind kPart := rfl
theorem g_kPart {i : Int} : kPart (.dat (.int i)) S = .ok (some i) S := rfl
def kFrz (x : Vl) (S : Sto) : Res Vl := match x with
  | .cel n => (match S[n]? with
    | some (.lst ds) => .ok (.dat (.lst ds)) (S.set n .dead)
    | _ => .stuck)
  | _ => .stuck
theorem g_frz : mFrz a ρ S = (a ρ S).bind kFrz := rfl
theorem g_kFrz {n : Nat} {ds : List D} (h : S[n]? = some (.lst ds)) : kFrz (.cel n) S = .ok (.dat (.lst ds)) (S.set n .dead) := by simp only [kFrz, h]
def kApp (b : FE) (ρ : Ev) (x : Vl) (S : Sto) : Res Vl := match seqL S x with
  | some _ => (b ρ S).bind (fApp x)
  | none => .stuck
theorem g_app : mApp a b ρ S = (a ρ S).bind (kApp b ρ) := rfl
theorem g_kApp {n : Nat} {ds : List D} (h : S[n]? = some (.lst ds)) : kApp b ρ (.cel n) S = (b ρ S).bind (fApp (.cel n)) := by simp only [kApp, seqL, h]
theorem g_fApp {n : Nat} {ds : List D} {d : D} (h : S[n]? = some (.lst ds)) (hl : ds.length < sizeLine) : fApp (.cel n) (.dat d) S = .ok (.dat .non) (S.set n (.lst (ds ++ [d]))) := by simp only [fApp, h, hl, if_true]
def Out.seq (o : Out) (n : FS) : Out := match o with
  | .next ρ S => n ρ S
  | o => o
theorem g_seq : mSeq m n ρ S = (m ρ S).seq n := rfl
theorem g_seq_next : (Out.next ρ S).seq n = n ρ S := rfl
theorem g_seq_ret {d : Vl} : (Out.ret d S).seq n = .ret d S := rfl
theorem g_seq_err {x : Er} : (Out.err x ρ S).seq n = .err x ρ S := rfl
theorem g_seq_brk : (Out.brk ρ S).seq n = .brk ρ S := rfl
theorem g_seq_cnt : (Out.cnt ρ S).seq n = .cnt ρ S := rfl
theorem g_skip : mSkip ρ S = .next ρ S := rfl
def kRet (d : Vl) (S : Sto) : Out := .ret d S
theorem g_ret : mRet a ρ S = (a ρ S).toS ρ kRet := rfl
theorem g_kRet {d : Vl} : kRet d S = .ret d S := rfl
def kDrop (ρ : Ev) (d : Vl) (S : Sto) : Out := .next ρ S
theorem g_drop : mDrop a ρ S = (a ρ S).toS ρ (kDrop ρ) := rfl
theorem g_kDrop {d : Vl} : kDrop ρ d S = .next ρ S := rfl
def kIfS (m n : FS) (ρ : Ev) (c : Bool) (S : Sto) : Out := if c = true then m ρ S else n ρ S
theorem g_ifS : mIfS t m n ρ S = (t ρ S).toS ρ (kIfS m n ρ) := rfl
theorem g_kIfS_t : kIfS m n ρ true S = m ρ S := rfl
theorem g_kIfS_f : kIfS m n ρ false S = n ρ S := rfl
def kAsg (t : Tg) (ρ : Ev) (d : Vl) (S : Sto) : Out := match tgF t d ρ with
  | some ρ' => .next ρ' S
  | none => .stuck
theorem g_asg {t : Tg} : mAsg a t ρ S = (a ρ S).toS ρ (kAsg t ρ) := rfl
theorem g_kAsg {k : Nat} {d : Vl} : kAsg (.nm k) ρ d S = .next (ρ.set k (some d)) S := rfl
theorem g_kAsg2 {i j : Nat} {d e : D} : kAsg (.tp [i, j]) ρ (.dat (.tup [d, e])) S = .next ((ρ.set i (some (.dat d))).set j (some (.dat e))) S := rfl
theorem g_kAsg3 {i j k : Nat} {d e f : D} : kAsg (.tp [i, j, k]) ρ (.dat (.tup [d, e, f])) S = .next (((ρ.set i (some (.dat d))).set j (some (.dat e))).set k (some (.dat f))) S := rfl
def kFor (t : Tg) (m : FS) (ρ : Ev) (ds : List D) (S : Sto) : Out := loop t m ds ρ S
theorem g_for {mi : FI} {t : Tg} : mFor mi t m ρ S = (mi ρ S).toS ρ (kFor t m ρ) := rfl
theorem g_kFor {t : Tg} {ds : List D} : kFor t m ρ ds S = loop t m ds ρ S := rfl
def kLc (cl : Bool) (t : Tg) (u : FT) (e : FE) (ρ : Ev) (vs : List Nat) (ds : List D) (S : Sto) : Res Vl := if ds.length ≤ sizeLine then (match lcGo t u e (wipeE ρ vs) ds S with
  | .ok es S2 => newL cl es S2
  | _ => .stuck) else .stuck
theorem g_lc {cl : Bool} {mi : FI} {t : Tg} {vs : List Nat} : mLc cl mi t u e vs ρ S = (mi ρ S).bind (kLc cl t u e ρ vs) := rfl
theorem g_seqI : mSeqI a ρ S = (a ρ S).bind itemsOf := rfl
theorem g_itemsL {ds : List D} : itemsOf (.dat (.lst ds)) S = .ok ds S := rfl
theorem g_itemsT {ds : List D} : itemsOf (.dat (.tup ds)) S = .ok ds S := rfl
def kRng1 (x : Vl) (S : Sto) : Res (List D) := match x with
  | .dat (.int j) => if -(2 ^ 62) ≤ j ∧ j < 2 ^ 62 then .ok (rngD 0 j.toNat) S else .stuck
  | _ => .stuck
theorem g_rng1 : mRng1 a ρ S = (a ρ S).bind kRng1 := rfl
theorem g_kRng1 {j : Int} (h1 : -(2 ^ 62) ≤ j) (h2 : j < 2 ^ 62) : kRng1 (.dat (.int j)) S = .ok (rngD 0 j.toNat) S := by unfold kRng1; exact if_pos ⟨h1, h2⟩
def kRev1 (x : Vl) (S : Sto) : Res (List D) := match x with
  | .dat (.int j) => if -(2 ^ 62) ≤ j ∧ j < 2 ^ 62 then .ok (rrngD j.toNat) S else .stuck
  | _ => .stuck
theorem g_revR1 : mRevR1 a ρ S = (a ρ S).bind kRev1 := rfl
theorem g_kRev1 {j : Int} (h1 : -(2 ^ 62) ≤ j) (h2 : j < 2 ^ 62) : kRev1 (.dat (.int j)) S = .ok (rrngD j.toNat) S := by unfold kRev1; exact if_pos ⟨h1, h2⟩
def kEnum (x : Vl) (S : Sto) : Res (List D) := match x with
  | .dat (.lst ds) => .ok (enumD 0 ds) S
  | _ => .stuck
theorem g_enum : mEnum a ρ S = (a ρ S).bind kEnum := rfl
theorem g_kEnum {ds : List D} : kEnum (.dat (.lst ds)) S = .ok (enumD 0 ds) S := rfl
def Out.wipe (o : Out) (is : List Nat) : Out := match o with
  | .next ρ S => .next (wipeE ρ is) S
  | .cnt ρ S => .cnt (wipeE ρ is) S
  | .brk ρ S => .brk (wipeE ρ is) S
  | o => o
theorem g_wipe {is : List Nat} : mWipe is m ρ S = (m ρ S).wipe is := by unfold mWipe Out.wipe; cases m ρ S <;> rfl
theorem g_wipe_next {is : List Nat} : (Out.next ρ S).wipe is = .next (wipeE ρ is) S := rfl
theorem g_wipe_ret {is : List Nat} {d : Vl} : (Out.ret d S).wipe is = .ret d S := rfl
theorem g_wipe_err {is : List Nat} {x : Er} : (Out.err x ρ S).wipe is = .err x ρ S := rfl
theorem g_addI {cl : Bool} {i j : Int} : fAdd cl (.dat (.int i)) (.dat (.int j)) S = .ok (.dat (.int (i + j))) S := rfl
theorem g_subI {i j : Int} : fSub (.dat (.int i)) (.dat (.int j)) S = .ok (.dat (.int (i - j))) S := rfl
theorem g_modI {i j : Int} (h : 0 < j) : fMod (.dat (.int i)) (.dat (.int j)) S = .ok (.dat (.int (i % j))) S := if_pos h
theorem g_mulI {i j : Int} (h : IntMulOk i j) : fMul (.dat (.int i)) (.dat (.int j)) S = .ok (.dat (.int (i * j))) S := if_pos h
theorem g_fdivI {i j : Int} (h : CDiv i j) : fFdiv (.dat (.int i)) (.dat (.int j)) S = .ok (.dat (.int (i / j))) S := if_pos h
theorem g_ltI {i j : Int} : fLt (.dat (.int i)) (.dat (.int j)) S = .ok (.dat (.bl (decide (i < j)))) S := rfl
theorem g_leI {i j : Int} : fLe (.dat (.int i)) (.dat (.int j)) S = .ok (.dat (.bl (decide (i ≤ j)))) S := rfl
theorem g_gtI {i j : Int} : fGt (.dat (.int i)) (.dat (.int j)) S = .ok (.dat (.bl (decide (j < i)))) S := rfl
theorem g_geI {i j : Int} : fGe (.dat (.int i)) (.dat (.int j)) S = .ok (.dat (.bl (decide (j ≤ i)))) S := rfl
theorem g_eqI {i j : Int} : fEq (.dat (.int i)) (.dat (.int j)) S = .ok (.dat (.bl (decide (i = j)))) S := rfl
theorem g_neI {i j : Int} : fNe (.dat (.int i)) (.dat (.int j)) S = .ok (.dat (.bl (!decide (i = j)))) S := rfl
theorem g_eqS {i j : Str} : fEq (.dat (.str i)) (.dat (.str j)) S = .ok (.dat (.bl (decide (i = j)))) S := rfl
theorem g_neS {i j : Str} : fNe (.dat (.str i)) (.dat (.str j)) S = .ok (.dat (.bl (!decide (i = j)))) S := rfl
theorem g_eqB {i j : Bool} : fEq (.dat (.bl i)) (.dat (.bl j)) S = .ok (.dat (.bl (i == j))) S := by cases i <;> cases j <;> rfl
theorem g_neB {i j : Bool} : fNe (.dat (.bl i)) (.dat (.bl j)) S = .ok (.dat (.bl (!(i == j)))) S := by cases i <;> cases j <;> rfl
theorem g_neg {i : Int} : fNeg (.dat (.int i)) S = .ok (.dat (.int (-i))) S := rfl
theorem g_intI {i : Int} : fInt (.dat (.int i)) S = .ok (.dat (.int i)) S := rfl
theorem g_intB {k : Bool} : fInt (.dat (.bl k)) S = .ok (.dat (.int (if k then 1 else 0))) S := rfl
theorem g_lenT {xs : List D} : fLen (.dat (.tup xs)) S = .ok (.dat (.int xs.length)) S := rfl
theorem g_lenL {xs : List D} : fLen (.dat (.lst xs)) S = .ok (.dat (.int xs.length)) S := rfl
theorem g_lenC {n : Nat} {xs : List D} (h : S[n]? = some (.lst xs)) : fLen (.cel n) S = .ok (.dat (.int xs.length)) S := by simp only [fLen, seqL, h]
theorem g_ixT {xs : List D} {k : Int} {d : D} (h : atI xs k = some d) : fIx (.dat (.tup xs)) (.dat (.int k)) S = .ok (.dat d) S := by simp only [fIx, h]
theorem g_ixL {xs : List D} {k : Int} {d : D} (h : atI xs k = some d) : fIx (.dat (.lst xs)) (.dat (.int k)) S = .ok (.dat d) S := by simp only [fIx, seqL, h]
theorem g_ixC {n : Nat} {xs : List D} {k : Int} {d : D} (h : S[n]? = some (.lst xs)) (h2 : atI xs k = some d) : fIx (.cel n) (.dat (.int k)) S = .ok (.dat d) S := by simp only [fIx, seqL, h, h2]
theorem g_addT {cl : Bool} {xs ys : List D} (h : xs.length + ys.length ≤ sizeLine) : fAdd cl (.dat (.tup xs)) (.dat (.tup ys)) S = .ok (.dat (.tup (xs ++ ys))) S := if_pos h
theorem g_addL {cl : Bool} {xs ys : List D} (h : xs.length + ys.length ≤ sizeLine) : fAdd cl (.dat (.lst xs)) (.dat (.lst ys)) S = newL cl (xs ++ ys) S := by simp only [fAdd, seqL, h, if_true]
theorem g_isN {neg : Bool} : fIsN neg x (.dat .non) S = .ok (.dat (.bl (if neg then !(isNon x) else isNon x))) S := rfl
theorem g_isi {T n : String} (h : kindOf S x = some n) : fIsi T x S = .ok (.dat (.bl (isTy T n))) S := by simp only [fIsi, h]
theorem g_isi2 {T U n : String} (h : kindOf S x = some n) : fIsi2 T U x S = .ok (.dat (.bl (isTy T n || isTy U n))) S := by simp only [fIsi2, h]
theorem atI_nat' {α : Type} {xs : List α} {k : Int} {n : Nat} (h : k = (n : Int)) : atI xs k = xs[n]? := by
  subst h
  unfold atI ixN
  by_cases hl : n < xs.length
  · rw [if_pos (by omega), if_pos (by omega)]; simp
  · rw [if_pos (by omega), if_neg (by omega)]
    simp [Nat.le_of_not_lt hl]
theorem g_yes : mYes ρ S = .ok true S := rfl
theorem g_truL {xs : List D} : tru (.dat (.lst xs)) S = .ok (!xs.isEmpty) S := rfl
theorem g_truI {i : Int} : tru (.dat (.int i)) S = .ok (i != 0) S := rfl
theorem g_isNon_tup {xs : List D} : isNon (.dat (.tup xs)) = false := rfl
theorem g_isNon_non : isNon (.dat .non) = true := rfl
theorem g_slT {cl : Bool} {xs : List D} {lo hi : Option Int} : fSl cl (.dat (.tup xs)) lo hi S = .ok (.dat (.tup (cutD xs lo hi))) S := rfl
theorem g_slL {cl : Bool} {xs : List D} {lo hi : Option Int} : fSl cl (.dat (.lst xs)) lo hi S = newL cl (cutD xs lo hi) S := rfl
theorem g_slS {cl : Bool} {ns : List Int} {lo hi : Option Int} : fSl cl (.scr ns) lo hi S = newL cl (cutD (ns.map D.int) lo hi) S := rfl
theorem g_listL {cl : Bool} {xs : List D} : fList cl (.dat (.lst xs)) S = newL cl xs S := rfl
theorem g_listT {cl : Bool} {xs : List D} : fList cl (.dat (.tup xs)) S = newL cl xs S := rfl
theorem g_tupleL {xs : List D} : fTuple (.dat (.lst xs)) S = .ok (.dat (.tup xs)) S := rfl
end
section
variable {a b o : FE} {r : FA} {m n : FS} {ρ : Ev} {S : Sto} {x y : Vl} {md : FD} {C f : Str} {ns : List Str}
theorem g_raise : mRaise C ρ S = .err ⟨C, [], []⟩ ρ S := rfl
def kRaiseA (C : Str) (ns : List Str) (ρ : Ev) (xs : List Vl) (S : Sto) : Out := match allD xs with
  | some ds => if ds.length = ns.length then .err ⟨C, ns, ds.reverse⟩ ρ S else .stuck
  | none => .stuck
theorem g_raiseA : mRaiseA C ns r ρ S = (r ρ S).toS ρ (kRaiseA C ns ρ) := rfl
theorem g_kRaise1 {f : Str} {d : D} : kRaiseA C [f] ρ [.dat d] S = .err ⟨C, [f], [d]⟩ ρ S := rfl
theorem g_kRaise2 {f g : Str} {d e : D} : kRaiseA C [f, g] ρ [.dat d, .dat e] S = .err ⟨C, [f, g], [e, d]⟩ ρ S := rfl
def kSetF2 (C f : Str) (ρ : Ev) (d x : Vl) (S : Sto) : Out := match setF S C f x d with
  | some S3 => .next ρ S3
  | none => .stuck
def kSetF (C f : Str) (o : FE) (ρ : Ev) (d : Vl) (S : Sto) : Out := (o ρ S).toS ρ (kSetF2 C f ρ d)
theorem g_setF : mSetF C f o a ρ S = (a ρ S).toS ρ (kSetF C f o ρ) := rfl
theorem g_kSetF {d : Vl} : kSetF C f o ρ d S = (o ρ S).toS ρ (kSetF2 C f ρ d) := rfl
theorem g_kSetF2 {n : Nat} {d : Vl} {fs : List (Str × Vl)} (h : S[n]? = some (.ins C fs)) (hl : fs.length < 1000) : kSetF2 C f ρ d (.cel n) S = .next ρ (S.set n (.ins C (putFV f d fs))) := by simp only [kSetF2, setF, h, true_and, hl, if_true]
def kMake (kp : Bool) (C : Str) (md : FD) (ds : List Vl) (S : Sto) : Res Vl := made kp S.length (md (.cel S.length :: ds) (S ++ [.ins C []]))
theorem g_make {kp : Bool} : mMake kp C md r ρ S = (r ρ S).bind (kMake kp C md) := rfl
def kMeth2 (md : FD) (x : Vl) (ds : List Vl) (S : Sto) : Res Vl := md (x :: ds) S
def kMeth (C f : Str) (md : FD) (r : FA) (ρ : Ev) (x : Vl) (S : Sto) : Res Vl := if isIns S C f x = true then (r ρ S).bind (kMeth2 md x) else .stuck
theorem g_meth : mMeth C f md o r ρ S = (o ρ S).bind (kMeth C f md r ρ) := rfl
theorem g_kMeth (h : isIns S C f x = true) : kMeth C f md r ρ x S = (r ρ S).bind (kMeth2 md x) := if_pos h
theorem g_kMeth2 {ds : List Vl} : kMeth2 md x ds S = md (x :: ds) S := rfl
def kFld (C f : Str) (x : Vl) (S : Sto) : Res Vl := match fldOf S C f x with
  | some d => .ok d S
  | none => .stuck
theorem g_fld : mFld C f o ρ S = (o ρ S).bind (kFld C f) := rfl
theorem g_kFldD {ns : List Str} {xs : List D} : kFld C f (.dat (.ins C ns xs)) S = (match (ns.zip xs).lookup f with | some d => .ok (.dat d) S | none => .stuck) := by
  simp only [kFld, fldOf, if_true]
  cases (ns.zip xs).lookup f <;> rfl
theorem g_kFldC {n : Nat} {fs : List (Str × Vl)} {d : Vl} (h : S[n]? = some (.ins C fs)) (h2 : fs.lookup f = some d) : kFld C f (.cel n) S = .ok d S := by simp only [kFld, fldOf, h, if_true, h2]
/-- a try -/
def Out.tryA (o : Out) (cs : List Str) (c : Str) (k : Nat) (its : List XIt) : Out := match o with
  | .err e ρ' S' => if (e.cls ∈ cs ∧ c ∈ cs) ∧ k < ρ'.length then (if e.cls = c then (match itF e its with
      | some ds => if ds.length ≤ sizeLine then .ret (.dat (.tup ds)) S' else .stuck
      | none => .stuck) else .err e ρ' S') else .stuck
  | o => o
theorem g_tryA {cs : List Str} {c : Str} {k : Nat} {its : List XIt} : mTryA cs m c k its ρ S = (m ρ S).tryA cs c k its := by unfold mTryA Out.tryA; cases m ρ S <;> rfl
theorem g_tryA_next {cs : List Str} {c : Str} {k : Nat} {its : List XIt} : (Out.next ρ S).tryA cs c k its = .next ρ S := rfl
theorem g_tryA_ret {cs : List Str} {c : Str} {k : Nat} {its : List XIt} {d : Vl} : (Out.ret d S).tryA cs c k its = .ret d S := rfl
end
theorem g_cast0 : ((0 : Nat) : Int) = 0 := rfl
theorem g_cast1 : ((1 : Nat) : Int) = 1 := rfl
theorem g_cast2 : ((2 : Nat) : Int) = 2 := rfl
theorem g_cast3 : ((3 : Nat) : Int) = 3 := rfl
theorem g_cast4 : ((4 : Nat) : Int) = 4 := rfl
theorem g_cast5 : ((5 : Nat) : Int) = 5 := rfl
theorem g_cast6 : ((6 : Nat) : Int) = 6 := rfl
theorem g_cast7 : ((7 : Nat) : Int) = 7 := rfl
theorem g_cast8 : ((8 : Nat) : Int) = 8 := rfl
theorem g_cast9 : ((9 : Nat) : Int) = 9 := rfl
theorem g_cast10 : ((10 : Nat) : Int) = 10 := rfl
theorem g_cast11 : ((11 : Nat) : Int) = 11 := rfl
theorem g_cast12 : ((12 : Nat) : Int) = 12 := rfl
theorem g_cast13 : ((13 : Nat) : Int) = 13 := rfl
theorem str_inj {a b : String} (h : Str.ofString a = Str.ofString b) : a = b := by
  rw [Str.ofString_eq_toList, Str.ofString_eq_toList] at h
  injection h with h
  have h2 := congrArg Array.toList h
  simp only at h2
  have : ∀ {l m : List Char}, l.map Char.toNat = m.map Char.toNat → l = m := fun {l} => by
    induction l with
    | nil => intro m h; cases m <;> simp at h ⊢
    | cons c l ih =>
      intro m h
      cases m with
      | nil => simp at h
      | cons d m =>
        simp only [List.map_cons, List.cons.injEq] at h
        rw [ih h.2]
        have : c = d := by
          have := congrArg Char.ofNat h.1
          simpa using this
        rw [this]
  exact String.toList_inj.mp (this h2)
theorem str_eq {a b : String} : (Str.ofString a = Str.ofString b) = (a = b) := propext ⟨str_inj, fun h => by rw [h]⟩
end PH

namespace PH
open PySem PySem.Spec PyProof.Rows L2
/-- a law's end; its defs may let exceptions out -/
theorem walk_x {l : PySem.W.OpenLaw} {n k : Nat} {q : Program} {loose : List Str} {XP : (Str → Option Value) → Heap → Prop} {YP : World → Heap → Prop} {d : DefRec} {x : Str} (e1 : l.most = some n) (e2 : n ≤ sizeLine) (e3 : d.params.defaults = []) (e4 : Room k callerA)
    (e5 : ∀ (w : World) (mg : Str → Option Value) (fa : Addr) (h : Heap), YP w h → h.Ns mainGlobals mg → mg d.name = some (.ref fa) → ∃ (K : PySem.W.Frag) (fd : FuncData) (sp : Sp), K.In h ∧ (∀ (s : Shared) (u : Value), BindsTo s fd ⟨[u], []⟩ [(x, u)]) ∧
      (∀ (H : Hp) (a : Addr) (ns : List Int), ns.length ≤ n → Only H → SqL K H a (ns.map V.int) → sp [.ref a] H (fun v _ => v = .bl true) fun _ _ _ => False) ∧ ∀ base : Heap, K.In base → base.Ns mainGlobals mg → FnOk l.prog w K mg base (L2.CX l.prog w) k fa fd [x] sp) :
    PySem.W.WalkO q loose XP YP l.row.toRowW d [] (fun f vs => PySem.call f vs) :=
  Att.attach_call e1 e3 fun w s0 s1 mg mb fa o pm cd doc a vs ns G Y _ _ _ m1 m2 m3 m4 m5 => by
    obtain ⟨K, fd, sp, KX, hb, hs, hF⟩ := e5 w mg fa _ Y G.T.g m1
    refine law_call KX G.T.g G.T.b G.T.builtins G.T.nolimit m5 m2 m3 (Nat.le_trans m4 e2) e4 hF hb (fun H h1 h2 => hs H a ns m4 h1 h2) fun H e s' z => ?_
    obtain ⟨_, _, _, _, _, _, _, _, _, _, _, _, h⟩ := z
    exact h
end PH

namespace PH
open PySem PySem.Spec PyProof.Rows L2
def b_is_integer : FS :=
  (mRet (mAndV (m1 (fIsi "int") (mVar 0)) (mNotV (m1 (fIsi "bool") (mVar 0)))))
def m_is_integer : FD := run 1 1 b_is_integer
def b_is_bit : FS :=
  (mRet (mAndV (mCall m_is_integer (mCons (mVar 0) mNil)) (mChain fLe fLe (mC (.int 0)) (mVar 0) (mC (.int 1)))))
def m_is_bit : FD := run 1 1 b_is_bit
def e_is_command_1 : FE :=
  (mAndV (mCall m_is_integer (mCons (mVar 4) mNil)) (mChain fLe fLe (mVar 2) (mVar 4) (mVar 3)))
def b_is_command : FS :=
  (mSeq (mIfS (mOr (mNot (mTest (m1 (fIsi "tuple") (mVar 0)))) (mB (mOp fEq (m1 fLen (mVar 0)) (mC (.int 0))))) (mRet (mC (.bl false))) mSkip)
  (mSeq (mIfS (mOr (mNot (mTest (m1 (fIsi "str") (mOp fIx (mVar 0) (mC (.int 0)))))) (mB (m1 (fInLim true) (mOp fIx (mVar 0) (mC (.int 0)))))) (mRet (mC (.bl false))) mSkip)
  (mSeq (mAsg (m1 fLim (mOp fIx (mVar 0) (mC (.int 0)))) (.tp [1, 2, 3]))
  (mSeq (mIfS (mB (mOp fNe (m1 fLen (mVar 0)) (mOp (fAdd false) (mVar 1) (mC (.int 1))))) (mRet (mC (.bl false))) mSkip)
  (mRet (m1 fAll (mLc false (mSeqI (mSl false (mVar 0) (mPart (mC (.int 1))) mNoP)) (.nm 4) mYes e_is_command_1 [4])))))))
def m_is_command : FD := run 5 1 b_is_command
def b_blocks_of : FS :=
  (mSeq (mAsg (mOp fIx (mVar 0) (mC (.int 0))) (.nm 1))
  (mSeq (mIfS (mOr (mB (mOp fEq (mVar 1) (mC (.str "keep")))) (mB (mOp fEq (mVar 1) (mC (.str "again"))))) (mRet (mLst false (mCons (mOp fIx (mVar 0) (mC (.int 1))) mNil))) mSkip)
  (mSeq (mIfS (mB (mOp fEq (mVar 1) (mC (.str "either")))) (mRet (mLst false (mCons (mOp fIx (mVar 0) (mC (.int 1))) (mCons (mOp fIx (mVar 0) (mC (.int 2))) mNil)))) mSkip)
  (mSeq (mIfS (mB (mOp fEq (mVar 1) (mC (.str "call")))) (mRet (mOp fIx (mVar 0) (mC (.int 3)))) mSkip)
  (mRet (mLst false mNil))))))
def m_blocks_of : FD := run 2 1 b_blocks_of
def b_with_blocks : FS :=
  (mSeq (mAsg (mOp fIx (mVar 0) (mC (.int 0))) (.nm 2))
  (mSeq (mIfS (mOr (mB (mOp fEq (mVar 2) (mC (.str "keep")))) (mB (mOp fEq (mVar 2) (mC (.str "again"))))) (mRet (mTup (mCons (mVar 2) (mCons (mOp fIx (mVar 1) (mC (.int 0))) mNil)))) mSkip)
  (mSeq (mIfS (mB (mOp fEq (mVar 2) (mC (.str "either")))) (mRet (mTup (mCons (mVar 2) (mCons (mOp fIx (mVar 1) (mC (.int 0))) (mCons (mOp fIx (mVar 1) (mC (.int 1))) mNil))))) mSkip)
  (mSeq (mIfS (mB (mOp fEq (mVar 2) (mC (.str "call")))) (mRet (mTup (mCons (mVar 2) (mCons (mOp fIx (mVar 0) (mC (.int 1))) (mCons (mOp fIx (mVar 0) (mC (.int 2))) (mCons (mVar 1) mNil)))))) mSkip)
  (mRet (mVar 0))))))
def m_with_blocks : FD := run 3 2 b_with_blocks
def b_copied_statement (f_copied_block : FD) : FS :=
  (mRet (mCall m_with_blocks (mCons (mVar 0) (mCons (mLc false (mSeqI (mCall m_blocks_of (mCons (mVar 0) mNil))) (.nm 1) mYes (mCall (f_copied_block) (mCons (mVar 1) mNil)) [1]) mNil))))
def b_copied_block (f_copied_statement : FD) : FS :=
  (mRet (mLc false (mSeqI (mVar 0)) (.nm 1) mYes (mCall (f_copied_statement) (mCons (mVar 1) mNil)) [1]))
def g_copied_statement : Nat → FD × FD
  | 0 => (stuckD, stuckD)
  | n + 1 => let r := g_copied_statement n
    (run 2 1 (b_copied_statement r.2), run 2 1 (b_copied_block r.1))
def m_copied_statement (n : Nat) : FD := (g_copied_statement n).1
def m_copied_block (n : Nat) : FD := (g_copied_statement n).2
def b_well_formed : FS :=
  (mSeq (mIfS (mTest (mCall m_is_command (mCons (mVar 0) mNil))) (mRet (mC (.bl true))) mSkip)
  (mSeq (mIfS (mOr (mNot (mTest (m1 (fIsi "tuple") (mVar 0)))) (mOr (mB (mOp fLt (m1 fLen (mVar 0)) (mC (.int 2)))) (mNot (mTest (m1 (fIsi "str") (mOp fIx (mVar 0) (mC (.int 0)))))))) (mRet (mC (.bl false))) mSkip)
  (mSeq (mAsg (mOp fIx (mVar 0) (mC (.int 0))) (.nm 3))
  (mSeq (mIfS (mB (mOp fEq (mVar 3) (mC (.str "end")))) (mRet (mAndV (mOp fEq (m1 fLen (mVar 0)) (mC (.int 2))) (mCall m_is_bit (mCons (mOp fIx (mVar 0) (mC (.int 1))) mNil)))) mSkip)
  (mSeq (mIfS (mB (mOp fEq (mVar 1) (mC (.int 3)))) (mRet (mC (.bl false))) mSkip)
  (mSeq (mIfS (mOr (mB (mOp fEq (mVar 3) (mC (.str "keep")))) (mB (mOp fEq (mVar 3) (mC (.str "again"))))) (mRet (mAndV (mOp fEq (m1 fLen (mVar 0)) (mC (.int 2))) (m1 (fIsi "list") (mOp fIx (mVar 0) (mC (.int 1)))))) mSkip)
  (mSeq (mIfS (mB (mOp fEq (mVar 3) (mC (.str "either")))) (mRet (mAndV (mOp fEq (m1 fLen (mVar 0)) (mC (.int 3))) (mAndV (m1 (fIsi "list") (mOp fIx (mVar 0) (mC (.int 1)))) (m1 (fIsi "list") (mOp fIx (mVar 0) (mC (.int 2))))))) mSkip)
  (mSeq (mIfS (mOr (mB (mOp fNe (mVar 3) (mC (.str "call")))) (mB (mOp fNe (m1 fLen (mVar 0)) (mC (.int 4))))) (mRet (mC (.bl false))) mSkip)
  (mSeq (mIfS (mOr (mNot (mTest (mCall m_is_integer (mCons (mOp fIx (mVar 0) (mC (.int 1))) mNil)))) (mNot (mB (mChain fLe fLt (mC (.int 0)) (mOp fIx (mVar 0) (mC (.int 1))) (mVar 2))))) (mRet (mC (.bl false))) mSkip)
  (mSeq (mIfS (mOr (mNot (mTest (m1 (fIsi "bool") (mOp fIx (mVar 0) (mC (.int 2)))))) (mOr (mNot (mTest (m1 (fIsi "list") (mOp fIx (mVar 0) (mC (.int 3)))))) (mB (mOp fNe (m1 fLen (mOp fIx (mVar 0) (mC (.int 3)))) (mC (.int 2)))))) (mRet (mC (.bl false))) mSkip)
  (mRet (mAndV (m1 (fIsi "list") (mOp fIx (mOp fIx (mVar 0) (mC (.int 3))) (mC (.int 0)))) (m1 (fIsi "list") (mOp fIx (mOp fIx (mVar 0) (mC (.int 3))) (mC (.int 1))))))))))))))))
def m_well_formed : FD := run 4 3 b_well_formed
def w_first_fault_1 (f_first_fault : FD) : FS :=
  (mWipe [8, 9, 10] (mSeq (mAsg (mCall (f_first_fault) (mCons (mVar 9) (mCons (mOp (fAdd false) (mVar 1) (mC (.int 1))) (mCons (mVar 2) (mCons (mOp (fAdd false) (mVar 7) (mTup (mCons (mVar 8) mNil))) (mCons (mVar 4) mNil)))))) (.tp [10, 4]))
  (mIfS (mB (mOp (fIsN true) (mVar 10) (mC .non))) (mRet (mTup (mCons (mVar 10) (mCons (mVar 4) mNil)))) mSkip)))
def w_first_fault_2 (f_first_fault : FD) : FS :=
  (mWipe [5, 6, 7, 8, 9, 10] (mSeq (mAsg (mOp (fAdd false) (mVar 3) (mTup (mCons (mVar 5) mNil))) (.nm 7))
  (mSeq (mIfS (mOr (mB (mOp fEq (mVar 5) (mC (.int 8)))) (mOr (mB (mOp fEq (mVar 4) (mC (.int 12)))) (mNot (mTest (mCall m_well_formed (mCons (mVar 6) (mCons (mVar 1) (mCons (mVar 2) mNil)))))))) (mRet (mTup (mCons (mVar 7) (mCons (mVar 4) mNil)))) mSkip)
  (mSeq (mAug (fun x y => x + y) 4 (mC (.int 1)))
  (mFor (mEnum (mCall m_blocks_of (mCons (mVar 6) mNil))) (.tp [8, 9]) (w_first_fault_1 (f_first_fault)))))))
def b_first_fault (f_first_fault : FD) : FS :=
  (mSeq (mFor (mEnum (mVar 0)) (.tp [5, 6]) (w_first_fault_2 (f_first_fault)))
  (mRet (mTup (mCons (mC .non) (mCons (mVar 4) mNil)))))
def m_first_fault : Nat → FD
  | 0 => stuckD
  | n + 1 => run 11 5 (b_first_fault (m_first_fault n))
def w_Book_init_1 : FS :=
  (mWipe [2, 3, 4, 5] (mSeq (mIfS (mNot (mTest (m1 (fIsi "list") (mVar 3)))) (mRaiseA "NoBook" ["path", "procedure"] (mCons (mVar 2) (mCons (mTup mNil) mNil))) mSkip)
  (mSeq (mAsg (mCall (m_first_fault 10) (mCons (mVar 3) (mCons (mC (.int 0)) (mCons (m1 fLen (mVar 1)) (mCons (mTup mNil) (mCons (mC (.int 0)) mNil)))))) (.tp [4, 5]))
  (mIfS (mB (mOp (fIsN true) (mVar 4) (mC .non))) (mRaiseA "NoBook" ["path", "procedure"] (mCons (mVar 2) (mCons (mVar 4) mNil))) mSkip))))
def b_Book_init : FS :=
  (mSeq (mIfS (mOr (mNot (mTest (m1 (fIsi "list") (mVar 1)))) (mNot (mB (mChain fLe fLe (mC (.int 1)) (m1 fLen (mVar 1)) (mC (.int 3)))))) (mRaiseA "NoBook" ["path", "procedure"] (mCons (m1 fNeg (mC (.int 1))) (mCons (mTup mNil) mNil))) mSkip)
  (mSeq (mFor (mEnum (mVar 1)) (.tp [2, 3]) w_Book_init_1)
  (mSetF "Book" "own" (mVar 0) (mLc false (mSeqI (mVar 1)) (.nm 3) mYes (mCall (m_copied_block 20) (mCons (mVar 3) mNil)) [3]))))
def m_Book_init : FD := run 6 2 b_Book_init
def b_Book_len : FS :=
  (mRet (m1 fLen (mFld "Book" "own" (mVar 0))))
def m_Book_len : FD := run 1 1 b_Book_len
def b_Book_bodies : FS :=
  (mRet (mLc false (mSeqI (mFld "Book" "own" (mVar 0))) (.nm 1) mYes (mCall (m_copied_block 20) (mCons (mVar 1) mNil)) [1]))
def m_Book_bodies : FD := run 2 1 b_Book_bodies
def b_L_pool : FS :=
  (mRet (mOp (fAdd true) (mLst false (mCons (mC (.int 0)) mNil)) (mOrT (mLc false (mSeqI (mSl false (mVar 0) mNoP (mPart (mC (.int 63))))) (.nm 1) mYes (m1 fInt (mVar 1)) [1]) (mLst false (mCons (mC (.int 0)) mNil)))))
def m_L_pool : FD := run 2 1 b_L_pool
def b_L_draw : FS :=
  (mSeq (mAugI (fun x y => x + y) (mVar 0) (mC (.int 0)) (mC (.int 1)))
  (mSeq (mAsg (mOp (fAdd false) (mC (.int 1)) (mOp fMod (m1 fInt (mOp fIx (mVar 0) (mC (.int 0)))) (mOp fSub (m1 fLen (mVar 0)) (mC (.int 1))))) (.nm 2))
  (mSeq (mAsg (m1 fInt (mOp fIx (mVar 0) (mVar 2))) (.nm 3))
  (mSeq (mIfS (mB (mOp fGe (mVar 3) (mOp fPow (mC (.int 10)) (mC (.int 18))))) (mSeq (mSetI (mOp fFdiv (mVar 3) (mVar 1)) (mVar 0) (mVar 2))
  (mRet (mOp fMod (mVar 3) (mVar 1)))) mSkip)
  (mSeq (mAsg (mOp fMod (mOp fMul (m1 fInt (mOp (fAdd false) (mOp (fAdd false) (mVar 3) (mOp fMul (mC (.int 7919)) (mOp fIx (mVar 0) (mC (.int 0))))) (mC (.int 1)))) (mC (.int 48271))) (mC (.int 2147483647))) (.nm 4))
  (mSeq (mAsg (mOp fMod (mOp fMul (mVar 4) (mOp (fAdd false) (mOp fFdiv (mVar 4) (mC (.int 1009))) (mC (.int 69621)))) (mC (.int 2147483647))) (.nm 4))
  (mSeq (mAsg (mOp fMod (mOp fMul (mVar 4) (mOp (fAdd false) (mOp fFdiv (mVar 4) (mC (.int 2003))) (mC (.int 40692)))) (mC (.int 2147483399))) (.nm 4))
  (mRet (mOp fMod (mOp fFdiv (mVar 4) (mC (.int 11))) (mVar 1))))))))))
def m_L_draw : FD := run 5 2 b_L_draw
def b_L_any_command : FS :=
  (mSeq (mAsg (mCall m_L_draw (mCons (mVar 0) (mCons (mC (.int 9)) mNil))) (.nm 1))
  (mSeq (mIfS (mB (mOp fEq (mVar 1) (mC (.int 0)))) (mRet (mTup (mCons (mC (.str "go")) (mCons (mOp fSub (mCall m_L_draw (mCons (mVar 0) (mCons (mC (.int 19)) mNil))) (mC (.int 9))) mNil)))) mSkip)
  (mSeq (mIfS (mB (mOp fEq (mVar 1) (mC (.int 1)))) (mRet (mTup (mCons (mC (.str "turn")) (mCons (mOp (fAdd false) (mC (.int 1)) (mCall m_L_draw (mCons (mVar 0) (mCons (mC (.int 3)) mNil)))) mNil)))) mSkip)
  (mSeq (mIfS (mB (mOp fEq (mVar 1) (mC (.int 2)))) (mRet (mTup (mCons (mC (.str "scale")) (mCons (mOp fSub (mCall m_L_draw (mCons (mVar 0) (mCons (mC (.int 7)) mNil))) (mC (.int 3))) mNil)))) mSkip)
  (mSeq (mIfS (mB (mOp fLt (mVar 1) (mC (.int 5)))) (mRet (mTup (mCons (mOp fIx (mTup (mCons (mC (.str "aim")) (mCons (mC (.str "place")) mNil))) (mOp fSub (mVar 1) (mC (.int 3)))) (mCons (mOp fSub (mCall m_L_draw (mCons (mVar 0) (mCons (mC (.int 19)) mNil))) (mC (.int 9))) (mCons (mOp fSub (mCall m_L_draw (mCons (mVar 0) (mCons (mC (.int 19)) mNil))) (mC (.int 9))) mNil))))) mSkip)
  (mRet (mTup (mCons (mOp fIx (mTup (mCons (mC (.str "mirror")) (mCons (mC (.str "mark")) (mCons (mC (.str "return")) (mCons (mC (.str "exchange")) mNil))))) (mOp fSub (mVar 1) (mC (.int 5)))) mNil))))))))
def m_L_any_command : FD := run 2 1 b_L_any_command
def b_L_blocks : FS :=
  (mSeq (mIfS (mB (mOp fEq (mOp fIx (mVar 0) (mC (.int 0))) (mC (.str "call")))) (mRet (m1 (fList false) (mOp fIx (mVar 0) (mC (.int 3))))) mSkip)
  (mRet (mLc false (mSeqI (mSl false (mVar 0) (mPart (mC (.int 1))) mNoP)) (.nm 1) (mTest (m1 (fIsi "list") (mVar 1))) (mVar 1) [1])))
def m_L_blocks : FD := run 2 1 b_L_blocks
def b_L_with : FS :=
  (mSeq (mIfS (mB (mOp fEq (mOp fIx (mVar 0) (mC (.int 0))) (mC (.str "call")))) (mRet (mOp (fAdd false) (mSl false (mVar 0) mNoP (mPart (mC (.int 3)))) (mTup (mCons (mVar 1) mNil)))) mSkip)
  (mSeq (mIfS (mB (mOp fEq (m1 fLen (mVar 1)) (mC (.int 0)))) (mRet (mVar 0)) mSkip)
  (mRet (mOp (fAdd false) (mTup (mCons (mOp fIx (mVar 0) (mC (.int 0))) mNil)) (m1 fTuple (mVar 1))))))
def m_L_with : FD := run 2 2 b_L_with
def e_L_copy_1 (f_L_copy : FD) : FE :=
  (mCall m_L_with (mCons (mVar 1) (mCons (mLc false (mSeqI (mCall m_L_blocks (mCons (mVar 1) mNil))) (.nm 2) mYes (mCall (f_L_copy) (mCons (mVar 2) mNil)) [2]) mNil)))
def b_L_copy (f_L_copy : FD) : FS :=
  (mRet (mLc false (mSeqI (mVar 0)) (.nm 1) mYes (e_L_copy_1 (f_L_copy)) [1]))
def m_L_copy : Nat → FD
  | 0 => stuckD
  | n + 1 => run 3 1 (b_L_copy (m_L_copy n))
def b_L_copies : FS :=
  (mRet (mLc false (mSeqI (mVar 0)) (.nm 1) mYes (mCall (m_L_copy 10) (mCons (mVar 1) mNil)) [1]))
def m_L_copies : FD := run 2 1 b_L_copies
def e_L_same_1 (f_L_same : FD) : FE :=
  (mCall (f_L_same) (mCons (mOp fIx (mVar 0) (mVar 2)) (mCons (mOp fIx (mVar 1) (mVar 2)) mNil)))
def b_L_same (f_L_same : FD) : FS :=
  (mSeq (mIfS (mTest (m1 (fIsi2 "list" "tuple") (mVar 0))) (mSeq (mIfS (mOr (mB (mOp fNe (m1 (fIsi "list") (mVar 0)) (m1 (fIsi "list") (mVar 1)))) (mB (mOp fNe (m1 (fIsi "tuple") (mVar 0)) (m1 (fIsi "tuple") (mVar 1))))) (mRet (mC (.bl false))) mSkip)
  (mRet (mAndV (mOp fEq (m1 fLen (mVar 0)) (m1 fLen (mVar 1))) (m1 fAll (mLc false (mRng1 (m1 fLen (mVar 0))) (.nm 2) mYes (e_L_same_1 (f_L_same)) [2]))))) mSkip)
  (mSeq (mIfS (mOr (mTest (m1 (fIsi2 "list" "tuple") (mVar 1))) (mB (mOp fNe (m1 (fIsi "bool") (mVar 0)) (m1 (fIsi "bool") (mVar 1))))) (mRet (mC (.bl false))) mSkip)
  (mRet (mAndV (mOp fEq (m1 (fIsi "int") (mVar 0)) (m1 (fIsi "int") (mVar 1))) (mOp fEq (mVar 0) (mVar 1))))))
def m_L_same : Nat → FD
  | 0 => stuckD
  | n + 1 => run 3 2 (b_L_same (m_L_same n))
def b_L_faulty_thing (f_L_faulty_list : FD) : FS :=
  (mSeq (mAugI (fun x y => x - y) (mVar 2) (mC (.int 0)) (mC (.int 1)))
  (mSeq (mAsg (mCall m_L_draw (mCons (mVar 0) (mCons (mC (.int 9)) mNil))) (.nm 5))
  (mSeq (mIfS (mAnd (mB (mOp fGt (mVar 1) (mC (.int 4)))) (mAnd (mB (mOp fGt (mVar 5) (mC (.int 2)))) (mB (mOp fLt (mVar 5) (mC (.int 8)))))) (mAsg (mC (.int 0)) (.nm 5)) mSkip)
  (mSeq (mIfS (mB (mOp fLt (mVar 5) (mC (.int 3)))) (mRet (mCall m_L_any_command (mCons (mVar 0) mNil))) mSkip)
  (mSeq (mIfS (mB (mOp fEq (mVar 5) (mC (.int 3)))) (mRet (mTup (mCons (mC (.str "keep")) (mCons (mCall (f_L_faulty_list) (mCons (mVar 0) (mCons (mOp (fAdd false) (mVar 1) (mC (.int 1))) (mCons (mVar 2) (mCons (mVar 3) (mCons (mVar 4) mNil)))))) mNil)))) mSkip)
  (mSeq (mIfS (mB (mOp fEq (mVar 5) (mC (.int 4)))) (mRet (mTup (mCons (mC (.str "again")) (mCons (mCall (f_L_faulty_list) (mCons (mVar 0) (mCons (mOp (fAdd false) (mVar 1) (mC (.int 1))) (mCons (mVar 2) (mCons (mVar 3) (mCons (mVar 4) mNil)))))) mNil)))) mSkip)
  (mSeq (mIfS (mB (mOp fEq (mVar 5) (mC (.int 5)))) (mSeq (mAsg (mCall (f_L_faulty_list) (mCons (mVar 0) (mCons (mOp (fAdd false) (mVar 1) (mC (.int 1))) (mCons (mVar 2) (mCons (mVar 3) (mCons (mVar 4) mNil)))))) (.nm 6))
  (mRet (mTup (mCons (mC (.str "either")) (mCons (mVar 6) (mCons (mCall (f_L_faulty_list) (mCons (mVar 0) (mCons (mOp (fAdd false) (mVar 1) (mC (.int 1))) (mCons (mVar 2) (mCons (mVar 3) (mCons (mVar 4) mNil)))))) mNil)))))) mSkip)
  (mSeq (mIfS (mB (mOp fEq (mVar 5) (mC (.int 6)))) (mSeq (mAsg (mCall (f_L_faulty_list) (mCons (mVar 0) (mCons (mOp (fAdd false) (mVar 1) (mC (.int 1))) (mCons (mVar 2) (mCons (mVar 3) (mCons (mVar 4) mNil)))))) (.nm 6))
  (mRet (mTup (mCons (mC (.str "call")) (mCons (mCall m_L_draw (mCons (mVar 0) (mCons (mVar 3) mNil))) (mCons (mC (.bl true)) (mCons (mLst false (mCons (mVar 6) (mCons (mCall (f_L_faulty_list) (mCons (mVar 0) (mCons (mOp (fAdd false) (mVar 1) (mC (.int 1))) (mCons (mVar 2) (mCons (mVar 3) (mCons (mVar 4) mNil)))))) mNil))) mNil))))))) mSkip)
  (mSeq (mIfS (mAnd (mB (mOp fEq (mVar 5) (mC (.int 7)))) (mB (mOp fEq (mCall m_L_draw (mCons (mVar 0) (mCons (mVar 4) mNil))) (mC (.int 0))))) (mRet (mTup (mCons (mC (.str "bad")) mNil))) mSkip)
  (mRet (mTup (mCons (mC (.str "end")) (mCons (mCall m_L_draw (mCons (mVar 0) (mCons (mC (.int 2)) mNil))) mNil)))))))))))))
def w_L_faulty_list_1 (f_L_faulty_thing : FD) : FS :=
  (mWipe [7] (mIfS (mB (mOp fGt (mOp fIx (mVar 2) (mC (.int 0))) (mC (.int 0)))) (mDrop (mApp (mVar 5) (mCall (f_L_faulty_thing) (mCons (mVar 0) (mCons (mVar 1) (mCons (mVar 2) (mCons (mVar 3) (mCons (mVar 4) mNil)))))))) mSkip))
def b_L_faulty_list (f_L_faulty_thing : FD) : FS :=
  (mSeq (mAsg (mLst true mNil) (.nm 5))
  (mSeq (mAsg (mCall m_L_draw (mCons (mVar 0) (mCons (mC (.int 11)) mNil))) (.nm 6))
  (mSeq (mIfS (mB (mOp fGt (mVar 6) (mC (.int 7)))) (mAsg (mOp fSub (mVar 6) (mOp fMul (mC (.int 7)) (mCall m_L_draw (mCons (mVar 0) (mCons (mC (.int 2)) mNil))))) (.nm 6)) mSkip)
  (mSeq (mFor (mRng1 (mVar 6)) (.nm 7) (w_L_faulty_list_1 (f_L_faulty_thing)))
  (mRet (mFrz (mVar 5)))))))
def g_L_faulty_thing : Nat → FD × FD
  | 0 => (stuckD, stuckD)
  | n + 1 => let r := g_L_faulty_thing n
    (run 7 5 (b_L_faulty_thing r.2), runT 8 5 (b_L_faulty_list r.1))
def m_L_faulty_thing (n : Nat) : FD := (g_L_faulty_thing n).1
def m_L_faulty_list (n : Nat) : FD := (g_L_faulty_thing n).2
def w_L_fault_1 (f_L_fault : FD) : FS :=
  (mWipe [8, 9] (mSeq (mAsg (mCall (f_L_fault) (mCons (mOp fIx (mVar 7) (mVar 8)) (mCons (mOp (fAdd false) (mVar 1) (mC (.int 1))) (mCons (mOp (fAdd false) (mVar 5) (mTup (mCons (mVar 8) mNil))) (mCons (mVar 3) mNil))))) (.nm 9))
  (mIfS (mB (mOp fNe (mVar 9) (mTup mNil))) (mRet (mVar 9)) mSkip)))
def w_L_fault_2 (f_L_fault : FD) : FS :=
  (mWipe [4, 5, 6, 7, 8, 9] (mSeq (mAsg (mOp (fAdd false) (mVar 2) (mTup (mCons (mVar 4) mNil))) (.nm 5))
  (mSeq (mAsg (mOp fIx (mVar 0) (mVar 4)) (.nm 6))
  (mSeq (mAsg (mCall m_L_blocks (mCons (mVar 6) mNil)) (.nm 7))
  (mSeq (mIfS (mOr (mB (mOp fEq (mVar 4) (mC (.int 8)))) (mOr (mB (mOp fEq (mOp fIx (mVar 3) (mC (.int 0))) (mC (.int 12)))) (mOr (mB (mOp fEq (mVar 6) (mTup (mCons (mC (.str "bad")) mNil)))) (mAnd (mB (mOp fEq (mVar 1) (mC (.int 3)))) (mB (mOp fGt (m1 fLen (mVar 7)) (mC (.int 0)))))))) (mRet (mVar 5)) mSkip)
  (mSeq (mAugI (fun x y => x + y) (mVar 3) (mC (.int 0)) (mC (.int 1)))
  (mFor (mRng1 (m1 fLen (mVar 7))) (.nm 8) (w_L_fault_1 (f_L_fault)))))))))
def b_L_fault (f_L_fault : FD) : FS :=
  (mSeq (mFor (mRng1 (m1 fLen (mVar 0))) (.nm 4) (w_L_fault_2 (f_L_fault)))
  (mRet (mTup mNil)))
def m_L_fault : Nat → FD
  | 0 => stuckD
  | n + 1 => run 10 4 (b_L_fault (m_L_fault n))
def b_L_made : FS :=
  (mSeq (mTryA ["NoBook", "NoPath", "NoProcedure"] (mAsg (mMake false "Book" m_Book_init (mCons (mVar 0) mNil)) (.nm 1)) "NoBook" 2 [.c (.str "NoBook") (.str "NoBook"), .f "procedure", .f "path"])
  (mRet (mTup (mCons (mC (.str "told")) (mCons (m1 (fLenO "Book" m_Book_len) (mVar 1)) (mCons (mMeth "Book" "bodies" m_Book_bodies (mVar 1) mNil) mNil))))))
def m_L_made : FD := run 3 1 b_L_made
def e_law_k13_1 : FE :=
  (mCall (m_L_faulty_list 20) (mCons (mVar 1) (mCons (mC (.int 0)) (mCons (mVar 4) (mCons (mVar 3) (mCons (mVar 2) mNil))))))
def w_law_k13_2 : FS :=
  (mWipe [7, 8] (mSeq (mAsg (mCall (m_L_fault 10) (mCons (mOp fIx (mVar 5) (mVar 7)) (mCons (mC (.int 0)) (mCons (mTup mNil) (mCons (mLst true (mCons (mC (.int 0)) mNil)) mNil))))) (.nm 8))
  (mIfS (mB (mOp fNe (mVar 8) (mTup mNil))) (mAsg (mTup (mCons (mC (.str "NoBook")) (mCons (mVar 7) (mCons (mVar 8) mNil)))) (.nm 6)) mSkip)))
def b_law_k13 : FS :=
  (mSeq (mAsg (mCall m_L_pool (mCons (mVar 0) mNil)) (.nm 1))
  (mSeq (mAsg (mOp (fAdd false) (mC (.int 1)) (mCall m_L_draw (mCons (mVar 1) (mCons (mC (.int 6)) mNil)))) (.nm 2))
  (mSeq (mAsg (mOp (fAdd false) (mC (.int 1)) (mCall m_L_draw (mCons (mVar 1) (mCons (mC (.int 3)) mNil)))) (.nm 3))
  (mSeq (mAsg (mLst true (mCons (mOp (fAdd false) (mC (.int 8)) (mCall m_L_draw (mCons (mVar 1) (mCons (mC (.int 43)) mNil)))) mNil)) (.nm 4))
  (mSeq (mAsg (mLc false (mRng1 (mVar 3)) (.nm 9) mYes e_law_k13_1 [9]) (.nm 5))
  (mSeq (mAsg (mTup (mCons (mC (.str "told")) (mCons (mVar 3) (mCons (mVar 5) mNil)))) (.nm 6))
  (mSeq (mFor (mRevR1 (mVar 3)) (.nm 7) w_law_k13_2)
  (mRet (mCall (m_L_same 20) (mCons (mCall m_L_made (mCons (mCall m_L_copies (mCons (mVar 5) mNil)) mNil)) (mCons (mVar 6) mNil)))))))))))
def m_law_k13 : FD := runT 10 1 b_law_k13
end PH

namespace PH
open PySem PySem.Spec PyProof.Rows L2
theorem atI0 {α : Type} {x : α} {r : List α} : atI (x :: r) 0 = some x := atI_nat' (n := 0) rfl
theorem atI1 {α : Type} {x y : α} {r : List α} : atI (x :: y :: r) 1 = some y := atI_nat' (n := 1) rfl
theorem atI2 {α : Type} {x y z : α} {r : List α} : atI (x :: y :: z :: r) 2 = some z := atI_nat' (n := 2) rfl
theorem atI3 {α : Type} {x y z w : α} {r : List α} : atI (x :: y :: z :: w :: r) 3 = some w := atI_nat' (n := 3) rfl
theorem ixT0 {x : D} {r : List D} {S : Sto} : fIx (.dat (.tup (x :: r))) (.dat (.int 0)) S = .ok (.dat x) S := g_ixT atI0
theorem ixT1 {x y : D} {r : List D} {S : Sto} : fIx (.dat (.tup (x :: y :: r))) (.dat (.int 1)) S = .ok (.dat y) S := g_ixT atI1
theorem ixT2 {x y z : D} {r : List D} {S : Sto} : fIx (.dat (.tup (x :: y :: z :: r))) (.dat (.int 2)) S = .ok (.dat z) S := g_ixT atI2
theorem ixT3 {x y z w : D} {r : List D} {S : Sto} : fIx (.dat (.tup (x :: y :: z :: w :: r))) (.dat (.int 3)) S = .ok (.dat w) S := g_ixT atI3
theorem ixL0 {x : D} {r : List D} {S : Sto} : fIx (.dat (.lst (x :: r))) (.dat (.int 0)) S = .ok (.dat x) S := g_ixL atI0
theorem ixL1 {x y : D} {r : List D} {S : Sto} : fIx (.dat (.lst (x :: y :: r))) (.dat (.int 1)) S = .ok (.dat y) S := g_ixL atI1
/-- the pool stands at p -/
def PoolAt (S : Sto) (p : Nat) (ks : List Int) : Prop := S[p]? = some (.lst (ks.map D.int)) ∧ 2 ≤ ks.length
theorem getC_int {S : Sto} {p : Nat} {ks : List Int} {k : Int} {n : Nat} {u : Int} (h : S[p]? = some (.lst (ks.map D.int))) (hk : k = (n : Int)) (hu : ks[n]? = some u) : getC (.cel p) k S = some (.int u) := by
  subst hk
  simp only [getC, h]
  rw [if_pos (by omega)]
  simp [hu]
theorem setC_int {S : Sto} {p : Nat} {ks : List Int} {k : Int} {n : Nat} {u : Int} (h : S[p]? = some (.lst (ks.map D.int))) (hk : k = (n : Int)) (hu : n < ks.length) : setC (.cel p) k (.int u) S = some (S.set p (.lst ((ks.set n u).map D.int))) := by
  subst hk
  simp only [setC, h]
  rw [if_pos ⟨by omega, by simpa using hu⟩]
  simp [List.map_set]
/-- xs[k] op= e on a cell of ints -/
theorem augI_int {g : Int → Int → Int} {o i e : FE} {ρ : Ev} {S : Sto} {p n : Nat} {k u w : Int} {ks : List Int} (ho : o ρ S = .ok (.cel p) S) (hi : i ρ S = .ok (.dat (.int k)) S) (he : e ρ S = .ok (.dat (.int w)) S) (h : S[p]? = some (.lst (ks.map D.int))) (hk : k = (n : Int)) (hu : ks[n]? = some u) :
    mAugI g o i e ρ S = .next ρ (S.set p (.lst ((ks.set n (g u w)).map D.int))) := by
  simp only [mAugI, ho, hi, he, g_toS_ok, getC_int h hk hu, setC_int h hk (List.getElem?_eq_some_iff.mp hu).1]
theorem ixC_int {S : Sto} {p : Nat} {ks : List Int} {k : Int} {n : Nat} {u : Int} (h : S[p]? = some (.lst (ks.map D.int))) (hk : k = (n : Int)) (hu : ks[n]? = some u) : fIx (.cel p) (.dat (.int k)) S = .ok (.dat (.int u)) S :=
  g_ixC h (by rw [atI_nat' hk]; simp [hu])
theorem set_at {S : Sto} {p : Nat} {c d : Cell} (h : S[p]? = some c) : (S.set p d)[p]? = some d := by
  rw [List.getElem?_set, if_pos rfl, if_pos (List.getElem?_eq_some_iff.mp h).1]
theorem pw18 {S : Sto} : fPow (.dat (.int 10)) (.dat (.int 18)) S = .ok (.dat (.int 1000000000000000000)) S := rfl
theorem dw1 (a : Int) : IntMulOk 7919 a := mulL (by decide) (by decide)
theorem dw2 (a : Int) : IntMulOk a 48271 := mulR (by decide) (by decide)
theorem dw3 (a : Int) : CDiv a 1009 := ⟨by decide, by decide⟩
theorem dw4 (a : Int) : CDiv a 2003 := ⟨by decide, by decide⟩
theorem dw5 (a : Int) : CDiv a 11 := ⟨by decide, by decide⟩
theorem dw6 (a b : Int) : IntMulOk (a % 2147483647) b := by
  have h1 : 0 ≤ a % 2147483647 := Int.emod_nonneg _ (by decide)
  have h2 : a % 2147483647 < 2147483647 := Int.emod_lt_of_pos _ (by decide)
  generalize a % 2147483647 = x at h1 h2
  exact mulL (by omega) (by omega)
theorem dw7 : (0 : Int) < 2147483647 := by decide
theorem dw8 : (0 : Int) < 2147483399 := by decide
theorem dw9 {a k : Int} {ks : List Int} {S S1 : Sto} {p : Nat} {u : Int} (h0 : 0 < k) (hS1 : S.set p (.lst ((ks.set 0 (u + 1)).map D.int)) = S1) : ∃ (d : Int) (ks' : List Int), ofOut (Out.ret (.dat (.int (a % k))) S1) = .ok (.dat (.int d)) (S.set p (.lst (ks'.map D.int))) ∧ 0 ≤ d ∧ d < k ∧ ks'.length = ks.length :=
  ⟨a % k, ks.set 0 (u + 1), by rw [hS1]; rfl, Int.emod_nonneg _ (by omega), Int.emod_lt_of_pos _ h0, by simp⟩
theorem draw_ok {S : Sto} {p : Nat} {ks : List Int} {k : Int} (hP : PoolAt S p ks) (h0 : 0 < k) (h1 : k < 1073741824) :
    ∃ (d : Int) (ks' : List Int), m_L_draw [.cel p, .dat (.int k)] S = .ok (.dat (.int d)) (S.set p (.lst (ks'.map D.int))) ∧ 0 ≤ d ∧ d < k ∧ ks'.length = ks.length := by
  obtain ⟨hp, hl⟩ := hP
  obtain ⟨u, hu⟩ : ∃ u, ks[0]? = some u := ⟨ks[0], by simp [show 0 < ks.length by omega]⟩
  have hp1 := set_at (d := .lst ((ks.set 0 (u + 1)).map D.int)) hp
  have hn : (1 : Int) + (u + 1) % ((ks.length : Int) - 1) = ((1 + ((u + 1) % ((ks.length : Int) - 1)).toNat : Nat) : Int) := by
    have := Int.emod_nonneg (u + 1) (show ((ks.length : Int) - 1) ≠ 0 by omega)
    omega
  have hlt : 1 + ((u + 1) % ((ks.length : Int) - 1)).toNat < ks.length := by
    have := Int.emod_lt_of_pos (u + 1) (show 0 < ((ks.length : Int) - 1) by omega)
    have := Int.emod_nonneg (u + 1) (show ((ks.length : Int) - 1) ≠ 0 by omega)
    omega
  generalize hj : 1 + ((u + 1) % ((ks.length : Int) - 1)).toNat = j at hn hlt
  obtain ⟨c, hc⟩ : ∃ c, (ks.set 0 (u + 1))[j]? = some c := ⟨(ks.set 0 (u + 1))[j]'(by simpa using hlt), by simp [hlt]⟩
  have h00 : (ks.set 0 (u + 1))[0]? = some (u + 1) := by
    rw [List.getElem?_set, if_pos rfl, if_pos (by omega)]
  have e1 : (mAugI (fun x y => x + y) (mVar 0) (mC (.int 0)) (mC (.int 1))) [some (.cel p), some (.dat (.int k)), none, none, none] S = .next [some (.cel p), some (.dat (.int k)), none, none, none] (S.set p (.lst ((ks.set 0 (u + 1)).map D.int))) := augI_int rfl rfl rfl hp rfl hu
  have eE : m_L_draw [.cel p, .dat (.int k)] S = ofOut (b_L_draw [some (.cel p), some (.dat (.int k)), none, none, none] S) := rfl
  rw [eE]
  unfold b_L_draw
  generalize hS1 : S.set p (.lst ((ks.set 0 (u + 1)).map D.int)) = S1 at e1 hp1
  simp (config := { implicitDefEqProofs := false }) only [e1, ixC_int (k := 0) (n := 0) hp1 rfl h00, g_lenC hp1, List.length_map, List.length_set, g_modI (show (0 : Int) < (ks.length : Int) - 1 by omega), hn, ixC_int hp1 rfl hc, pw18, g_bind_ok, g_bind_err, g_toS_ok, g_toS_err, g_var, g_c, g_op, g_op1, g_1, g_B, g_unB, g_test, g_and, g_or, g_not, g_kand_t, g_kand_f, g_kor_t, g_kor_f, g_knot, g_andV, g_orV, g_kandV_t, g_kandV_f, g_korV_t, g_korV_f, g_notV, g_kNotV, g_kNV, g_orT, g_kOrT, g_kOrT_t, g_kOrT_f, g_tru_bl, g_chain, g_ch1, g_ch2, g_ch3_t, g_ch3_f, g_if, g_kif_t, g_kif_f, g_nil, g_cons, g_cons1, g_cons2, g_lst, g_tup, g_allD_nil, g_allD_cons, kTup0, kTup1, kTup2, kTup3, kTup4, kLst0, kLst1, kLst2, kLst3, g_newF, g_newT, g_call, g_sl, g_sl0, g_sl1, g_sl2, g_noP, g_part, g_kPart, g_frz, g_app, g_seq, g_seq_next, g_seq_ret, g_seq_err, g_seq_brk, g_seq_cnt, g_skip, g_ret, g_kRet, g_drop, g_kDrop, g_ifS, g_kIfS_t, g_kIfS_f, g_asg, g_kAsg, g_kAsg2, g_kAsg3, g_for, g_kFor, g_lc, g_seqI, g_itemsL, g_itemsT, g_rng1, g_revR1, g_enum, g_kEnum, g_wipe, g_wipe_next, g_wipe_ret, g_wipe_err, g_addI, g_subI, g_ltI, g_leI, g_gtI, g_geI, g_eqI, g_neI, g_eqS, g_neS, g_eqB, g_neB, g_neg, g_intI, g_intB, g_lenT, g_lenL, g_isN, g_yes, g_truL, g_truI, g_isNon_tup, g_isNon_non, g_slT, g_slL, g_slS, g_listL, g_listT, g_tupleL, g_raise, g_raiseA, g_kRaise1, g_kRaise2, g_setF, g_kSetF, g_make, g_meth, g_kMeth2, g_fld, g_kFldD, g_tryA, g_tryA_next, g_tryA_ret, g_cast0, g_cast1, g_cast2, g_cast3, g_cast4, g_cast5, g_cast6, g_cast7, g_cast8, g_cast9, g_cast10, g_cast11, g_cast12, g_cast13, lk, List.set_cons_zero, List.set_cons_succ, Bool.not_true, Bool.not_false, decide_true, decide_false, Int.reduceEq, Int.reduceLT, Int.reduceLE, Int.reduceSub, Int.reduceAdd, Int.reduceNeg, Int.reduceToNat, Int.reduceNe, Nat.reduceAdd, Nat.reduceLT, Nat.reduceLeDiff, eq_self, if_true, if_false, str_eq, String.reduceEq, isTy, String.reduceBEq, Bool.true_or, Bool.false_or, Bool.or_true, Bool.or_false, Bool.and_true, Bool.true_and, Bool.and_false, Bool.false_and, fIsi, fIsi2, kindOf, List.set_set, List.length_cons, List.length_nil, wipeE, beq_self_eq_true]
  by_cases hbig : (1000000000000000000 : Int) ≤ c
  · rw [decide_eq_true hbig]
    simp (config := { implicitDefEqProofs := false }) only [g_bind_ok, g_bind_err, g_toS_ok, g_toS_err, g_var, g_c, g_op, g_op1, g_1, g_B, g_unB, g_test, g_and, g_or, g_not, g_kand_t, g_kand_f, g_kor_t, g_kor_f, g_knot, g_andV, g_orV, g_kandV_t, g_kandV_f, g_korV_t, g_korV_f, g_notV, g_kNotV, g_kNV, g_orT, g_kOrT, g_kOrT_t, g_kOrT_f, g_tru_bl, g_chain, g_ch1, g_ch2, g_ch3_t, g_ch3_f, g_if, g_kif_t, g_kif_f, g_nil, g_cons, g_cons1, g_cons2, g_lst, g_tup, g_allD_nil, g_allD_cons, kTup0, kTup1, kTup2, kTup3, kTup4, kLst0, kLst1, kLst2, kLst3, g_newF, g_newT, g_call, g_sl, g_sl0, g_sl1, g_sl2, g_noP, g_part, g_kPart, g_frz, g_app, g_seq, g_seq_next, g_seq_ret, g_seq_err, g_seq_brk, g_seq_cnt, g_skip, g_ret, g_kRet, g_drop, g_kDrop, g_ifS, g_kIfS_t, g_kIfS_f, g_asg, g_kAsg, g_kAsg2, g_kAsg3, g_for, g_kFor, g_lc, g_seqI, g_itemsL, g_itemsT, g_rng1, g_revR1, g_enum, g_kEnum, g_wipe, g_wipe_next, g_wipe_ret, g_wipe_err, g_addI, g_subI, g_ltI, g_leI, g_gtI, g_geI, g_eqI, g_neI, g_eqS, g_neS, g_eqB, g_neB, g_neg, g_intI, g_intB, g_lenT, g_lenL, g_isN, g_yes, g_truL, g_truI, g_isNon_tup, g_isNon_non, g_slT, g_slL, g_slS, g_listL, g_listT, g_tupleL, g_raise, g_raiseA, g_kRaise1, g_kRaise2, g_setF, g_kSetF, g_make, g_meth, g_kMeth2, g_fld, g_kFldD, g_tryA, g_tryA_next, g_tryA_ret, g_cast0, g_cast1, g_cast2, g_cast3, g_cast4, g_cast5, g_cast6, g_cast7, g_cast8, g_cast9, g_cast10, g_cast11, g_cast12, g_cast13, lk, List.set_cons_zero, List.set_cons_succ, Bool.not_true, Bool.not_false, decide_true, decide_false, Int.reduceEq, Int.reduceLT, Int.reduceLE, Int.reduceSub, Int.reduceAdd, Int.reduceNeg, Int.reduceToNat, Int.reduceNe, Nat.reduceAdd, Nat.reduceLT, Nat.reduceLeDiff, eq_self, if_true, if_false, str_eq, String.reduceEq, isTy, String.reduceBEq, Bool.true_or, Bool.false_or, Bool.or_true, Bool.or_false, Bool.and_true, Bool.true_and, Bool.and_false, Bool.false_and, fIsi, fIsi2, kindOf, List.set_set, List.length_cons, List.length_nil, wipeE, beq_self_eq_true]
    have e2 : mSetI (mOp fFdiv (mVar 3) (mVar 1)) (mVar 0) (mVar 2) [some (.cel p), some (.dat (.int k)), some (.dat (.int (j : Int))), some (.dat (.int c)), none] S1 = .next [some (.cel p), some (.dat (.int k)), some (.dat (.int (j : Int))), some (.dat (.int c)), none] (S1.set p (.lst (((ks.set 0 (u + 1)).set j (c / k)).map D.int))) := by
      unfold mSetI
      simp (config := { implicitDefEqProofs := false }) only [g_fdivI (show CDiv c k from ⟨h0, h1⟩), setC_int (u := c / k) hp1 (rfl : (j : Int) = (j : Int)) (by simpa using hlt), g_bind_ok, g_bind_err, g_toS_ok, g_toS_err, g_var, g_c, g_op, g_op1, g_1, g_B, g_unB, g_test, g_and, g_or, g_not, g_kand_t, g_kand_f, g_kor_t, g_kor_f, g_knot, g_andV, g_orV, g_kandV_t, g_kandV_f, g_korV_t, g_korV_f, g_notV, g_kNotV, g_kNV, g_orT, g_kOrT, g_kOrT_t, g_kOrT_f, g_tru_bl, g_chain, g_ch1, g_ch2, g_ch3_t, g_ch3_f, g_if, g_kif_t, g_kif_f, g_nil, g_cons, g_cons1, g_cons2, g_lst, g_tup, g_allD_nil, g_allD_cons, kTup0, kTup1, kTup2, kTup3, kTup4, kLst0, kLst1, kLst2, kLst3, g_newF, g_newT, g_call, g_sl, g_sl0, g_sl1, g_sl2, g_noP, g_part, g_kPart, g_frz, g_app, g_seq, g_seq_next, g_seq_ret, g_seq_err, g_seq_brk, g_seq_cnt, g_skip, g_ret, g_kRet, g_drop, g_kDrop, g_ifS, g_kIfS_t, g_kIfS_f, g_asg, g_kAsg, g_kAsg2, g_kAsg3, g_for, g_kFor, g_lc, g_seqI, g_itemsL, g_itemsT, g_rng1, g_revR1, g_enum, g_kEnum, g_wipe, g_wipe_next, g_wipe_ret, g_wipe_err, g_addI, g_subI, g_ltI, g_leI, g_gtI, g_geI, g_eqI, g_neI, g_eqS, g_neS, g_eqB, g_neB, g_neg, g_intI, g_intB, g_lenT, g_lenL, g_isN, g_yes, g_truL, g_truI, g_isNon_tup, g_isNon_non, g_slT, g_slL, g_slS, g_listL, g_listT, g_tupleL, g_raise, g_raiseA, g_kRaise1, g_kRaise2, g_setF, g_kSetF, g_make, g_meth, g_kMeth2, g_fld, g_kFldD, g_tryA, g_tryA_next, g_tryA_ret, g_cast0, g_cast1, g_cast2, g_cast3, g_cast4, g_cast5, g_cast6, g_cast7, g_cast8, g_cast9, g_cast10, g_cast11, g_cast12, g_cast13, lk, List.set_cons_zero, List.set_cons_succ, Bool.not_true, Bool.not_false, decide_true, decide_false, Int.reduceEq, Int.reduceLT, Int.reduceLE, Int.reduceSub, Int.reduceAdd, Int.reduceNeg, Int.reduceToNat, Int.reduceNe, Nat.reduceAdd, Nat.reduceLT, Nat.reduceLeDiff, eq_self, if_true, if_false, str_eq, String.reduceEq, isTy, String.reduceBEq, Bool.true_or, Bool.false_or, Bool.or_true, Bool.or_false, Bool.and_true, Bool.true_and, Bool.and_false, Bool.false_and, fIsi, fIsi2, kindOf, List.set_set, List.length_cons, List.length_nil, wipeE, beq_self_eq_true]
    simp (config := { implicitDefEqProofs := false }) only [e2, g_modI h0, g_bind_ok, g_bind_err, g_toS_ok, g_toS_err, g_var, g_c, g_op, g_op1, g_1, g_B, g_unB, g_test, g_and, g_or, g_not, g_kand_t, g_kand_f, g_kor_t, g_kor_f, g_knot, g_andV, g_orV, g_kandV_t, g_kandV_f, g_korV_t, g_korV_f, g_notV, g_kNotV, g_kNV, g_orT, g_kOrT, g_kOrT_t, g_kOrT_f, g_tru_bl, g_chain, g_ch1, g_ch2, g_ch3_t, g_ch3_f, g_if, g_kif_t, g_kif_f, g_nil, g_cons, g_cons1, g_cons2, g_lst, g_tup, g_allD_nil, g_allD_cons, kTup0, kTup1, kTup2, kTup3, kTup4, kLst0, kLst1, kLst2, kLst3, g_newF, g_newT, g_call, g_sl, g_sl0, g_sl1, g_sl2, g_noP, g_part, g_kPart, g_frz, g_app, g_seq, g_seq_next, g_seq_ret, g_seq_err, g_seq_brk, g_seq_cnt, g_skip, g_ret, g_kRet, g_drop, g_kDrop, g_ifS, g_kIfS_t, g_kIfS_f, g_asg, g_kAsg, g_kAsg2, g_kAsg3, g_for, g_kFor, g_lc, g_seqI, g_itemsL, g_itemsT, g_rng1, g_revR1, g_enum, g_kEnum, g_wipe, g_wipe_next, g_wipe_ret, g_wipe_err, g_addI, g_subI, g_ltI, g_leI, g_gtI, g_geI, g_eqI, g_neI, g_eqS, g_neS, g_eqB, g_neB, g_neg, g_intI, g_intB, g_lenT, g_lenL, g_isN, g_yes, g_truL, g_truI, g_isNon_tup, g_isNon_non, g_slT, g_slL, g_slS, g_listL, g_listT, g_tupleL, g_raise, g_raiseA, g_kRaise1, g_kRaise2, g_setF, g_kSetF, g_make, g_meth, g_kMeth2, g_fld, g_kFldD, g_tryA, g_tryA_next, g_tryA_ret, g_cast0, g_cast1, g_cast2, g_cast3, g_cast4, g_cast5, g_cast6, g_cast7, g_cast8, g_cast9, g_cast10, g_cast11, g_cast12, g_cast13, lk, List.set_cons_zero, List.set_cons_succ, Bool.not_true, Bool.not_false, decide_true, decide_false, Int.reduceEq, Int.reduceLT, Int.reduceLE, Int.reduceSub, Int.reduceAdd, Int.reduceNeg, Int.reduceToNat, Int.reduceNe, Nat.reduceAdd, Nat.reduceLT, Nat.reduceLeDiff, eq_self, if_true, if_false, str_eq, String.reduceEq, isTy, String.reduceBEq, Bool.true_or, Bool.false_or, Bool.or_true, Bool.or_false, Bool.and_true, Bool.true_and, Bool.and_false, Bool.false_and, fIsi, fIsi2, kindOf, List.set_set, List.length_cons, List.length_nil, wipeE, beq_self_eq_true]
    refine ⟨c % k, (ks.set 0 (u + 1)).set j (c / k), ?_, Int.emod_nonneg c (by omega), Int.emod_lt_of_pos c h0, by simp⟩
    rw [← hS1, List.set_set]
    rfl
  · rw [decide_eq_false hbig]
    simp (config := { implicitDefEqProofs := false }) only [ixC_int (k := 0) (n := 0) hp1 rfl h00, g_mulI (dw1 _), g_mulI (dw2 _), g_modI dw7, g_modI dw8, g_fdivI (dw3 _), g_fdivI (dw4 _), g_fdivI (dw5 _), g_mulI (dw6 _ _), g_modI h0, g_bind_ok, g_bind_err, g_toS_ok, g_toS_err, g_var, g_c, g_op, g_op1, g_1, g_B, g_unB, g_test, g_and, g_or, g_not, g_kand_t, g_kand_f, g_kor_t, g_kor_f, g_knot, g_andV, g_orV, g_kandV_t, g_kandV_f, g_korV_t, g_korV_f, g_notV, g_kNotV, g_kNV, g_orT, g_kOrT, g_kOrT_t, g_kOrT_f, g_tru_bl, g_chain, g_ch1, g_ch2, g_ch3_t, g_ch3_f, g_if, g_kif_t, g_kif_f, g_nil, g_cons, g_cons1, g_cons2, g_lst, g_tup, g_allD_nil, g_allD_cons, kTup0, kTup1, kTup2, kTup3, kTup4, kLst0, kLst1, kLst2, kLst3, g_newF, g_newT, g_call, g_sl, g_sl0, g_sl1, g_sl2, g_noP, g_part, g_kPart, g_frz, g_app, g_seq, g_seq_next, g_seq_ret, g_seq_err, g_seq_brk, g_seq_cnt, g_skip, g_ret, g_kRet, g_drop, g_kDrop, g_ifS, g_kIfS_t, g_kIfS_f, g_asg, g_kAsg, g_kAsg2, g_kAsg3, g_for, g_kFor, g_lc, g_seqI, g_itemsL, g_itemsT, g_rng1, g_revR1, g_enum, g_kEnum, g_wipe, g_wipe_next, g_wipe_ret, g_wipe_err, g_addI, g_subI, g_ltI, g_leI, g_gtI, g_geI, g_eqI, g_neI, g_eqS, g_neS, g_eqB, g_neB, g_neg, g_intI, g_intB, g_lenT, g_lenL, g_isN, g_yes, g_truL, g_truI, g_isNon_tup, g_isNon_non, g_slT, g_slL, g_slS, g_listL, g_listT, g_tupleL, g_raise, g_raiseA, g_kRaise1, g_kRaise2, g_setF, g_kSetF, g_make, g_meth, g_kMeth2, g_fld, g_kFldD, g_tryA, g_tryA_next, g_tryA_ret, g_cast0, g_cast1, g_cast2, g_cast3, g_cast4, g_cast5, g_cast6, g_cast7, g_cast8, g_cast9, g_cast10, g_cast11, g_cast12, g_cast13, lk, List.set_cons_zero, List.set_cons_succ, Bool.not_true, Bool.not_false, decide_true, decide_false, Int.reduceEq, Int.reduceLT, Int.reduceLE, Int.reduceSub, Int.reduceAdd, Int.reduceNeg, Int.reduceToNat, Int.reduceNe, Nat.reduceAdd, Nat.reduceLT, Nat.reduceLeDiff, eq_self, if_true, if_false, str_eq, String.reduceEq, isTy, String.reduceBEq, Bool.true_or, Bool.false_or, Bool.or_true, Bool.or_false, Bool.and_true, Bool.true_and, Bool.and_false, Bool.false_and, fIsi, fIsi2, kindOf, List.set_set, List.length_cons, List.length_nil, wipeE, beq_self_eq_true]
    exact dw9 h0 hS1
end PH

namespace PH
open PySem PySem.Spec PyProof.Rows L2
inductive Cmd where
  | go (k : Int) | turn (n : Int) | mirror | scale (k : Int) | aim (a b : Int) | place (a b : Int) | mark | ret | exch
def Cmd.d : Cmd → D
  | .go k => .tup [.str "go", .int k]
  | .turn k => .tup [.str "turn", .int k]
  | .mirror => .tup [.str "mirror"]
  | .scale k => .tup [.str "scale", .int k]
  | .aim a b => .tup [.str "aim", .int a, .int b]
  | .place a b => .tup [.str "place", .int a, .int b]
  | .mark => .tup [.str "mark"]
  | .ret => .tup [.str "return"]
  | .exch => .tup [.str "exchange"]
def Cmd.Ok : Cmd → Prop
  | .go k => -9 ≤ k ∧ k ≤ 9
  | .turn k => 1 ≤ k ∧ k ≤ 3
  | .scale k => -3 ≤ k ∧ k ≤ 3
  | .aim a b => (-9 ≤ a ∧ a ≤ 9) ∧ -9 ≤ b ∧ b ≤ 9
  | .place a b => (-9 ≤ a ∧ a ≤ 9) ∧ -9 ≤ b ∧ b ≤ 9
  | _ => True
abbrev PL (ks : List Int) : Cell := .lst (ks.map D.int)
theorem PoolAt.next {S : Sto} {p : Nat} {ks ks' : List Int} (h : PoolAt S p ks) (l : ks'.length = ks.length) : PoolAt (S.set p (PL ks')) p ks' := ⟨set_at h.1, by rw [l]; exact h.2⟩
theorem any_cmd_ok {S : Sto} {p : Nat} {ks : List Int} (hP : PoolAt S p ks) : ∃ (c : Cmd) (ks' : List Int), m_L_any_command [.cel p] S = .ok (.dat c.d) (S.set p (PL ks')) ∧ c.Ok ∧ ks'.length = ks.length := by
  obtain ⟨d, k1, e1, h0, h1, l1⟩ := draw_ok hP (k := 9) (by decide) (by decide)
  have P1 := hP.next l1
  have eE : m_L_any_command [.cel p] S = ofOut (b_L_any_command [some (.cel p), none] S) := rfl
  rw [eE]
  unfold b_L_any_command
  simp (config := { implicitDefEqProofs := false }) only [e1, g_bind_ok, g_bind_err, g_toS_ok, g_toS_err, g_var, g_c, g_op, g_op1, g_1, g_B, g_unB, g_test, g_and, g_or, g_not, g_kand_t, g_kand_f, g_kor_t, g_kor_f, g_knot, g_andV, g_orV, g_kandV_t, g_kandV_f, g_korV_t, g_korV_f, g_notV, g_kNotV, g_kNV, g_orT, g_kOrT, g_kOrT_t, g_kOrT_f, g_tru_bl, g_chain, g_ch1, g_ch2, g_ch3_t, g_ch3_f, g_if, g_kif_t, g_kif_f, g_nil, g_cons, g_cons1, g_cons2, g_lst, g_tup, g_allD_nil, g_allD_cons, kTup0, kTup1, kTup2, kTup3, kTup4, kLst0, kLst1, kLst2, kLst3, g_newF, g_newT, g_call, g_sl, g_sl0, g_sl1, g_sl2, g_noP, g_part, g_kPart, g_frz, g_app, g_seq, g_seq_next, g_seq_ret, g_seq_err, g_seq_brk, g_seq_cnt, g_skip, g_ret, g_kRet, g_drop, g_kDrop, g_ifS, g_kIfS_t, g_kIfS_f, g_asg, g_kAsg, g_kAsg2, g_kAsg3, g_for, g_kFor, g_lc, g_seqI, g_itemsL, g_itemsT, g_rng1, g_revR1, g_enum, g_kEnum, g_wipe, g_wipe_next, g_wipe_ret, g_wipe_err, g_addI, g_subI, g_ltI, g_leI, g_gtI, g_geI, g_eqI, g_neI, g_eqS, g_neS, g_eqB, g_neB, g_neg, g_intI, g_intB, g_lenT, g_lenL, g_isN, g_yes, g_truL, g_truI, g_isNon_tup, g_isNon_non, g_slT, g_slL, g_slS, g_listL, g_listT, g_tupleL, g_raise, g_raiseA, g_kRaise1, g_kRaise2, g_setF, g_kSetF, g_make, g_meth, g_kMeth2, g_fld, g_kFldD, g_tryA, g_tryA_next, g_tryA_ret, g_cast0, g_cast1, g_cast2, g_cast3, g_cast4, g_cast5, g_cast6, g_cast7, g_cast8, g_cast9, g_cast10, g_cast11, g_cast12, g_cast13, lk, List.set_cons_zero, List.set_cons_succ, Bool.not_true, Bool.not_false, decide_true, decide_false, Int.reduceEq, Int.reduceLT, Int.reduceLE, Int.reduceSub, Int.reduceAdd, Int.reduceNeg, Int.reduceToNat, Int.reduceNe, Nat.reduceAdd, Nat.reduceLT, Nat.reduceLeDiff, eq_self, if_true, if_false, str_eq, String.reduceEq, isTy, String.reduceBEq, Bool.true_or, Bool.false_or, Bool.or_true, Bool.or_false, Bool.and_true, Bool.true_and, Bool.and_false, Bool.false_and, fIsi, fIsi2, kindOf, List.set_set, List.length_cons, List.length_nil, wipeE, beq_self_eq_true]
  obtain ⟨d2, k2, e2, h2, h3, l2⟩ := draw_ok P1 (k := 19) (by decide) (by decide)
  obtain ⟨d3, k3, e3, h4, h5, l3⟩ := draw_ok P1 (k := 3) (by decide) (by decide)
  obtain ⟨d4, k4, e4, h6, h7, l4⟩ := draw_ok P1 (k := 7) (by decide) (by decide)
  obtain ⟨d5, k5, e5, h8, h9, l5⟩ := draw_ok (P1.next l2) (k := 19) (by decide) (by decide)
  simp only [List.set_set] at e2 e3 e4 e5
  rcases (by omega : d = 0 ∨ d = 1 ∨ d = 2 ∨ d = 3 ∨ d = 4 ∨ d = 5 ∨ d = 6 ∨ d = 7 ∨ d = 8) with rfl | rfl | rfl | rfl | rfl | rfl | rfl | rfl | rfl
  · simp (config := { implicitDefEqProofs := false }) only [e2, g_bind_ok, g_bind_err, g_toS_ok, g_toS_err, g_var, g_c, g_op, g_op1, g_1, g_B, g_unB, g_test, g_and, g_or, g_not, g_kand_t, g_kand_f, g_kor_t, g_kor_f, g_knot, g_andV, g_orV, g_kandV_t, g_kandV_f, g_korV_t, g_korV_f, g_notV, g_kNotV, g_kNV, g_orT, g_kOrT, g_kOrT_t, g_kOrT_f, g_tru_bl, g_chain, g_ch1, g_ch2, g_ch3_t, g_ch3_f, g_if, g_kif_t, g_kif_f, g_nil, g_cons, g_cons1, g_cons2, g_lst, g_tup, g_allD_nil, g_allD_cons, kTup0, kTup1, kTup2, kTup3, kTup4, kLst0, kLst1, kLst2, kLst3, g_newF, g_newT, g_call, g_sl, g_sl0, g_sl1, g_sl2, g_noP, g_part, g_kPart, g_frz, g_app, g_seq, g_seq_next, g_seq_ret, g_seq_err, g_seq_brk, g_seq_cnt, g_skip, g_ret, g_kRet, g_drop, g_kDrop, g_ifS, g_kIfS_t, g_kIfS_f, g_asg, g_kAsg, g_kAsg2, g_kAsg3, g_for, g_kFor, g_lc, g_seqI, g_itemsL, g_itemsT, g_rng1, g_revR1, g_enum, g_kEnum, g_wipe, g_wipe_next, g_wipe_ret, g_wipe_err, g_addI, g_subI, g_ltI, g_leI, g_gtI, g_geI, g_eqI, g_neI, g_eqS, g_neS, g_eqB, g_neB, g_neg, g_intI, g_intB, g_lenT, g_lenL, g_isN, g_yes, g_truL, g_truI, g_isNon_tup, g_isNon_non, g_slT, g_slL, g_slS, g_listL, g_listT, g_tupleL, g_raise, g_raiseA, g_kRaise1, g_kRaise2, g_setF, g_kSetF, g_make, g_meth, g_kMeth2, g_fld, g_kFldD, g_tryA, g_tryA_next, g_tryA_ret, g_cast0, g_cast1, g_cast2, g_cast3, g_cast4, g_cast5, g_cast6, g_cast7, g_cast8, g_cast9, g_cast10, g_cast11, g_cast12, g_cast13, lk, List.set_cons_zero, List.set_cons_succ, Bool.not_true, Bool.not_false, decide_true, decide_false, Int.reduceEq, Int.reduceLT, Int.reduceLE, Int.reduceSub, Int.reduceAdd, Int.reduceNeg, Int.reduceToNat, Int.reduceNe, Nat.reduceAdd, Nat.reduceLT, Nat.reduceLeDiff, eq_self, if_true, if_false, str_eq, String.reduceEq, isTy, String.reduceBEq, Bool.true_or, Bool.false_or, Bool.or_true, Bool.or_false, Bool.and_true, Bool.true_and, Bool.and_false, Bool.false_and, fIsi, fIsi2, kindOf, List.set_set, List.length_cons, List.length_nil, wipeE, beq_self_eq_true]
    exact ⟨.go (d2 - 9), k2, rfl, ⟨by omega, by omega⟩, by omega⟩
  · simp (config := { implicitDefEqProofs := false }) only [e3, g_bind_ok, g_bind_err, g_toS_ok, g_toS_err, g_var, g_c, g_op, g_op1, g_1, g_B, g_unB, g_test, g_and, g_or, g_not, g_kand_t, g_kand_f, g_kor_t, g_kor_f, g_knot, g_andV, g_orV, g_kandV_t, g_kandV_f, g_korV_t, g_korV_f, g_notV, g_kNotV, g_kNV, g_orT, g_kOrT, g_kOrT_t, g_kOrT_f, g_tru_bl, g_chain, g_ch1, g_ch2, g_ch3_t, g_ch3_f, g_if, g_kif_t, g_kif_f, g_nil, g_cons, g_cons1, g_cons2, g_lst, g_tup, g_allD_nil, g_allD_cons, kTup0, kTup1, kTup2, kTup3, kTup4, kLst0, kLst1, kLst2, kLst3, g_newF, g_newT, g_call, g_sl, g_sl0, g_sl1, g_sl2, g_noP, g_part, g_kPart, g_frz, g_app, g_seq, g_seq_next, g_seq_ret, g_seq_err, g_seq_brk, g_seq_cnt, g_skip, g_ret, g_kRet, g_drop, g_kDrop, g_ifS, g_kIfS_t, g_kIfS_f, g_asg, g_kAsg, g_kAsg2, g_kAsg3, g_for, g_kFor, g_lc, g_seqI, g_itemsL, g_itemsT, g_rng1, g_revR1, g_enum, g_kEnum, g_wipe, g_wipe_next, g_wipe_ret, g_wipe_err, g_addI, g_subI, g_ltI, g_leI, g_gtI, g_geI, g_eqI, g_neI, g_eqS, g_neS, g_eqB, g_neB, g_neg, g_intI, g_intB, g_lenT, g_lenL, g_isN, g_yes, g_truL, g_truI, g_isNon_tup, g_isNon_non, g_slT, g_slL, g_slS, g_listL, g_listT, g_tupleL, g_raise, g_raiseA, g_kRaise1, g_kRaise2, g_setF, g_kSetF, g_make, g_meth, g_kMeth2, g_fld, g_kFldD, g_tryA, g_tryA_next, g_tryA_ret, g_cast0, g_cast1, g_cast2, g_cast3, g_cast4, g_cast5, g_cast6, g_cast7, g_cast8, g_cast9, g_cast10, g_cast11, g_cast12, g_cast13, lk, List.set_cons_zero, List.set_cons_succ, Bool.not_true, Bool.not_false, decide_true, decide_false, Int.reduceEq, Int.reduceLT, Int.reduceLE, Int.reduceSub, Int.reduceAdd, Int.reduceNeg, Int.reduceToNat, Int.reduceNe, Nat.reduceAdd, Nat.reduceLT, Nat.reduceLeDiff, eq_self, if_true, if_false, str_eq, String.reduceEq, isTy, String.reduceBEq, Bool.true_or, Bool.false_or, Bool.or_true, Bool.or_false, Bool.and_true, Bool.true_and, Bool.and_false, Bool.false_and, fIsi, fIsi2, kindOf, List.set_set, List.length_cons, List.length_nil, wipeE, beq_self_eq_true]
    exact ⟨.turn (1 + d3), k3, rfl, ⟨by omega, by omega⟩, by omega⟩
  · simp (config := { implicitDefEqProofs := false }) only [e4, g_bind_ok, g_bind_err, g_toS_ok, g_toS_err, g_var, g_c, g_op, g_op1, g_1, g_B, g_unB, g_test, g_and, g_or, g_not, g_kand_t, g_kand_f, g_kor_t, g_kor_f, g_knot, g_andV, g_orV, g_kandV_t, g_kandV_f, g_korV_t, g_korV_f, g_notV, g_kNotV, g_kNV, g_orT, g_kOrT, g_kOrT_t, g_kOrT_f, g_tru_bl, g_chain, g_ch1, g_ch2, g_ch3_t, g_ch3_f, g_if, g_kif_t, g_kif_f, g_nil, g_cons, g_cons1, g_cons2, g_lst, g_tup, g_allD_nil, g_allD_cons, kTup0, kTup1, kTup2, kTup3, kTup4, kLst0, kLst1, kLst2, kLst3, g_newF, g_newT, g_call, g_sl, g_sl0, g_sl1, g_sl2, g_noP, g_part, g_kPart, g_frz, g_app, g_seq, g_seq_next, g_seq_ret, g_seq_err, g_seq_brk, g_seq_cnt, g_skip, g_ret, g_kRet, g_drop, g_kDrop, g_ifS, g_kIfS_t, g_kIfS_f, g_asg, g_kAsg, g_kAsg2, g_kAsg3, g_for, g_kFor, g_lc, g_seqI, g_itemsL, g_itemsT, g_rng1, g_revR1, g_enum, g_kEnum, g_wipe, g_wipe_next, g_wipe_ret, g_wipe_err, g_addI, g_subI, g_ltI, g_leI, g_gtI, g_geI, g_eqI, g_neI, g_eqS, g_neS, g_eqB, g_neB, g_neg, g_intI, g_intB, g_lenT, g_lenL, g_isN, g_yes, g_truL, g_truI, g_isNon_tup, g_isNon_non, g_slT, g_slL, g_slS, g_listL, g_listT, g_tupleL, g_raise, g_raiseA, g_kRaise1, g_kRaise2, g_setF, g_kSetF, g_make, g_meth, g_kMeth2, g_fld, g_kFldD, g_tryA, g_tryA_next, g_tryA_ret, g_cast0, g_cast1, g_cast2, g_cast3, g_cast4, g_cast5, g_cast6, g_cast7, g_cast8, g_cast9, g_cast10, g_cast11, g_cast12, g_cast13, lk, List.set_cons_zero, List.set_cons_succ, Bool.not_true, Bool.not_false, decide_true, decide_false, Int.reduceEq, Int.reduceLT, Int.reduceLE, Int.reduceSub, Int.reduceAdd, Int.reduceNeg, Int.reduceToNat, Int.reduceNe, Nat.reduceAdd, Nat.reduceLT, Nat.reduceLeDiff, eq_self, if_true, if_false, str_eq, String.reduceEq, isTy, String.reduceBEq, Bool.true_or, Bool.false_or, Bool.or_true, Bool.or_false, Bool.and_true, Bool.true_and, Bool.and_false, Bool.false_and, fIsi, fIsi2, kindOf, List.set_set, List.length_cons, List.length_nil, wipeE, beq_self_eq_true]
    exact ⟨.scale (d4 - 3), k4, rfl, ⟨by omega, by omega⟩, by omega⟩
  · simp (config := { implicitDefEqProofs := false }) only [ixT0, e2, e5, g_bind_ok, g_bind_err, g_toS_ok, g_toS_err, g_var, g_c, g_op, g_op1, g_1, g_B, g_unB, g_test, g_and, g_or, g_not, g_kand_t, g_kand_f, g_kor_t, g_kor_f, g_knot, g_andV, g_orV, g_kandV_t, g_kandV_f, g_korV_t, g_korV_f, g_notV, g_kNotV, g_kNV, g_orT, g_kOrT, g_kOrT_t, g_kOrT_f, g_tru_bl, g_chain, g_ch1, g_ch2, g_ch3_t, g_ch3_f, g_if, g_kif_t, g_kif_f, g_nil, g_cons, g_cons1, g_cons2, g_lst, g_tup, g_allD_nil, g_allD_cons, kTup0, kTup1, kTup2, kTup3, kTup4, kLst0, kLst1, kLst2, kLst3, g_newF, g_newT, g_call, g_sl, g_sl0, g_sl1, g_sl2, g_noP, g_part, g_kPart, g_frz, g_app, g_seq, g_seq_next, g_seq_ret, g_seq_err, g_seq_brk, g_seq_cnt, g_skip, g_ret, g_kRet, g_drop, g_kDrop, g_ifS, g_kIfS_t, g_kIfS_f, g_asg, g_kAsg, g_kAsg2, g_kAsg3, g_for, g_kFor, g_lc, g_seqI, g_itemsL, g_itemsT, g_rng1, g_revR1, g_enum, g_kEnum, g_wipe, g_wipe_next, g_wipe_ret, g_wipe_err, g_addI, g_subI, g_ltI, g_leI, g_gtI, g_geI, g_eqI, g_neI, g_eqS, g_neS, g_eqB, g_neB, g_neg, g_intI, g_intB, g_lenT, g_lenL, g_isN, g_yes, g_truL, g_truI, g_isNon_tup, g_isNon_non, g_slT, g_slL, g_slS, g_listL, g_listT, g_tupleL, g_raise, g_raiseA, g_kRaise1, g_kRaise2, g_setF, g_kSetF, g_make, g_meth, g_kMeth2, g_fld, g_kFldD, g_tryA, g_tryA_next, g_tryA_ret, g_cast0, g_cast1, g_cast2, g_cast3, g_cast4, g_cast5, g_cast6, g_cast7, g_cast8, g_cast9, g_cast10, g_cast11, g_cast12, g_cast13, lk, List.set_cons_zero, List.set_cons_succ, Bool.not_true, Bool.not_false, decide_true, decide_false, Int.reduceEq, Int.reduceLT, Int.reduceLE, Int.reduceSub, Int.reduceAdd, Int.reduceNeg, Int.reduceToNat, Int.reduceNe, Nat.reduceAdd, Nat.reduceLT, Nat.reduceLeDiff, eq_self, if_true, if_false, str_eq, String.reduceEq, isTy, String.reduceBEq, Bool.true_or, Bool.false_or, Bool.or_true, Bool.or_false, Bool.and_true, Bool.true_and, Bool.and_false, Bool.false_and, fIsi, fIsi2, kindOf, List.set_set, List.length_cons, List.length_nil, wipeE, beq_self_eq_true]
    exact ⟨.aim (d2 - 9) (d5 - 9), k5, rfl, ⟨⟨by omega, by omega⟩, by omega, by omega⟩, by omega⟩
  · simp (config := { implicitDefEqProofs := false }) only [ixT1, e2, e5, g_bind_ok, g_bind_err, g_toS_ok, g_toS_err, g_var, g_c, g_op, g_op1, g_1, g_B, g_unB, g_test, g_and, g_or, g_not, g_kand_t, g_kand_f, g_kor_t, g_kor_f, g_knot, g_andV, g_orV, g_kandV_t, g_kandV_f, g_korV_t, g_korV_f, g_notV, g_kNotV, g_kNV, g_orT, g_kOrT, g_kOrT_t, g_kOrT_f, g_tru_bl, g_chain, g_ch1, g_ch2, g_ch3_t, g_ch3_f, g_if, g_kif_t, g_kif_f, g_nil, g_cons, g_cons1, g_cons2, g_lst, g_tup, g_allD_nil, g_allD_cons, kTup0, kTup1, kTup2, kTup3, kTup4, kLst0, kLst1, kLst2, kLst3, g_newF, g_newT, g_call, g_sl, g_sl0, g_sl1, g_sl2, g_noP, g_part, g_kPart, g_frz, g_app, g_seq, g_seq_next, g_seq_ret, g_seq_err, g_seq_brk, g_seq_cnt, g_skip, g_ret, g_kRet, g_drop, g_kDrop, g_ifS, g_kIfS_t, g_kIfS_f, g_asg, g_kAsg, g_kAsg2, g_kAsg3, g_for, g_kFor, g_lc, g_seqI, g_itemsL, g_itemsT, g_rng1, g_revR1, g_enum, g_kEnum, g_wipe, g_wipe_next, g_wipe_ret, g_wipe_err, g_addI, g_subI, g_ltI, g_leI, g_gtI, g_geI, g_eqI, g_neI, g_eqS, g_neS, g_eqB, g_neB, g_neg, g_intI, g_intB, g_lenT, g_lenL, g_isN, g_yes, g_truL, g_truI, g_isNon_tup, g_isNon_non, g_slT, g_slL, g_slS, g_listL, g_listT, g_tupleL, g_raise, g_raiseA, g_kRaise1, g_kRaise2, g_setF, g_kSetF, g_make, g_meth, g_kMeth2, g_fld, g_kFldD, g_tryA, g_tryA_next, g_tryA_ret, g_cast0, g_cast1, g_cast2, g_cast3, g_cast4, g_cast5, g_cast6, g_cast7, g_cast8, g_cast9, g_cast10, g_cast11, g_cast12, g_cast13, lk, List.set_cons_zero, List.set_cons_succ, Bool.not_true, Bool.not_false, decide_true, decide_false, Int.reduceEq, Int.reduceLT, Int.reduceLE, Int.reduceSub, Int.reduceAdd, Int.reduceNeg, Int.reduceToNat, Int.reduceNe, Nat.reduceAdd, Nat.reduceLT, Nat.reduceLeDiff, eq_self, if_true, if_false, str_eq, String.reduceEq, isTy, String.reduceBEq, Bool.true_or, Bool.false_or, Bool.or_true, Bool.or_false, Bool.and_true, Bool.true_and, Bool.and_false, Bool.false_and, fIsi, fIsi2, kindOf, List.set_set, List.length_cons, List.length_nil, wipeE, beq_self_eq_true]
    exact ⟨.place (d2 - 9) (d5 - 9), k5, rfl, ⟨⟨by omega, by omega⟩, by omega, by omega⟩, by omega⟩
  · simp (config := { implicitDefEqProofs := false }) only [ixT0, g_bind_ok, g_bind_err, g_toS_ok, g_toS_err, g_var, g_c, g_op, g_op1, g_1, g_B, g_unB, g_test, g_and, g_or, g_not, g_kand_t, g_kand_f, g_kor_t, g_kor_f, g_knot, g_andV, g_orV, g_kandV_t, g_kandV_f, g_korV_t, g_korV_f, g_notV, g_kNotV, g_kNV, g_orT, g_kOrT, g_kOrT_t, g_kOrT_f, g_tru_bl, g_chain, g_ch1, g_ch2, g_ch3_t, g_ch3_f, g_if, g_kif_t, g_kif_f, g_nil, g_cons, g_cons1, g_cons2, g_lst, g_tup, g_allD_nil, g_allD_cons, kTup0, kTup1, kTup2, kTup3, kTup4, kLst0, kLst1, kLst2, kLst3, g_newF, g_newT, g_call, g_sl, g_sl0, g_sl1, g_sl2, g_noP, g_part, g_kPart, g_frz, g_app, g_seq, g_seq_next, g_seq_ret, g_seq_err, g_seq_brk, g_seq_cnt, g_skip, g_ret, g_kRet, g_drop, g_kDrop, g_ifS, g_kIfS_t, g_kIfS_f, g_asg, g_kAsg, g_kAsg2, g_kAsg3, g_for, g_kFor, g_lc, g_seqI, g_itemsL, g_itemsT, g_rng1, g_revR1, g_enum, g_kEnum, g_wipe, g_wipe_next, g_wipe_ret, g_wipe_err, g_addI, g_subI, g_ltI, g_leI, g_gtI, g_geI, g_eqI, g_neI, g_eqS, g_neS, g_eqB, g_neB, g_neg, g_intI, g_intB, g_lenT, g_lenL, g_isN, g_yes, g_truL, g_truI, g_isNon_tup, g_isNon_non, g_slT, g_slL, g_slS, g_listL, g_listT, g_tupleL, g_raise, g_raiseA, g_kRaise1, g_kRaise2, g_setF, g_kSetF, g_make, g_meth, g_kMeth2, g_fld, g_kFldD, g_tryA, g_tryA_next, g_tryA_ret, g_cast0, g_cast1, g_cast2, g_cast3, g_cast4, g_cast5, g_cast6, g_cast7, g_cast8, g_cast9, g_cast10, g_cast11, g_cast12, g_cast13, lk, List.set_cons_zero, List.set_cons_succ, Bool.not_true, Bool.not_false, decide_true, decide_false, Int.reduceEq, Int.reduceLT, Int.reduceLE, Int.reduceSub, Int.reduceAdd, Int.reduceNeg, Int.reduceToNat, Int.reduceNe, Nat.reduceAdd, Nat.reduceLT, Nat.reduceLeDiff, eq_self, if_true, if_false, str_eq, String.reduceEq, isTy, String.reduceBEq, Bool.true_or, Bool.false_or, Bool.or_true, Bool.or_false, Bool.and_true, Bool.true_and, Bool.and_false, Bool.false_and, fIsi, fIsi2, kindOf, List.set_set, List.length_cons, List.length_nil, wipeE, beq_self_eq_true]
    exact ⟨.mirror, k1, rfl, trivial, l1⟩
  · simp (config := { implicitDefEqProofs := false }) only [ixT1, g_bind_ok, g_bind_err, g_toS_ok, g_toS_err, g_var, g_c, g_op, g_op1, g_1, g_B, g_unB, g_test, g_and, g_or, g_not, g_kand_t, g_kand_f, g_kor_t, g_kor_f, g_knot, g_andV, g_orV, g_kandV_t, g_kandV_f, g_korV_t, g_korV_f, g_notV, g_kNotV, g_kNV, g_orT, g_kOrT, g_kOrT_t, g_kOrT_f, g_tru_bl, g_chain, g_ch1, g_ch2, g_ch3_t, g_ch3_f, g_if, g_kif_t, g_kif_f, g_nil, g_cons, g_cons1, g_cons2, g_lst, g_tup, g_allD_nil, g_allD_cons, kTup0, kTup1, kTup2, kTup3, kTup4, kLst0, kLst1, kLst2, kLst3, g_newF, g_newT, g_call, g_sl, g_sl0, g_sl1, g_sl2, g_noP, g_part, g_kPart, g_frz, g_app, g_seq, g_seq_next, g_seq_ret, g_seq_err, g_seq_brk, g_seq_cnt, g_skip, g_ret, g_kRet, g_drop, g_kDrop, g_ifS, g_kIfS_t, g_kIfS_f, g_asg, g_kAsg, g_kAsg2, g_kAsg3, g_for, g_kFor, g_lc, g_seqI, g_itemsL, g_itemsT, g_rng1, g_revR1, g_enum, g_kEnum, g_wipe, g_wipe_next, g_wipe_ret, g_wipe_err, g_addI, g_subI, g_ltI, g_leI, g_gtI, g_geI, g_eqI, g_neI, g_eqS, g_neS, g_eqB, g_neB, g_neg, g_intI, g_intB, g_lenT, g_lenL, g_isN, g_yes, g_truL, g_truI, g_isNon_tup, g_isNon_non, g_slT, g_slL, g_slS, g_listL, g_listT, g_tupleL, g_raise, g_raiseA, g_kRaise1, g_kRaise2, g_setF, g_kSetF, g_make, g_meth, g_kMeth2, g_fld, g_kFldD, g_tryA, g_tryA_next, g_tryA_ret, g_cast0, g_cast1, g_cast2, g_cast3, g_cast4, g_cast5, g_cast6, g_cast7, g_cast8, g_cast9, g_cast10, g_cast11, g_cast12, g_cast13, lk, List.set_cons_zero, List.set_cons_succ, Bool.not_true, Bool.not_false, decide_true, decide_false, Int.reduceEq, Int.reduceLT, Int.reduceLE, Int.reduceSub, Int.reduceAdd, Int.reduceNeg, Int.reduceToNat, Int.reduceNe, Nat.reduceAdd, Nat.reduceLT, Nat.reduceLeDiff, eq_self, if_true, if_false, str_eq, String.reduceEq, isTy, String.reduceBEq, Bool.true_or, Bool.false_or, Bool.or_true, Bool.or_false, Bool.and_true, Bool.true_and, Bool.and_false, Bool.false_and, fIsi, fIsi2, kindOf, List.set_set, List.length_cons, List.length_nil, wipeE, beq_self_eq_true]
    exact ⟨.mark, k1, rfl, trivial, l1⟩
  · simp (config := { implicitDefEqProofs := false }) only [ixT2, g_bind_ok, g_bind_err, g_toS_ok, g_toS_err, g_var, g_c, g_op, g_op1, g_1, g_B, g_unB, g_test, g_and, g_or, g_not, g_kand_t, g_kand_f, g_kor_t, g_kor_f, g_knot, g_andV, g_orV, g_kandV_t, g_kandV_f, g_korV_t, g_korV_f, g_notV, g_kNotV, g_kNV, g_orT, g_kOrT, g_kOrT_t, g_kOrT_f, g_tru_bl, g_chain, g_ch1, g_ch2, g_ch3_t, g_ch3_f, g_if, g_kif_t, g_kif_f, g_nil, g_cons, g_cons1, g_cons2, g_lst, g_tup, g_allD_nil, g_allD_cons, kTup0, kTup1, kTup2, kTup3, kTup4, kLst0, kLst1, kLst2, kLst3, g_newF, g_newT, g_call, g_sl, g_sl0, g_sl1, g_sl2, g_noP, g_part, g_kPart, g_frz, g_app, g_seq, g_seq_next, g_seq_ret, g_seq_err, g_seq_brk, g_seq_cnt, g_skip, g_ret, g_kRet, g_drop, g_kDrop, g_ifS, g_kIfS_t, g_kIfS_f, g_asg, g_kAsg, g_kAsg2, g_kAsg3, g_for, g_kFor, g_lc, g_seqI, g_itemsL, g_itemsT, g_rng1, g_revR1, g_enum, g_kEnum, g_wipe, g_wipe_next, g_wipe_ret, g_wipe_err, g_addI, g_subI, g_ltI, g_leI, g_gtI, g_geI, g_eqI, g_neI, g_eqS, g_neS, g_eqB, g_neB, g_neg, g_intI, g_intB, g_lenT, g_lenL, g_isN, g_yes, g_truL, g_truI, g_isNon_tup, g_isNon_non, g_slT, g_slL, g_slS, g_listL, g_listT, g_tupleL, g_raise, g_raiseA, g_kRaise1, g_kRaise2, g_setF, g_kSetF, g_make, g_meth, g_kMeth2, g_fld, g_kFldD, g_tryA, g_tryA_next, g_tryA_ret, g_cast0, g_cast1, g_cast2, g_cast3, g_cast4, g_cast5, g_cast6, g_cast7, g_cast8, g_cast9, g_cast10, g_cast11, g_cast12, g_cast13, lk, List.set_cons_zero, List.set_cons_succ, Bool.not_true, Bool.not_false, decide_true, decide_false, Int.reduceEq, Int.reduceLT, Int.reduceLE, Int.reduceSub, Int.reduceAdd, Int.reduceNeg, Int.reduceToNat, Int.reduceNe, Nat.reduceAdd, Nat.reduceLT, Nat.reduceLeDiff, eq_self, if_true, if_false, str_eq, String.reduceEq, isTy, String.reduceBEq, Bool.true_or, Bool.false_or, Bool.or_true, Bool.or_false, Bool.and_true, Bool.true_and, Bool.and_false, Bool.false_and, fIsi, fIsi2, kindOf, List.set_set, List.length_cons, List.length_nil, wipeE, beq_self_eq_true]
    exact ⟨.ret, k1, rfl, trivial, l1⟩
  · simp (config := { implicitDefEqProofs := false }) only [ixT3, g_bind_ok, g_bind_err, g_toS_ok, g_toS_err, g_var, g_c, g_op, g_op1, g_1, g_B, g_unB, g_test, g_and, g_or, g_not, g_kand_t, g_kand_f, g_kor_t, g_kor_f, g_knot, g_andV, g_orV, g_kandV_t, g_kandV_f, g_korV_t, g_korV_f, g_notV, g_kNotV, g_kNV, g_orT, g_kOrT, g_kOrT_t, g_kOrT_f, g_tru_bl, g_chain, g_ch1, g_ch2, g_ch3_t, g_ch3_f, g_if, g_kif_t, g_kif_f, g_nil, g_cons, g_cons1, g_cons2, g_lst, g_tup, g_allD_nil, g_allD_cons, kTup0, kTup1, kTup2, kTup3, kTup4, kLst0, kLst1, kLst2, kLst3, g_newF, g_newT, g_call, g_sl, g_sl0, g_sl1, g_sl2, g_noP, g_part, g_kPart, g_frz, g_app, g_seq, g_seq_next, g_seq_ret, g_seq_err, g_seq_brk, g_seq_cnt, g_skip, g_ret, g_kRet, g_drop, g_kDrop, g_ifS, g_kIfS_t, g_kIfS_f, g_asg, g_kAsg, g_kAsg2, g_kAsg3, g_for, g_kFor, g_lc, g_seqI, g_itemsL, g_itemsT, g_rng1, g_revR1, g_enum, g_kEnum, g_wipe, g_wipe_next, g_wipe_ret, g_wipe_err, g_addI, g_subI, g_ltI, g_leI, g_gtI, g_geI, g_eqI, g_neI, g_eqS, g_neS, g_eqB, g_neB, g_neg, g_intI, g_intB, g_lenT, g_lenL, g_isN, g_yes, g_truL, g_truI, g_isNon_tup, g_isNon_non, g_slT, g_slL, g_slS, g_listL, g_listT, g_tupleL, g_raise, g_raiseA, g_kRaise1, g_kRaise2, g_setF, g_kSetF, g_make, g_meth, g_kMeth2, g_fld, g_kFldD, g_tryA, g_tryA_next, g_tryA_ret, g_cast0, g_cast1, g_cast2, g_cast3, g_cast4, g_cast5, g_cast6, g_cast7, g_cast8, g_cast9, g_cast10, g_cast11, g_cast12, g_cast13, lk, List.set_cons_zero, List.set_cons_succ, Bool.not_true, Bool.not_false, decide_true, decide_false, Int.reduceEq, Int.reduceLT, Int.reduceLE, Int.reduceSub, Int.reduceAdd, Int.reduceNeg, Int.reduceToNat, Int.reduceNe, Nat.reduceAdd, Nat.reduceLT, Nat.reduceLeDiff, eq_self, if_true, if_false, str_eq, String.reduceEq, isTy, String.reduceBEq, Bool.true_or, Bool.false_or, Bool.or_true, Bool.or_false, Bool.and_true, Bool.true_and, Bool.and_false, Bool.false_and, fIsi, fIsi2, kindOf, List.set_set, List.length_cons, List.length_nil, wipeE, beq_self_eq_true]
    exact ⟨.exch, k1, rfl, trivial, l1⟩
end PH

namespace PH
open PySem PySem.Spec PyProof.Rows L2
def upd2 (S : Sto) (p q : Nat) (ks rs : List Int) : Sto := (S.set p (PL ks)).set q (PL rs)
/-- they may stand there -/
structure Two (S : Sto) (p q n : Nat) : Prop where
  hp : p < S.length
  hq : q < S.length
  ne : p ≠ q
  hn : 2 ≤ n
theorem u2_len {S : Sto} {p q : Nat} {ks rs : List Int} : (upd2 S p q ks rs).length = S.length := by simp [upd2]
theorem u2_p {S : Sto} {p q n : Nat} {ks rs : List Int} (t : Two S p q n) : (upd2 S p q ks rs)[p]? = some (PL ks) := by
  unfold upd2
  rw [List.getElem?_set, if_neg (Ne.symm t.ne), List.getElem?_set, if_pos rfl, if_pos t.hp]
theorem u2_q {S : Sto} {p q n : Nat} {ks rs : List Int} (t : Two S p q n) : (upd2 S p q ks rs)[q]? = some (PL rs) := by
  unfold upd2
  rw [List.getElem?_set, if_pos rfl, if_pos (by simpa using t.hq)]
theorem u2_setp {S : Sto} {p q n : Nat} {ks ks' rs : List Int} (t : Two S p q n) : (upd2 S p q ks rs).set p (PL ks') = upd2 S p q ks' rs := by
  unfold upd2
  rw [List.set_comm _ _ (Ne.symm t.ne), List.set_set]
theorem u2_setq {S : Sto} {p q n : Nat} {ks rs rs' : List Int} (t : Two S p q n) : (upd2 S p q ks rs).set q (PL rs') = upd2 S p q ks rs' := by
  unfold upd2
  rw [List.set_set]
theorem u2_u2 {S : Sto} {p q n : Nat} {ks ks' rs rs' : List Int} (t : Two S p q n) : upd2 (upd2 S p q ks rs) p q ks' rs' = upd2 S p q ks' rs' := by
  show ((upd2 S p q ks rs).set p (PL ks')).set q (PL rs') = _
  rw [u2_setp t, u2_setq t]
theorem u2_app {S : Sto} {p q n : Nat} {ks rs : List Int} {c : Cell} (t : Two S p q n) : upd2 (S ++ [c]) p q ks rs = upd2 S p q ks rs ++ [c] := by
  unfold upd2
  rw [List.set_append_left _ _ t.hp, List.set_append_left _ _ (by simpa using t.hq)]
theorem u2_self {S : Sto} {p q : Nat} {ks rs : List Int} (h1 : S[p]? = some (PL ks)) (h2 : S[q]? = some (PL rs)) : upd2 S p q ks rs = S := by
  unfold upd2
  have e1 : S.set p (PL ks) = S := by
    apply List.ext_getElem?
    intro i
    rw [List.getElem?_set]
    by_cases e : p = i
    · subst e; rw [if_pos rfl, if_pos (List.getElem?_eq_some_iff.mp h1).1, h1]
    · rw [if_neg e]
  rw [e1]
  apply List.ext_getElem?
  intro i
  rw [List.getElem?_set]
  by_cases e : q = i
  · subst e; rw [if_pos rfl, if_pos (List.getElem?_eq_some_iff.mp h2).1, h2]
  · rw [if_neg e]
theorem Two.app {S : Sto} {p q n : Nat} {c : Cell} (t : Two S p q n) : Two (S ++ [c]) p q n := ⟨by have := t.hp; simp; omega, by have := t.hq; simp; omega, t.ne, t.hn⟩
theorem Two.u2 {S : Sto} {p q n : Nat} {ks rs : List Int} (t : Two S p q n) : Two (upd2 S p q ks rs) p q n := ⟨by rw [u2_len]; exact t.hp, by rw [u2_len]; exact t.hq, t.ne, t.hn⟩
theorem draw2 {S : Sto} {p q n : Nat} {ks rs : List Int} {k : Int} (t : Two S p q n) (hl : ks.length = n) (h0 : 0 < k) (h1 : k < 1073741824) : ∃ (d : Int) (ks' : List Int), m_L_draw [.cel p, .dat (.int k)] (upd2 S p q ks rs) = .ok (.dat (.int d)) (upd2 S p q ks' rs) ∧ 0 ≤ d ∧ d < k ∧ ks'.length = n := by
  obtain ⟨d, ks', e, h2, h3, l⟩ := draw_ok (S := upd2 S p q ks rs) (p := p) (ks := ks) ⟨u2_p t, by rw [hl]; exact t.hn⟩ h0 h1
  exact ⟨d, ks', by rw [e, u2_setp t], h2, h3, by omega⟩
theorem any_cmd2 {S : Sto} {p q n : Nat} {ks rs : List Int} (t : Two S p q n) (hl : ks.length = n) : ∃ (c : Cmd) (ks' : List Int), m_L_any_command [.cel p] (upd2 S p q ks rs) = .ok (.dat c.d) (upd2 S p q ks' rs) ∧ c.Ok ∧ ks'.length = n := by
  obtain ⟨d, ks', e, h2, l⟩ := any_cmd_ok (S := upd2 S p q ks rs) (p := p) (ks := ks) ⟨u2_p t, by rw [hl]; exact t.hn⟩
  exact ⟨d, ks', by rw [e, u2_setp t], h2, by omega⟩
inductive Stt where
  | cmd (c : Cmd) | fin (w : Int) | keep (b : List Stt) | again (b : List Stt) | either (a b : List Stt) | call (g : Int) (s : Bool) (a b : List Stt) | bad
mutual
def Stt.d : Stt → D
  | .cmd c => c.d
  | .fin w => .tup [.str "end", .int w]
  | .keep b => .tup [.str "keep", .lst (dsOf b)]
  | .again b => .tup [.str "again", .lst (dsOf b)]
  | .either a b => .tup [.str "either", .lst (dsOf a), .lst (dsOf b)]
  | .call g s a b => .tup [.str "call", .int g, .bl s, .lst [.lst (dsOf a), .lst (dsOf b)]]
  | .bad => .tup [.str "bad"]
def dsOf : List Stt → List D
  | [] => []
  | s :: r => s.d :: dsOf r
end
mutual
/-- of a depth of n at most; calls of the first many -/
def Stt.Ok (many : Int) : Stt → Nat → Prop
  | .cmd c, _ => c.Ok
  | .fin w, _ => 0 ≤ w ∧ w ≤ 1
  | .keep b, n => 0 < n ∧ OkL many b (n - 1)
  | .again b, n => 0 < n ∧ OkL many b (n - 1)
  | .either a b, n => 0 < n ∧ OkL many a (n - 1) ∧ OkL many b (n - 1)
  | .call g _ a b, n => (0 < n ∧ 0 ≤ g ∧ g < many) ∧ OkL many a (n - 1) ∧ OkL many b (n - 1)
  | .bad, _ => True
def OkL (many : Int) : List Stt → Nat → Prop
  | [], _ => True
  | s :: r, n => (s.Ok many n ∧ r.length < 10) ∧ OkL many r n
end
theorem dsOf_len : ∀ l : List Stt, (dsOf l).length = l.length
  | [] => rfl
  | s :: r => by simp [dsOf, dsOf_len r]
theorem dsOf_app : ∀ l m : List Stt, dsOf (l ++ m) = dsOf l ++ dsOf m
  | [], m => rfl
  | s :: r, m => by simp [dsOf, dsOf_app r m]
theorem OkL.len {many : Int} : ∀ {l : List Stt} {n : Nat}, OkL many l n → l.length ≤ 10
  | [], _, _ => by simp
  | s :: r, n, h => by have := h.1.2; simp; omega
theorem OkL.snoc {many : Int} {s : Stt} : ∀ {l : List Stt} {n : Nat}, OkL many l n → s.Ok many n → l.length < 10 → OkL many (l ++ [s]) n
  | [], n, _, h, _ => ⟨⟨h, by simp⟩, trivial⟩
  | x :: r, n, ⟨h1, h2⟩, h, hl => ⟨⟨h1.1, by simp at hl ⊢; omega⟩, OkL.snoc h2 h (by simp at hl; omega)⟩
def LS (S : Sto) : Prop := ∀ c ∈ S, ∀ n, c.below n = true
theorem LS.app {S : Sto} {ds : List D} (h : LS S) : LS (S ++ [.lst ds]) := fun c hc n => by
  rcases List.mem_append.mp hc with hc | hc
  · exact h c hc n
  · rw [List.mem_singleton.mp hc]; rfl
theorem LS.set {S : Sto} {ds : List D} {k : Nat} (h : LS S) : LS (S.set k (.lst ds)) := fun c hc n => by
  rcases List.mem_or_eq_of_mem_set hc with hc | hc
  · exact h c hc n
  · rw [hc]; rfl
theorem LS.u2 {S : Sto} {p q : Nat} {ks rs : List Int} (h : LS S) : LS (upd2 S p q ks rs) := h.set.set
theorem LS.take {S : Sto} {n m : Nat} (h : LS S) : ((S.take n).all fun c => c.below m) = true := List.all_eq_true.mpr fun c hc => h c (List.mem_of_mem_take hc) m
/-- a result within a def whose cells go -/
theorem trunc_ok {T : Sto} {n : Nat} {c : Cell} {d : D} (h : LS T) (hn : n = T.length) : trunc n (.ok (.dat d) (T ++ [c])) = .ok (.dat d) T := by
  have e : (T ++ [c]).take n = T := by rw [hn]; simp
  dsimp only [trunc]
  rw [e]
  have := h.take (n := T.length) (m := n)
  rw [List.take_length] at this
  simp [Vl.below, this]
/-- the room in a test -/
theorem ix_q {S : Sto} {p q n : Nat} {ks : List Int} {r : Int} (t : Two S p q n) : fIx (.cel q) (.dat (.int 0)) (upd2 S p q ks [r]) = .ok (.dat (.int r)) (upd2 S p q ks [r]) := ixC_int (k := 0) (n := 0) (u2_q t) rfl rfl
theorem aug_q {S : Sto} {p q n : Nat} {ks : List Int} {r w : Int} {g : Int → Int → Int} {o i e : FE} {ρ : Ev} (t : Two S p q n) (ho : o ρ (upd2 S p q ks [r]) = .ok (.cel q) (upd2 S p q ks [r])) (hi : i ρ (upd2 S p q ks [r]) = .ok (.dat (.int 0)) (upd2 S p q ks [r])) (he : e ρ (upd2 S p q ks [r]) = .ok (.dat (.int w)) (upd2 S p q ks [r])) : mAugI g o i e ρ (upd2 S p q ks [r]) = .next ρ (upd2 S p q ks [g r w]) := by
  rw [augI_int (k := 0) (n := 0) ho hi he (u2_q t) rfl rfl]
  rw [show ([r].set 0 (g r w)) = [g r w] from rfl, u2_setq t]
end PH

namespace PH
open PySem PySem.Spec PyProof.Rows L2
/-- what a list of things is drawn as -/
def ListOk (n : Nat) : Prop := ∀ {S : Sto} {p q N : Nat} {ks : List Int} {r lv many bad : Int}, Two S p q N → LS S → ks.length = N → 0 ≤ lv → lv ≤ 5 → 1 ≤ many → many ≤ 3 → 1 ≤ bad → bad ≤ 6 → 2 * (5 - lv.toNat) + 2 ≤ n →
  ∃ (l : List Stt) (ks' : List Int) (r' : Int), m_L_faulty_list n [.cel p, .dat (.int lv), .cel q, .dat (.int many), .dat (.int bad)] (upd2 S p q ks [r]) = .ok (.dat (.lst (dsOf l))) (upd2 S p q ks' [r']) ∧ OkL many l (5 - lv.toNat) ∧ ks'.length = N
def ThingOk (n : Nat) : Prop := ∀ {S : Sto} {p q N : Nat} {ks : List Int} {r lv many bad : Int}, Two S p q N → LS S → ks.length = N → 0 ≤ lv → lv ≤ 5 → 1 ≤ many → many ≤ 3 → 1 ≤ bad → bad ≤ 6 → 2 * (5 - lv.toNat) + 1 ≤ n →
  ∃ (s : Stt) (ks' : List Int) (r' : Int), m_L_faulty_thing n [.cel p, .dat (.int lv), .cel q, .dat (.int many), .dat (.int bad)] (upd2 S p q ks [r]) = .ok (.dat s.d) (upd2 S p q ks' [r']) ∧ s.Ok many (5 - lv.toNat) ∧ ks'.length = N
theorem thing_of {n : Nat} (ih : ListOk n) : ThingOk (n + 1) := by
  intro S p q N ks r lv many bad t ls hl h0 h5 m1 m3 b1 b6 hn
  have eE : m_L_faulty_thing (n + 1) [.cel p, .dat (.int lv), .cel q, .dat (.int many), .dat (.int bad)] (upd2 S p q ks [r]) = ofOut (b_L_faulty_thing (m_L_faulty_list n) [some (.cel p), some (.dat (.int lv)), some (.cel q), some (.dat (.int many)), some (.dat (.int bad)), none, none] (upd2 S p q ks [r])) := rfl
  rw [eE]
  unfold b_L_faulty_thing
  obtain ⟨d, k1, e1, d0, d9, l1⟩ := draw2 (rs := [r - 1]) t hl (k := 9) (by decide) (by decide)
  have ea : mAugI (fun x y => x - y) (mVar 2) (mC (.int 0)) (mC (.int 1)) [some (.cel p), some (.dat (.int lv)), some (.cel q), some (.dat (.int many)), some (.dat (.int bad)), none, none] (upd2 S p q ks [r]) = .next [some (.cel p), some (.dat (.int lv)), some (.cel q), some (.dat (.int many)), some (.dat (.int bad)), none, none] (upd2 S p q ks [r - 1]) := aug_q t rfl rfl rfl
  simp (config := { implicitDefEqProofs := false }) only [ea, e1, g_bind_ok, g_bind_err, g_toS_ok, g_toS_err, g_var, g_c, g_op, g_op1, g_1, g_B, g_unB, g_test, g_and, g_or, g_not, g_kand_t, g_kand_f, g_kor_t, g_kor_f, g_knot, g_andV, g_orV, g_kandV_t, g_kandV_f, g_korV_t, g_korV_f, g_notV, g_kNotV, g_kNV, g_orT, g_kOrT, g_kOrT_t, g_kOrT_f, g_tru_bl, g_chain, g_ch1, g_ch2, g_ch3_t, g_ch3_f, g_if, g_kif_t, g_kif_f, g_nil, g_cons, g_cons1, g_cons2, g_lst, g_tup, g_allD_nil, g_allD_cons, kTup0, kTup1, kTup2, kTup3, kTup4, kLst0, kLst1, kLst2, kLst3, g_newF, g_newT, g_call, g_sl, g_sl0, g_sl1, g_sl2, g_noP, g_part, g_kPart, g_frz, g_app, g_seq, g_seq_next, g_seq_ret, g_seq_err, g_seq_brk, g_seq_cnt, g_skip, g_ret, g_kRet, g_drop, g_kDrop, g_ifS, g_kIfS_t, g_kIfS_f, g_asg, g_kAsg, g_kAsg2, g_kAsg3, g_for, g_kFor, g_lc, g_seqI, g_itemsL, g_itemsT, g_rng1, g_revR1, g_enum, g_kEnum, g_wipe, g_wipe_next, g_wipe_ret, g_wipe_err, g_addI, g_subI, g_ltI, g_leI, g_gtI, g_geI, g_eqI, g_neI, g_eqS, g_neS, g_eqB, g_neB, g_neg, g_intI, g_intB, g_lenT, g_lenL, g_isN, g_yes, g_truL, g_truI, g_isNon_tup, g_isNon_non, g_slT, g_slL, g_slS, g_listL, g_listT, g_tupleL, g_raise, g_raiseA, g_kRaise1, g_kRaise2, g_setF, g_kSetF, g_make, g_meth, g_kMeth2, g_fld, g_kFldD, g_tryA, g_tryA_next, g_tryA_ret, g_cast0, g_cast1, g_cast2, g_cast3, g_cast4, g_cast5, g_cast6, g_cast7, g_cast8, g_cast9, g_cast10, g_cast11, g_cast12, g_cast13, lk, List.set_cons_zero, List.set_cons_succ, Bool.not_true, Bool.not_false, decide_true, decide_false, Int.reduceEq, Int.reduceLT, Int.reduceLE, Int.reduceSub, Int.reduceAdd, Int.reduceNeg, Int.reduceToNat, Int.reduceNe, Nat.reduceAdd, Nat.reduceLT, Nat.reduceLeDiff, eq_self, if_true, if_false, str_eq, String.reduceEq, isTy, String.reduceBEq, Bool.true_or, Bool.false_or, Bool.or_true, Bool.or_false, Bool.and_true, Bool.true_and, Bool.and_false, Bool.false_and, fIsi, fIsi2, kindOf, List.set_set, List.length_cons, List.length_nil, wipeE, beq_self_eq_true]
  -- what the rest does, by the kind
  obtain ⟨c, k2, e2, c2, l2⟩ := any_cmd2 (rs := [r - 1]) t l1
  obtain ⟨w, k3, e3, w0, w1, l3⟩ := draw2 (rs := [r - 1]) t l1 (k := 2) (by decide) (by decide)
  obtain ⟨g, k4, e4, g0, g1, l4⟩ := draw2 (rs := [r - 1]) t l1 (k := bad) (by omega) (by omega)
  obtain ⟨w', k5, e5, w0', w1', l5⟩ := draw2 (rs := [r - 1]) t l4 (k := 2) (by decide) (by decide)
  by_cases h4 : 4 < lv
  · -- no blocks here
    have el : lv = 5 := by omega
    subst el
    rcases (by omega : d < 3 ∨ (3 ≤ d ∧ d < 8) ∨ d = 8) with hd | hd | hd
    · simp (config := { implicitDefEqProofs := false }) only [show decide ((4 : Int) < 5) = true by decide, decide_eq_false (show ¬ (2 : Int) < d by omega), decide_eq_true hd, e2, g_bind_ok, g_bind_err, g_toS_ok, g_toS_err, g_var, g_c, g_op, g_op1, g_1, g_B, g_unB, g_test, g_and, g_or, g_not, g_kand_t, g_kand_f, g_kor_t, g_kor_f, g_knot, g_andV, g_orV, g_kandV_t, g_kandV_f, g_korV_t, g_korV_f, g_notV, g_kNotV, g_kNV, g_orT, g_kOrT, g_kOrT_t, g_kOrT_f, g_tru_bl, g_chain, g_ch1, g_ch2, g_ch3_t, g_ch3_f, g_if, g_kif_t, g_kif_f, g_nil, g_cons, g_cons1, g_cons2, g_lst, g_tup, g_allD_nil, g_allD_cons, kTup0, kTup1, kTup2, kTup3, kTup4, kLst0, kLst1, kLst2, kLst3, g_newF, g_newT, g_call, g_sl, g_sl0, g_sl1, g_sl2, g_noP, g_part, g_kPart, g_frz, g_app, g_seq, g_seq_next, g_seq_ret, g_seq_err, g_seq_brk, g_seq_cnt, g_skip, g_ret, g_kRet, g_drop, g_kDrop, g_ifS, g_kIfS_t, g_kIfS_f, g_asg, g_kAsg, g_kAsg2, g_kAsg3, g_for, g_kFor, g_lc, g_seqI, g_itemsL, g_itemsT, g_rng1, g_revR1, g_enum, g_kEnum, g_wipe, g_wipe_next, g_wipe_ret, g_wipe_err, g_addI, g_subI, g_ltI, g_leI, g_gtI, g_geI, g_eqI, g_neI, g_eqS, g_neS, g_eqB, g_neB, g_neg, g_intI, g_intB, g_lenT, g_lenL, g_isN, g_yes, g_truL, g_truI, g_isNon_tup, g_isNon_non, g_slT, g_slL, g_slS, g_listL, g_listT, g_tupleL, g_raise, g_raiseA, g_kRaise1, g_kRaise2, g_setF, g_kSetF, g_make, g_meth, g_kMeth2, g_fld, g_kFldD, g_tryA, g_tryA_next, g_tryA_ret, g_cast0, g_cast1, g_cast2, g_cast3, g_cast4, g_cast5, g_cast6, g_cast7, g_cast8, g_cast9, g_cast10, g_cast11, g_cast12, g_cast13, lk, List.set_cons_zero, List.set_cons_succ, Bool.not_true, Bool.not_false, decide_true, decide_false, Int.reduceEq, Int.reduceLT, Int.reduceLE, Int.reduceSub, Int.reduceAdd, Int.reduceNeg, Int.reduceToNat, Int.reduceNe, Nat.reduceAdd, Nat.reduceLT, Nat.reduceLeDiff, eq_self, if_true, if_false, str_eq, String.reduceEq, isTy, String.reduceBEq, Bool.true_or, Bool.false_or, Bool.or_true, Bool.or_false, Bool.and_true, Bool.true_and, Bool.and_false, Bool.false_and, fIsi, fIsi2, kindOf, List.set_set, List.length_cons, List.length_nil, wipeE, beq_self_eq_true]
      exact ⟨.cmd c, k2, r - 1, rfl, c2, l2⟩
    · simp (config := { implicitDefEqProofs := false }) only [show decide ((4 : Int) < 5) = true by decide, decide_eq_true (show (2 : Int) < d by omega), decide_eq_true hd.2, e2, g_bind_ok, g_bind_err, g_toS_ok, g_toS_err, g_var, g_c, g_op, g_op1, g_1, g_B, g_unB, g_test, g_and, g_or, g_not, g_kand_t, g_kand_f, g_kor_t, g_kor_f, g_knot, g_andV, g_orV, g_kandV_t, g_kandV_f, g_korV_t, g_korV_f, g_notV, g_kNotV, g_kNV, g_orT, g_kOrT, g_kOrT_t, g_kOrT_f, g_tru_bl, g_chain, g_ch1, g_ch2, g_ch3_t, g_ch3_f, g_if, g_kif_t, g_kif_f, g_nil, g_cons, g_cons1, g_cons2, g_lst, g_tup, g_allD_nil, g_allD_cons, kTup0, kTup1, kTup2, kTup3, kTup4, kLst0, kLst1, kLst2, kLst3, g_newF, g_newT, g_call, g_sl, g_sl0, g_sl1, g_sl2, g_noP, g_part, g_kPart, g_frz, g_app, g_seq, g_seq_next, g_seq_ret, g_seq_err, g_seq_brk, g_seq_cnt, g_skip, g_ret, g_kRet, g_drop, g_kDrop, g_ifS, g_kIfS_t, g_kIfS_f, g_asg, g_kAsg, g_kAsg2, g_kAsg3, g_for, g_kFor, g_lc, g_seqI, g_itemsL, g_itemsT, g_rng1, g_revR1, g_enum, g_kEnum, g_wipe, g_wipe_next, g_wipe_ret, g_wipe_err, g_addI, g_subI, g_ltI, g_leI, g_gtI, g_geI, g_eqI, g_neI, g_eqS, g_neS, g_eqB, g_neB, g_neg, g_intI, g_intB, g_lenT, g_lenL, g_isN, g_yes, g_truL, g_truI, g_isNon_tup, g_isNon_non, g_slT, g_slL, g_slS, g_listL, g_listT, g_tupleL, g_raise, g_raiseA, g_kRaise1, g_kRaise2, g_setF, g_kSetF, g_make, g_meth, g_kMeth2, g_fld, g_kFldD, g_tryA, g_tryA_next, g_tryA_ret, g_cast0, g_cast1, g_cast2, g_cast3, g_cast4, g_cast5, g_cast6, g_cast7, g_cast8, g_cast9, g_cast10, g_cast11, g_cast12, g_cast13, lk, List.set_cons_zero, List.set_cons_succ, Bool.not_true, Bool.not_false, decide_true, decide_false, Int.reduceEq, Int.reduceLT, Int.reduceLE, Int.reduceSub, Int.reduceAdd, Int.reduceNeg, Int.reduceToNat, Int.reduceNe, Nat.reduceAdd, Nat.reduceLT, Nat.reduceLeDiff, eq_self, if_true, if_false, str_eq, String.reduceEq, isTy, String.reduceBEq, Bool.true_or, Bool.false_or, Bool.or_true, Bool.or_false, Bool.and_true, Bool.true_and, Bool.and_false, Bool.false_and, fIsi, fIsi2, kindOf, List.set_set, List.length_cons, List.length_nil, wipeE, beq_self_eq_true]
      exact ⟨.cmd c, k2, r - 1, rfl, c2, l2⟩
    · subst hd
      simp (config := { implicitDefEqProofs := false }) only [e3, g_bind_ok, g_bind_err, g_toS_ok, g_toS_err, g_var, g_c, g_op, g_op1, g_1, g_B, g_unB, g_test, g_and, g_or, g_not, g_kand_t, g_kand_f, g_kor_t, g_kor_f, g_knot, g_andV, g_orV, g_kandV_t, g_kandV_f, g_korV_t, g_korV_f, g_notV, g_kNotV, g_kNV, g_orT, g_kOrT, g_kOrT_t, g_kOrT_f, g_tru_bl, g_chain, g_ch1, g_ch2, g_ch3_t, g_ch3_f, g_if, g_kif_t, g_kif_f, g_nil, g_cons, g_cons1, g_cons2, g_lst, g_tup, g_allD_nil, g_allD_cons, kTup0, kTup1, kTup2, kTup3, kTup4, kLst0, kLst1, kLst2, kLst3, g_newF, g_newT, g_call, g_sl, g_sl0, g_sl1, g_sl2, g_noP, g_part, g_kPart, g_frz, g_app, g_seq, g_seq_next, g_seq_ret, g_seq_err, g_seq_brk, g_seq_cnt, g_skip, g_ret, g_kRet, g_drop, g_kDrop, g_ifS, g_kIfS_t, g_kIfS_f, g_asg, g_kAsg, g_kAsg2, g_kAsg3, g_for, g_kFor, g_lc, g_seqI, g_itemsL, g_itemsT, g_rng1, g_revR1, g_enum, g_kEnum, g_wipe, g_wipe_next, g_wipe_ret, g_wipe_err, g_addI, g_subI, g_ltI, g_leI, g_gtI, g_geI, g_eqI, g_neI, g_eqS, g_neS, g_eqB, g_neB, g_neg, g_intI, g_intB, g_lenT, g_lenL, g_isN, g_yes, g_truL, g_truI, g_isNon_tup, g_isNon_non, g_slT, g_slL, g_slS, g_listL, g_listT, g_tupleL, g_raise, g_raiseA, g_kRaise1, g_kRaise2, g_setF, g_kSetF, g_make, g_meth, g_kMeth2, g_fld, g_kFldD, g_tryA, g_tryA_next, g_tryA_ret, g_cast0, g_cast1, g_cast2, g_cast3, g_cast4, g_cast5, g_cast6, g_cast7, g_cast8, g_cast9, g_cast10, g_cast11, g_cast12, g_cast13, lk, List.set_cons_zero, List.set_cons_succ, Bool.not_true, Bool.not_false, decide_true, decide_false, Int.reduceEq, Int.reduceLT, Int.reduceLE, Int.reduceSub, Int.reduceAdd, Int.reduceNeg, Int.reduceToNat, Int.reduceNe, Nat.reduceAdd, Nat.reduceLT, Nat.reduceLeDiff, eq_self, if_true, if_false, str_eq, String.reduceEq, isTy, String.reduceBEq, Bool.true_or, Bool.false_or, Bool.or_true, Bool.or_false, Bool.and_true, Bool.true_and, Bool.and_false, Bool.false_and, fIsi, fIsi2, kindOf, List.set_set, List.length_cons, List.length_nil, wipeE, beq_self_eq_true]
      exact ⟨.fin w, k3, r - 1, rfl, ⟨w0, by omega⟩, l3⟩
  · have e54 : 5 - (lv + 1).toNat = 5 - lv.toNat - 1 := by omega
    have pos : 0 < 5 - lv.toNat := by omega
    obtain ⟨a, k6, r6, e6, a6, l6⟩ := ih (r := r - 1) (lv := lv + 1) (many := many) (bad := bad) t ls l1 (by omega) (by omega) m1 m3 b1 b6 (by omega)
    obtain ⟨b, k7, r7, e7, a7, l7⟩ := ih (r := r6) (lv := lv + 1) (many := many) (bad := bad) t ls l6 (by omega) (by omega) m1 m3 b1 b6 (by omega)
    obtain ⟨f, k8, e8, f0, f1, l8⟩ := draw2 (rs := [r6]) t l6 (k := many) (by omega) (by omega)
    obtain ⟨b', k9, r9, e9, a9, l9⟩ := ih (r := r6) (lv := lv + 1) (many := many) (bad := bad) t ls l8 (by omega) (by omega) m1 m3 b1 b6 (by omega)
    rw [e54] at a6 a7 a9
    rcases (by omega : d < 3 ∨ d = 3 ∨ d = 4 ∨ d = 5 ∨ d = 6 ∨ d = 7 ∨ d = 8) with hd | rfl | rfl | rfl | rfl | rfl | rfl
    · simp (config := { implicitDefEqProofs := false }) only [decide_eq_false h4, decide_eq_true hd, e2, g_bind_ok, g_bind_err, g_toS_ok, g_toS_err, g_var, g_c, g_op, g_op1, g_1, g_B, g_unB, g_test, g_and, g_or, g_not, g_kand_t, g_kand_f, g_kor_t, g_kor_f, g_knot, g_andV, g_orV, g_kandV_t, g_kandV_f, g_korV_t, g_korV_f, g_notV, g_kNotV, g_kNV, g_orT, g_kOrT, g_kOrT_t, g_kOrT_f, g_tru_bl, g_chain, g_ch1, g_ch2, g_ch3_t, g_ch3_f, g_if, g_kif_t, g_kif_f, g_nil, g_cons, g_cons1, g_cons2, g_lst, g_tup, g_allD_nil, g_allD_cons, kTup0, kTup1, kTup2, kTup3, kTup4, kLst0, kLst1, kLst2, kLst3, g_newF, g_newT, g_call, g_sl, g_sl0, g_sl1, g_sl2, g_noP, g_part, g_kPart, g_frz, g_app, g_seq, g_seq_next, g_seq_ret, g_seq_err, g_seq_brk, g_seq_cnt, g_skip, g_ret, g_kRet, g_drop, g_kDrop, g_ifS, g_kIfS_t, g_kIfS_f, g_asg, g_kAsg, g_kAsg2, g_kAsg3, g_for, g_kFor, g_lc, g_seqI, g_itemsL, g_itemsT, g_rng1, g_revR1, g_enum, g_kEnum, g_wipe, g_wipe_next, g_wipe_ret, g_wipe_err, g_addI, g_subI, g_ltI, g_leI, g_gtI, g_geI, g_eqI, g_neI, g_eqS, g_neS, g_eqB, g_neB, g_neg, g_intI, g_intB, g_lenT, g_lenL, g_isN, g_yes, g_truL, g_truI, g_isNon_tup, g_isNon_non, g_slT, g_slL, g_slS, g_listL, g_listT, g_tupleL, g_raise, g_raiseA, g_kRaise1, g_kRaise2, g_setF, g_kSetF, g_make, g_meth, g_kMeth2, g_fld, g_kFldD, g_tryA, g_tryA_next, g_tryA_ret, g_cast0, g_cast1, g_cast2, g_cast3, g_cast4, g_cast5, g_cast6, g_cast7, g_cast8, g_cast9, g_cast10, g_cast11, g_cast12, g_cast13, lk, List.set_cons_zero, List.set_cons_succ, Bool.not_true, Bool.not_false, decide_true, decide_false, Int.reduceEq, Int.reduceLT, Int.reduceLE, Int.reduceSub, Int.reduceAdd, Int.reduceNeg, Int.reduceToNat, Int.reduceNe, Nat.reduceAdd, Nat.reduceLT, Nat.reduceLeDiff, eq_self, if_true, if_false, str_eq, String.reduceEq, isTy, String.reduceBEq, Bool.true_or, Bool.false_or, Bool.or_true, Bool.or_false, Bool.and_true, Bool.true_and, Bool.and_false, Bool.false_and, fIsi, fIsi2, kindOf, List.set_set, List.length_cons, List.length_nil, wipeE, beq_self_eq_true]
      exact ⟨.cmd c, k2, r - 1, rfl, c2, l2⟩
    · simp (config := { implicitDefEqProofs := false }) only [decide_eq_false h4, e6, g_bind_ok, g_bind_err, g_toS_ok, g_toS_err, g_var, g_c, g_op, g_op1, g_1, g_B, g_unB, g_test, g_and, g_or, g_not, g_kand_t, g_kand_f, g_kor_t, g_kor_f, g_knot, g_andV, g_orV, g_kandV_t, g_kandV_f, g_korV_t, g_korV_f, g_notV, g_kNotV, g_kNV, g_orT, g_kOrT, g_kOrT_t, g_kOrT_f, g_tru_bl, g_chain, g_ch1, g_ch2, g_ch3_t, g_ch3_f, g_if, g_kif_t, g_kif_f, g_nil, g_cons, g_cons1, g_cons2, g_lst, g_tup, g_allD_nil, g_allD_cons, kTup0, kTup1, kTup2, kTup3, kTup4, kLst0, kLst1, kLst2, kLst3, g_newF, g_newT, g_call, g_sl, g_sl0, g_sl1, g_sl2, g_noP, g_part, g_kPart, g_frz, g_app, g_seq, g_seq_next, g_seq_ret, g_seq_err, g_seq_brk, g_seq_cnt, g_skip, g_ret, g_kRet, g_drop, g_kDrop, g_ifS, g_kIfS_t, g_kIfS_f, g_asg, g_kAsg, g_kAsg2, g_kAsg3, g_for, g_kFor, g_lc, g_seqI, g_itemsL, g_itemsT, g_rng1, g_revR1, g_enum, g_kEnum, g_wipe, g_wipe_next, g_wipe_ret, g_wipe_err, g_addI, g_subI, g_ltI, g_leI, g_gtI, g_geI, g_eqI, g_neI, g_eqS, g_neS, g_eqB, g_neB, g_neg, g_intI, g_intB, g_lenT, g_lenL, g_isN, g_yes, g_truL, g_truI, g_isNon_tup, g_isNon_non, g_slT, g_slL, g_slS, g_listL, g_listT, g_tupleL, g_raise, g_raiseA, g_kRaise1, g_kRaise2, g_setF, g_kSetF, g_make, g_meth, g_kMeth2, g_fld, g_kFldD, g_tryA, g_tryA_next, g_tryA_ret, g_cast0, g_cast1, g_cast2, g_cast3, g_cast4, g_cast5, g_cast6, g_cast7, g_cast8, g_cast9, g_cast10, g_cast11, g_cast12, g_cast13, lk, List.set_cons_zero, List.set_cons_succ, Bool.not_true, Bool.not_false, decide_true, decide_false, Int.reduceEq, Int.reduceLT, Int.reduceLE, Int.reduceSub, Int.reduceAdd, Int.reduceNeg, Int.reduceToNat, Int.reduceNe, Nat.reduceAdd, Nat.reduceLT, Nat.reduceLeDiff, eq_self, if_true, if_false, str_eq, String.reduceEq, isTy, String.reduceBEq, Bool.true_or, Bool.false_or, Bool.or_true, Bool.or_false, Bool.and_true, Bool.true_and, Bool.and_false, Bool.false_and, fIsi, fIsi2, kindOf, List.set_set, List.length_cons, List.length_nil, wipeE, beq_self_eq_true]
      exact ⟨.keep a, k6, r6, rfl, ⟨pos, a6⟩, l6⟩
    · simp (config := { implicitDefEqProofs := false }) only [decide_eq_false h4, e6, g_bind_ok, g_bind_err, g_toS_ok, g_toS_err, g_var, g_c, g_op, g_op1, g_1, g_B, g_unB, g_test, g_and, g_or, g_not, g_kand_t, g_kand_f, g_kor_t, g_kor_f, g_knot, g_andV, g_orV, g_kandV_t, g_kandV_f, g_korV_t, g_korV_f, g_notV, g_kNotV, g_kNV, g_orT, g_kOrT, g_kOrT_t, g_kOrT_f, g_tru_bl, g_chain, g_ch1, g_ch2, g_ch3_t, g_ch3_f, g_if, g_kif_t, g_kif_f, g_nil, g_cons, g_cons1, g_cons2, g_lst, g_tup, g_allD_nil, g_allD_cons, kTup0, kTup1, kTup2, kTup3, kTup4, kLst0, kLst1, kLst2, kLst3, g_newF, g_newT, g_call, g_sl, g_sl0, g_sl1, g_sl2, g_noP, g_part, g_kPart, g_frz, g_app, g_seq, g_seq_next, g_seq_ret, g_seq_err, g_seq_brk, g_seq_cnt, g_skip, g_ret, g_kRet, g_drop, g_kDrop, g_ifS, g_kIfS_t, g_kIfS_f, g_asg, g_kAsg, g_kAsg2, g_kAsg3, g_for, g_kFor, g_lc, g_seqI, g_itemsL, g_itemsT, g_rng1, g_revR1, g_enum, g_kEnum, g_wipe, g_wipe_next, g_wipe_ret, g_wipe_err, g_addI, g_subI, g_ltI, g_leI, g_gtI, g_geI, g_eqI, g_neI, g_eqS, g_neS, g_eqB, g_neB, g_neg, g_intI, g_intB, g_lenT, g_lenL, g_isN, g_yes, g_truL, g_truI, g_isNon_tup, g_isNon_non, g_slT, g_slL, g_slS, g_listL, g_listT, g_tupleL, g_raise, g_raiseA, g_kRaise1, g_kRaise2, g_setF, g_kSetF, g_make, g_meth, g_kMeth2, g_fld, g_kFldD, g_tryA, g_tryA_next, g_tryA_ret, g_cast0, g_cast1, g_cast2, g_cast3, g_cast4, g_cast5, g_cast6, g_cast7, g_cast8, g_cast9, g_cast10, g_cast11, g_cast12, g_cast13, lk, List.set_cons_zero, List.set_cons_succ, Bool.not_true, Bool.not_false, decide_true, decide_false, Int.reduceEq, Int.reduceLT, Int.reduceLE, Int.reduceSub, Int.reduceAdd, Int.reduceNeg, Int.reduceToNat, Int.reduceNe, Nat.reduceAdd, Nat.reduceLT, Nat.reduceLeDiff, eq_self, if_true, if_false, str_eq, String.reduceEq, isTy, String.reduceBEq, Bool.true_or, Bool.false_or, Bool.or_true, Bool.or_false, Bool.and_true, Bool.true_and, Bool.and_false, Bool.false_and, fIsi, fIsi2, kindOf, List.set_set, List.length_cons, List.length_nil, wipeE, beq_self_eq_true]
      exact ⟨.again a, k6, r6, rfl, ⟨pos, a6⟩, l6⟩
    · simp (config := { implicitDefEqProofs := false }) only [decide_eq_false h4, e6, e7, g_bind_ok, g_bind_err, g_toS_ok, g_toS_err, g_var, g_c, g_op, g_op1, g_1, g_B, g_unB, g_test, g_and, g_or, g_not, g_kand_t, g_kand_f, g_kor_t, g_kor_f, g_knot, g_andV, g_orV, g_kandV_t, g_kandV_f, g_korV_t, g_korV_f, g_notV, g_kNotV, g_kNV, g_orT, g_kOrT, g_kOrT_t, g_kOrT_f, g_tru_bl, g_chain, g_ch1, g_ch2, g_ch3_t, g_ch3_f, g_if, g_kif_t, g_kif_f, g_nil, g_cons, g_cons1, g_cons2, g_lst, g_tup, g_allD_nil, g_allD_cons, kTup0, kTup1, kTup2, kTup3, kTup4, kLst0, kLst1, kLst2, kLst3, g_newF, g_newT, g_call, g_sl, g_sl0, g_sl1, g_sl2, g_noP, g_part, g_kPart, g_frz, g_app, g_seq, g_seq_next, g_seq_ret, g_seq_err, g_seq_brk, g_seq_cnt, g_skip, g_ret, g_kRet, g_drop, g_kDrop, g_ifS, g_kIfS_t, g_kIfS_f, g_asg, g_kAsg, g_kAsg2, g_kAsg3, g_for, g_kFor, g_lc, g_seqI, g_itemsL, g_itemsT, g_rng1, g_revR1, g_enum, g_kEnum, g_wipe, g_wipe_next, g_wipe_ret, g_wipe_err, g_addI, g_subI, g_ltI, g_leI, g_gtI, g_geI, g_eqI, g_neI, g_eqS, g_neS, g_eqB, g_neB, g_neg, g_intI, g_intB, g_lenT, g_lenL, g_isN, g_yes, g_truL, g_truI, g_isNon_tup, g_isNon_non, g_slT, g_slL, g_slS, g_listL, g_listT, g_tupleL, g_raise, g_raiseA, g_kRaise1, g_kRaise2, g_setF, g_kSetF, g_make, g_meth, g_kMeth2, g_fld, g_kFldD, g_tryA, g_tryA_next, g_tryA_ret, g_cast0, g_cast1, g_cast2, g_cast3, g_cast4, g_cast5, g_cast6, g_cast7, g_cast8, g_cast9, g_cast10, g_cast11, g_cast12, g_cast13, lk, List.set_cons_zero, List.set_cons_succ, Bool.not_true, Bool.not_false, decide_true, decide_false, Int.reduceEq, Int.reduceLT, Int.reduceLE, Int.reduceSub, Int.reduceAdd, Int.reduceNeg, Int.reduceToNat, Int.reduceNe, Nat.reduceAdd, Nat.reduceLT, Nat.reduceLeDiff, eq_self, if_true, if_false, str_eq, String.reduceEq, isTy, String.reduceBEq, Bool.true_or, Bool.false_or, Bool.or_true, Bool.or_false, Bool.and_true, Bool.true_and, Bool.and_false, Bool.false_and, fIsi, fIsi2, kindOf, List.set_set, List.length_cons, List.length_nil, wipeE, beq_self_eq_true]
      exact ⟨.either a b, k7, r7, rfl, ⟨pos, a6, a7⟩, l7⟩
    · simp (config := { implicitDefEqProofs := false }) only [decide_eq_false h4, e6, e8, e9, g_bind_ok, g_bind_err, g_toS_ok, g_toS_err, g_var, g_c, g_op, g_op1, g_1, g_B, g_unB, g_test, g_and, g_or, g_not, g_kand_t, g_kand_f, g_kor_t, g_kor_f, g_knot, g_andV, g_orV, g_kandV_t, g_kandV_f, g_korV_t, g_korV_f, g_notV, g_kNotV, g_kNV, g_orT, g_kOrT, g_kOrT_t, g_kOrT_f, g_tru_bl, g_chain, g_ch1, g_ch2, g_ch3_t, g_ch3_f, g_if, g_kif_t, g_kif_f, g_nil, g_cons, g_cons1, g_cons2, g_lst, g_tup, g_allD_nil, g_allD_cons, kTup0, kTup1, kTup2, kTup3, kTup4, kLst0, kLst1, kLst2, kLst3, g_newF, g_newT, g_call, g_sl, g_sl0, g_sl1, g_sl2, g_noP, g_part, g_kPart, g_frz, g_app, g_seq, g_seq_next, g_seq_ret, g_seq_err, g_seq_brk, g_seq_cnt, g_skip, g_ret, g_kRet, g_drop, g_kDrop, g_ifS, g_kIfS_t, g_kIfS_f, g_asg, g_kAsg, g_kAsg2, g_kAsg3, g_for, g_kFor, g_lc, g_seqI, g_itemsL, g_itemsT, g_rng1, g_revR1, g_enum, g_kEnum, g_wipe, g_wipe_next, g_wipe_ret, g_wipe_err, g_addI, g_subI, g_ltI, g_leI, g_gtI, g_geI, g_eqI, g_neI, g_eqS, g_neS, g_eqB, g_neB, g_neg, g_intI, g_intB, g_lenT, g_lenL, g_isN, g_yes, g_truL, g_truI, g_isNon_tup, g_isNon_non, g_slT, g_slL, g_slS, g_listL, g_listT, g_tupleL, g_raise, g_raiseA, g_kRaise1, g_kRaise2, g_setF, g_kSetF, g_make, g_meth, g_kMeth2, g_fld, g_kFldD, g_tryA, g_tryA_next, g_tryA_ret, g_cast0, g_cast1, g_cast2, g_cast3, g_cast4, g_cast5, g_cast6, g_cast7, g_cast8, g_cast9, g_cast10, g_cast11, g_cast12, g_cast13, lk, List.set_cons_zero, List.set_cons_succ, Bool.not_true, Bool.not_false, decide_true, decide_false, Int.reduceEq, Int.reduceLT, Int.reduceLE, Int.reduceSub, Int.reduceAdd, Int.reduceNeg, Int.reduceToNat, Int.reduceNe, Nat.reduceAdd, Nat.reduceLT, Nat.reduceLeDiff, eq_self, if_true, if_false, str_eq, String.reduceEq, isTy, String.reduceBEq, Bool.true_or, Bool.false_or, Bool.or_true, Bool.or_false, Bool.and_true, Bool.true_and, Bool.and_false, Bool.false_and, fIsi, fIsi2, kindOf, List.set_set, List.length_cons, List.length_nil, wipeE, beq_self_eq_true]
      exact ⟨.call f true a b', k9, r9, rfl, ⟨⟨pos, f0, f1⟩, a6, a9⟩, l9⟩
    · simp (config := { implicitDefEqProofs := false }) only [decide_eq_false h4, e4, g_bind_ok, g_bind_err, g_toS_ok, g_toS_err, g_var, g_c, g_op, g_op1, g_1, g_B, g_unB, g_test, g_and, g_or, g_not, g_kand_t, g_kand_f, g_kor_t, g_kor_f, g_knot, g_andV, g_orV, g_kandV_t, g_kandV_f, g_korV_t, g_korV_f, g_notV, g_kNotV, g_kNV, g_orT, g_kOrT, g_kOrT_t, g_kOrT_f, g_tru_bl, g_chain, g_ch1, g_ch2, g_ch3_t, g_ch3_f, g_if, g_kif_t, g_kif_f, g_nil, g_cons, g_cons1, g_cons2, g_lst, g_tup, g_allD_nil, g_allD_cons, kTup0, kTup1, kTup2, kTup3, kTup4, kLst0, kLst1, kLst2, kLst3, g_newF, g_newT, g_call, g_sl, g_sl0, g_sl1, g_sl2, g_noP, g_part, g_kPart, g_frz, g_app, g_seq, g_seq_next, g_seq_ret, g_seq_err, g_seq_brk, g_seq_cnt, g_skip, g_ret, g_kRet, g_drop, g_kDrop, g_ifS, g_kIfS_t, g_kIfS_f, g_asg, g_kAsg, g_kAsg2, g_kAsg3, g_for, g_kFor, g_lc, g_seqI, g_itemsL, g_itemsT, g_rng1, g_revR1, g_enum, g_kEnum, g_wipe, g_wipe_next, g_wipe_ret, g_wipe_err, g_addI, g_subI, g_ltI, g_leI, g_gtI, g_geI, g_eqI, g_neI, g_eqS, g_neS, g_eqB, g_neB, g_neg, g_intI, g_intB, g_lenT, g_lenL, g_isN, g_yes, g_truL, g_truI, g_isNon_tup, g_isNon_non, g_slT, g_slL, g_slS, g_listL, g_listT, g_tupleL, g_raise, g_raiseA, g_kRaise1, g_kRaise2, g_setF, g_kSetF, g_make, g_meth, g_kMeth2, g_fld, g_kFldD, g_tryA, g_tryA_next, g_tryA_ret, g_cast0, g_cast1, g_cast2, g_cast3, g_cast4, g_cast5, g_cast6, g_cast7, g_cast8, g_cast9, g_cast10, g_cast11, g_cast12, g_cast13, lk, List.set_cons_zero, List.set_cons_succ, Bool.not_true, Bool.not_false, decide_true, decide_false, Int.reduceEq, Int.reduceLT, Int.reduceLE, Int.reduceSub, Int.reduceAdd, Int.reduceNeg, Int.reduceToNat, Int.reduceNe, Nat.reduceAdd, Nat.reduceLT, Nat.reduceLeDiff, eq_self, if_true, if_false, str_eq, String.reduceEq, isTy, String.reduceBEq, Bool.true_or, Bool.false_or, Bool.or_true, Bool.or_false, Bool.and_true, Bool.true_and, Bool.and_false, Bool.false_and, fIsi, fIsi2, kindOf, List.set_set, List.length_cons, List.length_nil, wipeE, beq_self_eq_true]
      by_cases hg : g = 0
      · simp (config := { implicitDefEqProofs := false }) only [decide_eq_true hg, g_bind_ok, g_bind_err, g_toS_ok, g_toS_err, g_var, g_c, g_op, g_op1, g_1, g_B, g_unB, g_test, g_and, g_or, g_not, g_kand_t, g_kand_f, g_kor_t, g_kor_f, g_knot, g_andV, g_orV, g_kandV_t, g_kandV_f, g_korV_t, g_korV_f, g_notV, g_kNotV, g_kNV, g_orT, g_kOrT, g_kOrT_t, g_kOrT_f, g_tru_bl, g_chain, g_ch1, g_ch2, g_ch3_t, g_ch3_f, g_if, g_kif_t, g_kif_f, g_nil, g_cons, g_cons1, g_cons2, g_lst, g_tup, g_allD_nil, g_allD_cons, kTup0, kTup1, kTup2, kTup3, kTup4, kLst0, kLst1, kLst2, kLst3, g_newF, g_newT, g_call, g_sl, g_sl0, g_sl1, g_sl2, g_noP, g_part, g_kPart, g_frz, g_app, g_seq, g_seq_next, g_seq_ret, g_seq_err, g_seq_brk, g_seq_cnt, g_skip, g_ret, g_kRet, g_drop, g_kDrop, g_ifS, g_kIfS_t, g_kIfS_f, g_asg, g_kAsg, g_kAsg2, g_kAsg3, g_for, g_kFor, g_lc, g_seqI, g_itemsL, g_itemsT, g_rng1, g_revR1, g_enum, g_kEnum, g_wipe, g_wipe_next, g_wipe_ret, g_wipe_err, g_addI, g_subI, g_ltI, g_leI, g_gtI, g_geI, g_eqI, g_neI, g_eqS, g_neS, g_eqB, g_neB, g_neg, g_intI, g_intB, g_lenT, g_lenL, g_isN, g_yes, g_truL, g_truI, g_isNon_tup, g_isNon_non, g_slT, g_slL, g_slS, g_listL, g_listT, g_tupleL, g_raise, g_raiseA, g_kRaise1, g_kRaise2, g_setF, g_kSetF, g_make, g_meth, g_kMeth2, g_fld, g_kFldD, g_tryA, g_tryA_next, g_tryA_ret, g_cast0, g_cast1, g_cast2, g_cast3, g_cast4, g_cast5, g_cast6, g_cast7, g_cast8, g_cast9, g_cast10, g_cast11, g_cast12, g_cast13, lk, List.set_cons_zero, List.set_cons_succ, Bool.not_true, Bool.not_false, decide_true, decide_false, Int.reduceEq, Int.reduceLT, Int.reduceLE, Int.reduceSub, Int.reduceAdd, Int.reduceNeg, Int.reduceToNat, Int.reduceNe, Nat.reduceAdd, Nat.reduceLT, Nat.reduceLeDiff, eq_self, if_true, if_false, str_eq, String.reduceEq, isTy, String.reduceBEq, Bool.true_or, Bool.false_or, Bool.or_true, Bool.or_false, Bool.and_true, Bool.true_and, Bool.and_false, Bool.false_and, fIsi, fIsi2, kindOf, List.set_set, List.length_cons, List.length_nil, wipeE, beq_self_eq_true]
        exact ⟨.bad, k4, r - 1, rfl, trivial, l4⟩
      · simp (config := { implicitDefEqProofs := false }) only [decide_eq_false hg, e5, g_bind_ok, g_bind_err, g_toS_ok, g_toS_err, g_var, g_c, g_op, g_op1, g_1, g_B, g_unB, g_test, g_and, g_or, g_not, g_kand_t, g_kand_f, g_kor_t, g_kor_f, g_knot, g_andV, g_orV, g_kandV_t, g_kandV_f, g_korV_t, g_korV_f, g_notV, g_kNotV, g_kNV, g_orT, g_kOrT, g_kOrT_t, g_kOrT_f, g_tru_bl, g_chain, g_ch1, g_ch2, g_ch3_t, g_ch3_f, g_if, g_kif_t, g_kif_f, g_nil, g_cons, g_cons1, g_cons2, g_lst, g_tup, g_allD_nil, g_allD_cons, kTup0, kTup1, kTup2, kTup3, kTup4, kLst0, kLst1, kLst2, kLst3, g_newF, g_newT, g_call, g_sl, g_sl0, g_sl1, g_sl2, g_noP, g_part, g_kPart, g_frz, g_app, g_seq, g_seq_next, g_seq_ret, g_seq_err, g_seq_brk, g_seq_cnt, g_skip, g_ret, g_kRet, g_drop, g_kDrop, g_ifS, g_kIfS_t, g_kIfS_f, g_asg, g_kAsg, g_kAsg2, g_kAsg3, g_for, g_kFor, g_lc, g_seqI, g_itemsL, g_itemsT, g_rng1, g_revR1, g_enum, g_kEnum, g_wipe, g_wipe_next, g_wipe_ret, g_wipe_err, g_addI, g_subI, g_ltI, g_leI, g_gtI, g_geI, g_eqI, g_neI, g_eqS, g_neS, g_eqB, g_neB, g_neg, g_intI, g_intB, g_lenT, g_lenL, g_isN, g_yes, g_truL, g_truI, g_isNon_tup, g_isNon_non, g_slT, g_slL, g_slS, g_listL, g_listT, g_tupleL, g_raise, g_raiseA, g_kRaise1, g_kRaise2, g_setF, g_kSetF, g_make, g_meth, g_kMeth2, g_fld, g_kFldD, g_tryA, g_tryA_next, g_tryA_ret, g_cast0, g_cast1, g_cast2, g_cast3, g_cast4, g_cast5, g_cast6, g_cast7, g_cast8, g_cast9, g_cast10, g_cast11, g_cast12, g_cast13, lk, List.set_cons_zero, List.set_cons_succ, Bool.not_true, Bool.not_false, decide_true, decide_false, Int.reduceEq, Int.reduceLT, Int.reduceLE, Int.reduceSub, Int.reduceAdd, Int.reduceNeg, Int.reduceToNat, Int.reduceNe, Nat.reduceAdd, Nat.reduceLT, Nat.reduceLeDiff, eq_self, if_true, if_false, str_eq, String.reduceEq, isTy, String.reduceBEq, Bool.true_or, Bool.false_or, Bool.or_true, Bool.or_false, Bool.and_true, Bool.true_and, Bool.and_false, Bool.false_and, fIsi, fIsi2, kindOf, List.set_set, List.length_cons, List.length_nil, wipeE, beq_self_eq_true]
        exact ⟨.fin w', k5, r - 1, rfl, ⟨w0', by omega⟩, l5⟩
    · simp (config := { implicitDefEqProofs := false }) only [decide_eq_false h4, e3, g_bind_ok, g_bind_err, g_toS_ok, g_toS_err, g_var, g_c, g_op, g_op1, g_1, g_B, g_unB, g_test, g_and, g_or, g_not, g_kand_t, g_kand_f, g_kor_t, g_kor_f, g_knot, g_andV, g_orV, g_kandV_t, g_kandV_f, g_korV_t, g_korV_f, g_notV, g_kNotV, g_kNV, g_orT, g_kOrT, g_kOrT_t, g_kOrT_f, g_tru_bl, g_chain, g_ch1, g_ch2, g_ch3_t, g_ch3_f, g_if, g_kif_t, g_kif_f, g_nil, g_cons, g_cons1, g_cons2, g_lst, g_tup, g_allD_nil, g_allD_cons, kTup0, kTup1, kTup2, kTup3, kTup4, kLst0, kLst1, kLst2, kLst3, g_newF, g_newT, g_call, g_sl, g_sl0, g_sl1, g_sl2, g_noP, g_part, g_kPart, g_frz, g_app, g_seq, g_seq_next, g_seq_ret, g_seq_err, g_seq_brk, g_seq_cnt, g_skip, g_ret, g_kRet, g_drop, g_kDrop, g_ifS, g_kIfS_t, g_kIfS_f, g_asg, g_kAsg, g_kAsg2, g_kAsg3, g_for, g_kFor, g_lc, g_seqI, g_itemsL, g_itemsT, g_rng1, g_revR1, g_enum, g_kEnum, g_wipe, g_wipe_next, g_wipe_ret, g_wipe_err, g_addI, g_subI, g_ltI, g_leI, g_gtI, g_geI, g_eqI, g_neI, g_eqS, g_neS, g_eqB, g_neB, g_neg, g_intI, g_intB, g_lenT, g_lenL, g_isN, g_yes, g_truL, g_truI, g_isNon_tup, g_isNon_non, g_slT, g_slL, g_slS, g_listL, g_listT, g_tupleL, g_raise, g_raiseA, g_kRaise1, g_kRaise2, g_setF, g_kSetF, g_make, g_meth, g_kMeth2, g_fld, g_kFldD, g_tryA, g_tryA_next, g_tryA_ret, g_cast0, g_cast1, g_cast2, g_cast3, g_cast4, g_cast5, g_cast6, g_cast7, g_cast8, g_cast9, g_cast10, g_cast11, g_cast12, g_cast13, lk, List.set_cons_zero, List.set_cons_succ, Bool.not_true, Bool.not_false, decide_true, decide_false, Int.reduceEq, Int.reduceLT, Int.reduceLE, Int.reduceSub, Int.reduceAdd, Int.reduceNeg, Int.reduceToNat, Int.reduceNe, Nat.reduceAdd, Nat.reduceLT, Nat.reduceLeDiff, eq_self, if_true, if_false, str_eq, String.reduceEq, isTy, String.reduceBEq, Bool.true_or, Bool.false_or, Bool.or_true, Bool.or_false, Bool.and_true, Bool.true_and, Bool.and_false, Bool.false_and, fIsi, fIsi2, kindOf, List.set_set, List.length_cons, List.length_nil, wipeE, beq_self_eq_true]
      exact ⟨.fin w, k3, r - 1, rfl, ⟨w0, by omega⟩, l3⟩
/-- the turns of the list -/
theorem list_loop {n : Nat} (ih : ThingOk n) {T : Sto} {p q N : Nat} {lv many bad : Int} {z : Option Vl} (t : Two T p q N) (ls : LS T) (h0 : 0 ≤ lv) (h5 : lv ≤ 5) (m1 : 1 ≤ many) (m3 : many ≤ 3) (b1 : 1 ≤ bad) (b6 : bad ≤ 6) (hn : 2 * (5 - lv.toNat) + 1 ≤ n) :
    ∀ (is : List D) (l : List Stt) (ks : List Int) (r : Int), ks.length = N → OkL many l (5 - lv.toNat) → l.length + is.length ≤ 10 → ∃ (l' : List Stt) (ks' : List Int) (r' : Int),
      loop (.nm 7) (mWipe [7] (mIfS (mB (mOp fGt (mOp fIx (mVar 2) (mC (.int 0))) (mC (.int 0)))) (mDrop (mApp (mVar 5) (mCall (m_L_faulty_thing n) (mCons (mVar 0) (mCons (mVar 1) (mCons (mVar 2) (mCons (mVar 3) (mCons (mVar 4) mNil)))))))) mSkip)) is
        [some (.cel p), some (.dat (.int lv)), some (.cel q), some (.dat (.int many)), some (.dat (.int bad)), some (.cel T.length), z, none] (upd2 (T ++ [.lst (dsOf l)]) p q ks [r]) =
        .next [some (.cel p), some (.dat (.int lv)), some (.cel q), some (.dat (.int many)), some (.dat (.int bad)), some (.cel T.length), z, none] (upd2 (T ++ [.lst (dsOf l')]) p q ks' [r']) ∧ OkL many l' (5 - lv.toNat) ∧ ks'.length = N
  | [], l, ks, r, hk, hl, _ => ⟨l, ks, r, rfl, hl, hk⟩
  | i :: is, l, ks, r, hk, hl, hlen => by
    unfold loop
    simp only [tgF, List.set_cons_succ, List.set_cons_zero]
    simp (config := { implicitDefEqProofs := false }) only [ix_q t.app, g_bind_ok, g_bind_err, g_toS_ok, g_toS_err, g_var, g_c, g_op, g_op1, g_1, g_B, g_unB, g_test, g_and, g_or, g_not, g_kand_t, g_kand_f, g_kor_t, g_kor_f, g_knot, g_andV, g_orV, g_kandV_t, g_kandV_f, g_korV_t, g_korV_f, g_notV, g_kNotV, g_kNV, g_orT, g_kOrT, g_kOrT_t, g_kOrT_f, g_tru_bl, g_chain, g_ch1, g_ch2, g_ch3_t, g_ch3_f, g_if, g_kif_t, g_kif_f, g_nil, g_cons, g_cons1, g_cons2, g_lst, g_tup, g_allD_nil, g_allD_cons, kTup0, kTup1, kTup2, kTup3, kTup4, kLst0, kLst1, kLst2, kLst3, g_newF, g_newT, g_call, g_sl, g_sl0, g_sl1, g_sl2, g_noP, g_part, g_kPart, g_frz, g_app, g_seq, g_seq_next, g_seq_ret, g_seq_err, g_seq_brk, g_seq_cnt, g_skip, g_ret, g_kRet, g_drop, g_kDrop, g_ifS, g_kIfS_t, g_kIfS_f, g_asg, g_kAsg, g_kAsg2, g_kAsg3, g_for, g_kFor, g_lc, g_seqI, g_itemsL, g_itemsT, g_rng1, g_revR1, g_enum, g_kEnum, g_wipe, g_wipe_next, g_wipe_ret, g_wipe_err, g_addI, g_subI, g_ltI, g_leI, g_gtI, g_geI, g_eqI, g_neI, g_eqS, g_neS, g_eqB, g_neB, g_neg, g_intI, g_intB, g_lenT, g_lenL, g_isN, g_yes, g_truL, g_truI, g_isNon_tup, g_isNon_non, g_slT, g_slL, g_slS, g_listL, g_listT, g_tupleL, g_raise, g_raiseA, g_kRaise1, g_kRaise2, g_setF, g_kSetF, g_make, g_meth, g_kMeth2, g_fld, g_kFldD, g_tryA, g_tryA_next, g_tryA_ret, g_cast0, g_cast1, g_cast2, g_cast3, g_cast4, g_cast5, g_cast6, g_cast7, g_cast8, g_cast9, g_cast10, g_cast11, g_cast12, g_cast13, lk, List.set_cons_zero, List.set_cons_succ, Bool.not_true, Bool.not_false, decide_true, decide_false, Int.reduceEq, Int.reduceLT, Int.reduceLE, Int.reduceSub, Int.reduceAdd, Int.reduceNeg, Int.reduceToNat, Int.reduceNe, Nat.reduceAdd, Nat.reduceLT, Nat.reduceLeDiff, eq_self, if_true, if_false, str_eq, String.reduceEq, isTy, String.reduceBEq, Bool.true_or, Bool.false_or, Bool.or_true, Bool.or_false, Bool.and_true, Bool.true_and, Bool.and_false, Bool.false_and, fIsi, fIsi2, kindOf, List.set_set, List.length_cons, List.length_nil, wipeE, beq_self_eq_true]
    by_cases hr : 0 < r
    · obtain ⟨s, k1, r1, e1, s1, l1⟩ := ih (ks := ks) (r := r) (lv := lv) (many := many) (bad := bad) (t.app (c := .lst (dsOf l))) ls.app hk h0 h5 m1 m3 b1 b6 hn
      have hat : ∀ ks r, (upd2 (T ++ [.lst (dsOf l)]) p q ks r)[T.length]? = some (.lst (dsOf l)) := fun ks r => by rw [u2_app t, ← u2_len (S := T) (p := p) (q := q) (ks := ks) (rs := r)]; simp
      have hset : ∀ ks r ds, (upd2 (T ++ [.lst (dsOf l)]) p q ks r).set T.length (.lst ds) = upd2 (T ++ [.lst ds]) p q ks r := fun ks r ds => by
        rw [u2_app t, u2_app t, ← u2_len (S := T) (p := p) (q := q) (ks := ks) (rs := r)]; simp
      simp (config := { implicitDefEqProofs := false }) only [decide_eq_true hr, g_kApp (hat ks [r]), e1, g_fApp (hat k1 [r1]) (by rw [dsOf_len]; have := hl.len; show l.length < 16777216; omega), hset, g_bind_ok, g_bind_err, g_toS_ok, g_toS_err, g_var, g_c, g_op, g_op1, g_1, g_B, g_unB, g_test, g_and, g_or, g_not, g_kand_t, g_kand_f, g_kor_t, g_kor_f, g_knot, g_andV, g_orV, g_kandV_t, g_kandV_f, g_korV_t, g_korV_f, g_notV, g_kNotV, g_kNV, g_orT, g_kOrT, g_kOrT_t, g_kOrT_f, g_tru_bl, g_chain, g_ch1, g_ch2, g_ch3_t, g_ch3_f, g_if, g_kif_t, g_kif_f, g_nil, g_cons, g_cons1, g_cons2, g_lst, g_tup, g_allD_nil, g_allD_cons, kTup0, kTup1, kTup2, kTup3, kTup4, kLst0, kLst1, kLst2, kLst3, g_newF, g_newT, g_call, g_sl, g_sl0, g_sl1, g_sl2, g_noP, g_part, g_kPart, g_frz, g_app, g_seq, g_seq_next, g_seq_ret, g_seq_err, g_seq_brk, g_seq_cnt, g_skip, g_ret, g_kRet, g_drop, g_kDrop, g_ifS, g_kIfS_t, g_kIfS_f, g_asg, g_kAsg, g_kAsg2, g_kAsg3, g_for, g_kFor, g_lc, g_seqI, g_itemsL, g_itemsT, g_rng1, g_revR1, g_enum, g_kEnum, g_wipe, g_wipe_next, g_wipe_ret, g_wipe_err, g_addI, g_subI, g_ltI, g_leI, g_gtI, g_geI, g_eqI, g_neI, g_eqS, g_neS, g_eqB, g_neB, g_neg, g_intI, g_intB, g_lenT, g_lenL, g_isN, g_yes, g_truL, g_truI, g_isNon_tup, g_isNon_non, g_slT, g_slL, g_slS, g_listL, g_listT, g_tupleL, g_raise, g_raiseA, g_kRaise1, g_kRaise2, g_setF, g_kSetF, g_make, g_meth, g_kMeth2, g_fld, g_kFldD, g_tryA, g_tryA_next, g_tryA_ret, g_cast0, g_cast1, g_cast2, g_cast3, g_cast4, g_cast5, g_cast6, g_cast7, g_cast8, g_cast9, g_cast10, g_cast11, g_cast12, g_cast13, lk, List.set_cons_zero, List.set_cons_succ, Bool.not_true, Bool.not_false, decide_true, decide_false, Int.reduceEq, Int.reduceLT, Int.reduceLE, Int.reduceSub, Int.reduceAdd, Int.reduceNeg, Int.reduceToNat, Int.reduceNe, Nat.reduceAdd, Nat.reduceLT, Nat.reduceLeDiff, eq_self, if_true, if_false, str_eq, String.reduceEq, isTy, String.reduceBEq, Bool.true_or, Bool.false_or, Bool.or_true, Bool.or_false, Bool.and_true, Bool.true_and, Bool.and_false, Bool.false_and, fIsi, fIsi2, kindOf, List.set_set, List.length_cons, List.length_nil, wipeE, beq_self_eq_true]
      have e2 : dsOf l ++ [s.d] = dsOf (l ++ [s]) := by rw [dsOf_app]; rfl
      rw [e2]
      simp only [List.length_cons] at hlen
      exact list_loop ih t ls h0 h5 m1 m3 b1 b6 hn is (l ++ [s]) k1 r1 l1 (hl.snoc s1 (by omega)) (by simp; omega)
    · simp (config := { implicitDefEqProofs := false }) only [decide_eq_false hr, g_bind_ok, g_bind_err, g_toS_ok, g_toS_err, g_var, g_c, g_op, g_op1, g_1, g_B, g_unB, g_test, g_and, g_or, g_not, g_kand_t, g_kand_f, g_kor_t, g_kor_f, g_knot, g_andV, g_orV, g_kandV_t, g_kandV_f, g_korV_t, g_korV_f, g_notV, g_kNotV, g_kNV, g_orT, g_kOrT, g_kOrT_t, g_kOrT_f, g_tru_bl, g_chain, g_ch1, g_ch2, g_ch3_t, g_ch3_f, g_if, g_kif_t, g_kif_f, g_nil, g_cons, g_cons1, g_cons2, g_lst, g_tup, g_allD_nil, g_allD_cons, kTup0, kTup1, kTup2, kTup3, kTup4, kLst0, kLst1, kLst2, kLst3, g_newF, g_newT, g_call, g_sl, g_sl0, g_sl1, g_sl2, g_noP, g_part, g_kPart, g_frz, g_app, g_seq, g_seq_next, g_seq_ret, g_seq_err, g_seq_brk, g_seq_cnt, g_skip, g_ret, g_kRet, g_drop, g_kDrop, g_ifS, g_kIfS_t, g_kIfS_f, g_asg, g_kAsg, g_kAsg2, g_kAsg3, g_for, g_kFor, g_lc, g_seqI, g_itemsL, g_itemsT, g_rng1, g_revR1, g_enum, g_kEnum, g_wipe, g_wipe_next, g_wipe_ret, g_wipe_err, g_addI, g_subI, g_ltI, g_leI, g_gtI, g_geI, g_eqI, g_neI, g_eqS, g_neS, g_eqB, g_neB, g_neg, g_intI, g_intB, g_lenT, g_lenL, g_isN, g_yes, g_truL, g_truI, g_isNon_tup, g_isNon_non, g_slT, g_slL, g_slS, g_listL, g_listT, g_tupleL, g_raise, g_raiseA, g_kRaise1, g_kRaise2, g_setF, g_kSetF, g_make, g_meth, g_kMeth2, g_fld, g_kFldD, g_tryA, g_tryA_next, g_tryA_ret, g_cast0, g_cast1, g_cast2, g_cast3, g_cast4, g_cast5, g_cast6, g_cast7, g_cast8, g_cast9, g_cast10, g_cast11, g_cast12, g_cast13, lk, List.set_cons_zero, List.set_cons_succ, Bool.not_true, Bool.not_false, decide_true, decide_false, Int.reduceEq, Int.reduceLT, Int.reduceLE, Int.reduceSub, Int.reduceAdd, Int.reduceNeg, Int.reduceToNat, Int.reduceNe, Nat.reduceAdd, Nat.reduceLT, Nat.reduceLeDiff, eq_self, if_true, if_false, str_eq, String.reduceEq, isTy, String.reduceBEq, Bool.true_or, Bool.false_or, Bool.or_true, Bool.or_false, Bool.and_true, Bool.true_and, Bool.and_false, Bool.false_and, fIsi, fIsi2, kindOf, List.set_set, List.length_cons, List.length_nil, wipeE, beq_self_eq_true]
      simp only [List.length_cons] at hlen
      exact list_loop ih t ls h0 h5 m1 m3 b1 b6 hn is l ks r hk hl (by omega)
theorem list_of {n : Nat} (ih : ThingOk n) : ListOk (n + 1) := by
  intro S p q N ks r lv many bad t ls hl h0 h5 m1 m3 b1 b6 hn
  have eE : m_L_faulty_list (n + 1) [.cel p, .dat (.int lv), .cel q, .dat (.int many), .dat (.int bad)] (upd2 S p q ks [r]) = trunc (upd2 S p q ks [r]).length (ofOut (b_L_faulty_list (m_L_faulty_thing n) [some (.cel p), some (.dat (.int lv)), some (.cel q), some (.dat (.int many)), some (.dat (.int bad)), none, none, none] (upd2 S p q ks [r]))) := rfl
  rw [eE]
  unfold b_L_faulty_list w_L_faulty_list_1
  have t1 : Two (S ++ [.lst []]) p q N := t.app
  obtain ⟨d, k1, e1, d0, d1, l1⟩ := draw2 (rs := [r]) t1 hl (k := 11) (by decide) (by decide)
  obtain ⟨d', k2, e2, d0', d1', l2⟩ := draw2 (rs := [r]) t1 l1 (k := 2) (by decide) (by decide)
  simp (config := { implicitDefEqProofs := false }) only [← u2_app t, u2_len, e1, g_bind_ok, g_bind_err, g_toS_ok, g_toS_err, g_var, g_c, g_op, g_op1, g_1, g_B, g_unB, g_test, g_and, g_or, g_not, g_kand_t, g_kand_f, g_kor_t, g_kor_f, g_knot, g_andV, g_orV, g_kandV_t, g_kandV_f, g_korV_t, g_korV_f, g_notV, g_kNotV, g_kNV, g_orT, g_kOrT, g_kOrT_t, g_kOrT_f, g_tru_bl, g_chain, g_ch1, g_ch2, g_ch3_t, g_ch3_f, g_if, g_kif_t, g_kif_f, g_nil, g_cons, g_cons1, g_cons2, g_lst, g_tup, g_allD_nil, g_allD_cons, kTup0, kTup1, kTup2, kTup3, kTup4, kLst0, kLst1, kLst2, kLst3, g_newF, g_newT, g_call, g_sl, g_sl0, g_sl1, g_sl2, g_noP, g_part, g_kPart, g_frz, g_app, g_seq, g_seq_next, g_seq_ret, g_seq_err, g_seq_brk, g_seq_cnt, g_skip, g_ret, g_kRet, g_drop, g_kDrop, g_ifS, g_kIfS_t, g_kIfS_f, g_asg, g_kAsg, g_kAsg2, g_kAsg3, g_for, g_kFor, g_lc, g_seqI, g_itemsL, g_itemsT, g_rng1, g_revR1, g_enum, g_kEnum, g_wipe, g_wipe_next, g_wipe_ret, g_wipe_err, g_addI, g_subI, g_ltI, g_leI, g_gtI, g_geI, g_eqI, g_neI, g_eqS, g_neS, g_eqB, g_neB, g_neg, g_intI, g_intB, g_lenT, g_lenL, g_isN, g_yes, g_truL, g_truI, g_isNon_tup, g_isNon_non, g_slT, g_slL, g_slS, g_listL, g_listT, g_tupleL, g_raise, g_raiseA, g_kRaise1, g_kRaise2, g_setF, g_kSetF, g_make, g_meth, g_kMeth2, g_fld, g_kFldD, g_tryA, g_tryA_next, g_tryA_ret, g_cast0, g_cast1, g_cast2, g_cast3, g_cast4, g_cast5, g_cast6, g_cast7, g_cast8, g_cast9, g_cast10, g_cast11, g_cast12, g_cast13, lk, List.set_cons_zero, List.set_cons_succ, Bool.not_true, Bool.not_false, decide_true, decide_false, Int.reduceEq, Int.reduceLT, Int.reduceLE, Int.reduceSub, Int.reduceAdd, Int.reduceNeg, Int.reduceToNat, Int.reduceNe, Nat.reduceAdd, Nat.reduceLT, Nat.reduceLeDiff, eq_self, if_true, if_false, str_eq, String.reduceEq, isTy, String.reduceBEq, Bool.true_or, Bool.false_or, Bool.or_true, Bool.or_false, Bool.and_true, Bool.true_and, Bool.and_false, Bool.false_and, fIsi, fIsi2, kindOf, List.set_set, List.length_cons, List.length_nil, wipeE, beq_self_eq_true]
  have fin : ∀ (z : Int) (ks : List Int), ks.length = N → 0 ≤ z → z ≤ 10 → ∃ (l : List Stt) (ks' : List Int) (r' : Int), trunc S.length (ofOut ((loop (.nm 7) (mWipe [7] (mIfS (mB (mOp fGt (mOp fIx (mVar 2) (mC (.int 0))) (mC (.int 0)))) (mDrop (mApp (mVar 5) (mCall (m_L_faulty_thing n) (mCons (mVar 0) (mCons (mVar 1) (mCons (mVar 2) (mCons (mVar 3) (mCons (mVar 4) mNil)))))))) mSkip)) (rngD 0 z.toNat) [some (.cel p), some (.dat (.int lv)), some (.cel q), some (.dat (.int many)), some (.dat (.int bad)), some (.cel S.length), some (.dat (.int z)), none] (upd2 (S ++ [.lst []]) p q ks [r])).seq (mRet (mFrz (mVar 5))))) =
      .ok (.dat (.lst (dsOf l))) (upd2 S p q ks' [r']) ∧ OkL many l (5 - lv.toNat) ∧ ks'.length = N := fun z ks hk z0 z10 => by
    obtain ⟨l, ks', r', e, a, b⟩ := list_loop ih (z := some (.dat (.int z))) t ls h0 h5 m1 m3 b1 b6 (by omega) (rngD 0 z.toNat) [] ks r hk trivial (by simp [rngD]; omega)
    have hat : (upd2 (S ++ [.lst (dsOf l)]) p q ks' [r'])[S.length]? = some (.lst (dsOf l)) := by rw [u2_app t, ← u2_len (S := S) (p := p) (q := q) (ks := ks') (rs := [r'])]; simp
    have hset : (upd2 (S ++ [.lst (dsOf l)]) p q ks' [r']).set S.length .dead = upd2 S p q ks' [r'] ++ [.dead] := by
      rw [u2_app t, ← u2_len (S := S) (p := p) (q := q) (ks := ks') (rs := [r'])]; simp
    rw [show (S ++ [Cell.lst []]) = S ++ [Cell.lst (dsOf [])] from rfl, e]
    simp (config := { implicitDefEqProofs := false }) only [g_kFrz hat, hset, g_bind_ok, g_bind_err, g_toS_ok, g_toS_err, g_var, g_c, g_op, g_op1, g_1, g_B, g_unB, g_test, g_and, g_or, g_not, g_kand_t, g_kand_f, g_kor_t, g_kor_f, g_knot, g_andV, g_orV, g_kandV_t, g_kandV_f, g_korV_t, g_korV_f, g_notV, g_kNotV, g_kNV, g_orT, g_kOrT, g_kOrT_t, g_kOrT_f, g_tru_bl, g_chain, g_ch1, g_ch2, g_ch3_t, g_ch3_f, g_if, g_kif_t, g_kif_f, g_nil, g_cons, g_cons1, g_cons2, g_lst, g_tup, g_allD_nil, g_allD_cons, kTup0, kTup1, kTup2, kTup3, kTup4, kLst0, kLst1, kLst2, kLst3, g_newF, g_newT, g_call, g_sl, g_sl0, g_sl1, g_sl2, g_noP, g_part, g_kPart, g_frz, g_app, g_seq, g_seq_next, g_seq_ret, g_seq_err, g_seq_brk, g_seq_cnt, g_skip, g_ret, g_kRet, g_drop, g_kDrop, g_ifS, g_kIfS_t, g_kIfS_f, g_asg, g_kAsg, g_kAsg2, g_kAsg3, g_for, g_kFor, g_lc, g_seqI, g_itemsL, g_itemsT, g_rng1, g_revR1, g_enum, g_kEnum, g_wipe, g_wipe_next, g_wipe_ret, g_wipe_err, g_addI, g_subI, g_ltI, g_leI, g_gtI, g_geI, g_eqI, g_neI, g_eqS, g_neS, g_eqB, g_neB, g_neg, g_intI, g_intB, g_lenT, g_lenL, g_isN, g_yes, g_truL, g_truI, g_isNon_tup, g_isNon_non, g_slT, g_slL, g_slS, g_listL, g_listT, g_tupleL, g_raise, g_raiseA, g_kRaise1, g_kRaise2, g_setF, g_kSetF, g_make, g_meth, g_kMeth2, g_fld, g_kFldD, g_tryA, g_tryA_next, g_tryA_ret, g_cast0, g_cast1, g_cast2, g_cast3, g_cast4, g_cast5, g_cast6, g_cast7, g_cast8, g_cast9, g_cast10, g_cast11, g_cast12, g_cast13, lk, List.set_cons_zero, List.set_cons_succ, Bool.not_true, Bool.not_false, decide_true, decide_false, Int.reduceEq, Int.reduceLT, Int.reduceLE, Int.reduceSub, Int.reduceAdd, Int.reduceNeg, Int.reduceToNat, Int.reduceNe, Nat.reduceAdd, Nat.reduceLT, Nat.reduceLeDiff, eq_self, if_true, if_false, str_eq, String.reduceEq, isTy, String.reduceBEq, Bool.true_or, Bool.false_or, Bool.or_true, Bool.or_false, Bool.and_true, Bool.true_and, Bool.and_false, Bool.false_and, fIsi, fIsi2, kindOf, List.set_set, List.length_cons, List.length_nil, wipeE, beq_self_eq_true]
    exact ⟨l, ks', r', trunc_ok ls.u2 (by rw [u2_len]), a, b⟩
  by_cases h7 : 7 < d
  · simp (config := { implicitDefEqProofs := false }) only [decide_eq_true h7, e2, g_mulI (show IntMulOk 7 d' from mulL (by decide) (by decide)), g_kRng1 (show -(2 ^ 62) ≤ d - 7 * d' by omega) (show d - 7 * d' < 2 ^ 62 by omega), g_bind_ok, g_bind_err, g_toS_ok, g_toS_err, g_var, g_c, g_op, g_op1, g_1, g_B, g_unB, g_test, g_and, g_or, g_not, g_kand_t, g_kand_f, g_kor_t, g_kor_f, g_knot, g_andV, g_orV, g_kandV_t, g_kandV_f, g_korV_t, g_korV_f, g_notV, g_kNotV, g_kNV, g_orT, g_kOrT, g_kOrT_t, g_kOrT_f, g_tru_bl, g_chain, g_ch1, g_ch2, g_ch3_t, g_ch3_f, g_if, g_kif_t, g_kif_f, g_nil, g_cons, g_cons1, g_cons2, g_lst, g_tup, g_allD_nil, g_allD_cons, kTup0, kTup1, kTup2, kTup3, kTup4, kLst0, kLst1, kLst2, kLst3, g_newF, g_newT, g_call, g_sl, g_sl0, g_sl1, g_sl2, g_noP, g_part, g_kPart, g_frz, g_app, g_seq, g_seq_next, g_seq_ret, g_seq_err, g_seq_brk, g_seq_cnt, g_skip, g_ret, g_kRet, g_drop, g_kDrop, g_ifS, g_kIfS_t, g_kIfS_f, g_asg, g_kAsg, g_kAsg2, g_kAsg3, g_for, g_kFor, g_lc, g_seqI, g_itemsL, g_itemsT, g_rng1, g_revR1, g_enum, g_kEnum, g_wipe, g_wipe_next, g_wipe_ret, g_wipe_err, g_addI, g_subI, g_ltI, g_leI, g_gtI, g_geI, g_eqI, g_neI, g_eqS, g_neS, g_eqB, g_neB, g_neg, g_intI, g_intB, g_lenT, g_lenL, g_isN, g_yes, g_truL, g_truI, g_isNon_tup, g_isNon_non, g_slT, g_slL, g_slS, g_listL, g_listT, g_tupleL, g_raise, g_raiseA, g_kRaise1, g_kRaise2, g_setF, g_kSetF, g_make, g_meth, g_kMeth2, g_fld, g_kFldD, g_tryA, g_tryA_next, g_tryA_ret, g_cast0, g_cast1, g_cast2, g_cast3, g_cast4, g_cast5, g_cast6, g_cast7, g_cast8, g_cast9, g_cast10, g_cast11, g_cast12, g_cast13, lk, List.set_cons_zero, List.set_cons_succ, Bool.not_true, Bool.not_false, decide_true, decide_false, Int.reduceEq, Int.reduceLT, Int.reduceLE, Int.reduceSub, Int.reduceAdd, Int.reduceNeg, Int.reduceToNat, Int.reduceNe, Nat.reduceAdd, Nat.reduceLT, Nat.reduceLeDiff, eq_self, if_true, if_false, str_eq, String.reduceEq, isTy, String.reduceBEq, Bool.true_or, Bool.false_or, Bool.or_true, Bool.or_false, Bool.and_true, Bool.true_and, Bool.and_false, Bool.false_and, fIsi, fIsi2, kindOf, List.set_set, List.length_cons, List.length_nil, wipeE, beq_self_eq_true]
    exact fin _ k2 l2 (by omega) (by omega)
  · simp (config := { implicitDefEqProofs := false }) only [decide_eq_false h7, g_kRng1 (show -(2 ^ 62) ≤ d by omega) (show d < 2 ^ 62 by omega), g_bind_ok, g_bind_err, g_toS_ok, g_toS_err, g_var, g_c, g_op, g_op1, g_1, g_B, g_unB, g_test, g_and, g_or, g_not, g_kand_t, g_kand_f, g_kor_t, g_kor_f, g_knot, g_andV, g_orV, g_kandV_t, g_kandV_f, g_korV_t, g_korV_f, g_notV, g_kNotV, g_kNV, g_orT, g_kOrT, g_kOrT_t, g_kOrT_f, g_tru_bl, g_chain, g_ch1, g_ch2, g_ch3_t, g_ch3_f, g_if, g_kif_t, g_kif_f, g_nil, g_cons, g_cons1, g_cons2, g_lst, g_tup, g_allD_nil, g_allD_cons, kTup0, kTup1, kTup2, kTup3, kTup4, kLst0, kLst1, kLst2, kLst3, g_newF, g_newT, g_call, g_sl, g_sl0, g_sl1, g_sl2, g_noP, g_part, g_kPart, g_frz, g_app, g_seq, g_seq_next, g_seq_ret, g_seq_err, g_seq_brk, g_seq_cnt, g_skip, g_ret, g_kRet, g_drop, g_kDrop, g_ifS, g_kIfS_t, g_kIfS_f, g_asg, g_kAsg, g_kAsg2, g_kAsg3, g_for, g_kFor, g_lc, g_seqI, g_itemsL, g_itemsT, g_rng1, g_revR1, g_enum, g_kEnum, g_wipe, g_wipe_next, g_wipe_ret, g_wipe_err, g_addI, g_subI, g_ltI, g_leI, g_gtI, g_geI, g_eqI, g_neI, g_eqS, g_neS, g_eqB, g_neB, g_neg, g_intI, g_intB, g_lenT, g_lenL, g_isN, g_yes, g_truL, g_truI, g_isNon_tup, g_isNon_non, g_slT, g_slL, g_slS, g_listL, g_listT, g_tupleL, g_raise, g_raiseA, g_kRaise1, g_kRaise2, g_setF, g_kSetF, g_make, g_meth, g_kMeth2, g_fld, g_kFldD, g_tryA, g_tryA_next, g_tryA_ret, g_cast0, g_cast1, g_cast2, g_cast3, g_cast4, g_cast5, g_cast6, g_cast7, g_cast8, g_cast9, g_cast10, g_cast11, g_cast12, g_cast13, lk, List.set_cons_zero, List.set_cons_succ, Bool.not_true, Bool.not_false, decide_true, decide_false, Int.reduceEq, Int.reduceLT, Int.reduceLE, Int.reduceSub, Int.reduceAdd, Int.reduceNeg, Int.reduceToNat, Int.reduceNe, Nat.reduceAdd, Nat.reduceLT, Nat.reduceLeDiff, eq_self, if_true, if_false, str_eq, String.reduceEq, isTy, String.reduceBEq, Bool.true_or, Bool.false_or, Bool.or_true, Bool.or_false, Bool.and_true, Bool.true_and, Bool.and_false, Bool.false_and, fIsi, fIsi2, kindOf, List.set_set, List.length_cons, List.length_nil, wipeE, beq_self_eq_true]
    exact fin _ k1 l1 d0 (by omega)
theorem faulty_ok : ∀ n, ListOk n ∧ ThingOk n
  | 0 => ⟨fun _ _ _ _ _ _ _ _ _ h => by omega, fun _ _ _ _ _ _ _ _ _ h => by omega⟩
  | n + 1 => ⟨list_of (faulty_ok n).2, thing_of (faulty_ok n).1⟩
end PH

namespace PH
open PySem PySem.Spec PyProof.Rows L2
theorem isint_int {i : Int} {S : Sto} : m_is_integer [.dat (.int i)] S = .ok (.dat (.bl true)) S := by
  rw [show m_is_integer [.dat (.int i)] S = ofOut (b_is_integer [some (.dat (.int i))] S) from rfl]
  unfold b_is_integer
  simp (config := { implicitDefEqProofs := false }) only [g_bind_ok, g_bind_err, g_toS_ok, g_toS_err, g_var, g_c, g_op, g_op1, g_1, g_B, g_unB, g_test, g_and, g_or, g_not, g_kand_t, g_kand_f, g_kor_t, g_kor_f, g_knot, g_andV, g_orV, g_kandV_t, g_kandV_f, g_korV_t, g_korV_f, g_notV, g_kNotV, g_kNV, g_orT, g_kOrT, g_kOrT_t, g_kOrT_f, g_tru_bl, g_chain, g_ch1, g_ch2, g_ch3_t, g_ch3_f, g_if, g_kif_t, g_kif_f, g_nil, g_cons, g_cons1, g_cons2, g_lst, g_tup, g_allD_nil, g_allD_cons, kTup0, kTup1, kTup2, kTup3, kTup4, kLst0, kLst1, kLst2, kLst3, g_newF, g_newT, g_call, g_sl, g_sl0, g_sl1, g_sl2, g_noP, g_part, g_kPart, g_frz, g_app, g_seq, g_seq_next, g_seq_ret, g_seq_err, g_seq_brk, g_seq_cnt, g_skip, g_ret, g_kRet, g_drop, g_kDrop, g_ifS, g_kIfS_t, g_kIfS_f, g_asg, g_kAsg, g_kAsg2, g_kAsg3, g_for, g_kFor, g_lc, g_seqI, g_itemsL, g_itemsT, g_rng1, g_revR1, g_enum, g_kEnum, g_wipe, g_wipe_next, g_wipe_ret, g_wipe_err, g_addI, g_subI, g_ltI, g_leI, g_gtI, g_geI, g_eqI, g_neI, g_eqS, g_neS, g_eqB, g_neB, g_neg, g_intI, g_intB, g_lenT, g_lenL, g_isN, g_yes, g_truL, g_truI, g_isNon_tup, g_isNon_non, g_slT, g_slL, g_slS, g_listL, g_listT, g_tupleL, g_raise, g_raiseA, g_kRaise1, g_kRaise2, g_setF, g_kSetF, g_make, g_meth, g_kMeth2, g_fld, g_kFldD, g_tryA, g_tryA_next, g_tryA_ret, g_cast0, g_cast1, g_cast2, g_cast3, g_cast4, g_cast5, g_cast6, g_cast7, g_cast8, g_cast9, g_cast10, g_cast11, g_cast12, g_cast13, lk, List.set_cons_zero, List.set_cons_succ, Bool.not_true, Bool.not_false, decide_true, decide_false, Int.reduceEq, Int.reduceLT, Int.reduceLE, Int.reduceSub, Int.reduceAdd, Int.reduceNeg, Int.reduceToNat, Int.reduceNe, Nat.reduceAdd, Nat.reduceLT, Nat.reduceLeDiff, eq_self, if_true, if_false, str_eq, String.reduceEq, isTy, String.reduceBEq, Bool.true_or, Bool.false_or, Bool.or_true, Bool.or_false, Bool.and_true, Bool.true_and, Bool.and_false, Bool.false_and, fIsi, fIsi2, kindOf, List.set_set, List.length_cons, List.length_nil, wipeE, beq_self_eq_true]
  rfl
theorem isbit_int {i : Int} {S : Sto} : m_is_bit [.dat (.int i)] S = .ok (.dat (.bl (decide (0 ≤ i) && decide (i ≤ 1)))) S := by
  rw [show m_is_bit [.dat (.int i)] S = ofOut (b_is_bit [some (.dat (.int i))] S) from rfl]
  unfold b_is_bit
  simp (config := { implicitDefEqProofs := false }) only [isint_int, g_bind_ok, g_bind_err, g_toS_ok, g_toS_err, g_var, g_c, g_op, g_op1, g_1, g_B, g_unB, g_test, g_and, g_or, g_not, g_kand_t, g_kand_f, g_kor_t, g_kor_f, g_knot, g_andV, g_orV, g_kandV_t, g_kandV_f, g_korV_t, g_korV_f, g_notV, g_kNotV, g_kNV, g_orT, g_kOrT, g_kOrT_t, g_kOrT_f, g_tru_bl, g_chain, g_ch1, g_ch2, g_ch3_t, g_ch3_f, g_if, g_kif_t, g_kif_f, g_nil, g_cons, g_cons1, g_cons2, g_lst, g_tup, g_allD_nil, g_allD_cons, kTup0, kTup1, kTup2, kTup3, kTup4, kLst0, kLst1, kLst2, kLst3, g_newF, g_newT, g_call, g_sl, g_sl0, g_sl1, g_sl2, g_noP, g_part, g_kPart, g_frz, g_app, g_seq, g_seq_next, g_seq_ret, g_seq_err, g_seq_brk, g_seq_cnt, g_skip, g_ret, g_kRet, g_drop, g_kDrop, g_ifS, g_kIfS_t, g_kIfS_f, g_asg, g_kAsg, g_kAsg2, g_kAsg3, g_for, g_kFor, g_lc, g_seqI, g_itemsL, g_itemsT, g_rng1, g_revR1, g_enum, g_kEnum, g_wipe, g_wipe_next, g_wipe_ret, g_wipe_err, g_addI, g_subI, g_ltI, g_leI, g_gtI, g_geI, g_eqI, g_neI, g_eqS, g_neS, g_eqB, g_neB, g_neg, g_intI, g_intB, g_lenT, g_lenL, g_isN, g_yes, g_truL, g_truI, g_isNon_tup, g_isNon_non, g_slT, g_slL, g_slS, g_listL, g_listT, g_tupleL, g_raise, g_raiseA, g_kRaise1, g_kRaise2, g_setF, g_kSetF, g_make, g_meth, g_kMeth2, g_fld, g_kFldD, g_tryA, g_tryA_next, g_tryA_ret, g_cast0, g_cast1, g_cast2, g_cast3, g_cast4, g_cast5, g_cast6, g_cast7, g_cast8, g_cast9, g_cast10, g_cast11, g_cast12, g_cast13, lk, List.set_cons_zero, List.set_cons_succ, Bool.not_true, Bool.not_false, decide_true, decide_false, Int.reduceEq, Int.reduceLT, Int.reduceLE, Int.reduceSub, Int.reduceAdd, Int.reduceNeg, Int.reduceToNat, Int.reduceNe, Nat.reduceAdd, Nat.reduceLT, Nat.reduceLeDiff, eq_self, if_true, if_false, str_eq, String.reduceEq, isTy, String.reduceBEq, Bool.true_or, Bool.false_or, Bool.or_true, Bool.or_false, Bool.and_true, Bool.true_and, Bool.and_false, Bool.false_and, fIsi, fIsi2, kindOf, List.set_set, List.length_cons, List.length_nil, wipeE, beq_self_eq_true]
  by_cases h : 0 ≤ i
  · simp (config := { implicitDefEqProofs := false }) only [decide_eq_true h, g_bind_ok, g_bind_err, g_toS_ok, g_toS_err, g_var, g_c, g_op, g_op1, g_1, g_B, g_unB, g_test, g_and, g_or, g_not, g_kand_t, g_kand_f, g_kor_t, g_kor_f, g_knot, g_andV, g_orV, g_kandV_t, g_kandV_f, g_korV_t, g_korV_f, g_notV, g_kNotV, g_kNV, g_orT, g_kOrT, g_kOrT_t, g_kOrT_f, g_tru_bl, g_chain, g_ch1, g_ch2, g_ch3_t, g_ch3_f, g_if, g_kif_t, g_kif_f, g_nil, g_cons, g_cons1, g_cons2, g_lst, g_tup, g_allD_nil, g_allD_cons, kTup0, kTup1, kTup2, kTup3, kTup4, kLst0, kLst1, kLst2, kLst3, g_newF, g_newT, g_call, g_sl, g_sl0, g_sl1, g_sl2, g_noP, g_part, g_kPart, g_frz, g_app, g_seq, g_seq_next, g_seq_ret, g_seq_err, g_seq_brk, g_seq_cnt, g_skip, g_ret, g_kRet, g_drop, g_kDrop, g_ifS, g_kIfS_t, g_kIfS_f, g_asg, g_kAsg, g_kAsg2, g_kAsg3, g_for, g_kFor, g_lc, g_seqI, g_itemsL, g_itemsT, g_rng1, g_revR1, g_enum, g_kEnum, g_wipe, g_wipe_next, g_wipe_ret, g_wipe_err, g_addI, g_subI, g_ltI, g_leI, g_gtI, g_geI, g_eqI, g_neI, g_eqS, g_neS, g_eqB, g_neB, g_neg, g_intI, g_intB, g_lenT, g_lenL, g_isN, g_yes, g_truL, g_truI, g_isNon_tup, g_isNon_non, g_slT, g_slL, g_slS, g_listL, g_listT, g_tupleL, g_raise, g_raiseA, g_kRaise1, g_kRaise2, g_setF, g_kSetF, g_make, g_meth, g_kMeth2, g_fld, g_kFldD, g_tryA, g_tryA_next, g_tryA_ret, g_cast0, g_cast1, g_cast2, g_cast3, g_cast4, g_cast5, g_cast6, g_cast7, g_cast8, g_cast9, g_cast10, g_cast11, g_cast12, g_cast13, lk, List.set_cons_zero, List.set_cons_succ, Bool.not_true, Bool.not_false, decide_true, decide_false, Int.reduceEq, Int.reduceLT, Int.reduceLE, Int.reduceSub, Int.reduceAdd, Int.reduceNeg, Int.reduceToNat, Int.reduceNe, Nat.reduceAdd, Nat.reduceLT, Nat.reduceLeDiff, eq_self, if_true, if_false, str_eq, String.reduceEq, isTy, String.reduceBEq, Bool.true_or, Bool.false_or, Bool.or_true, Bool.or_false, Bool.and_true, Bool.true_and, Bool.and_false, Bool.false_and, fIsi, fIsi2, kindOf, List.set_set, List.length_cons, List.length_nil, wipeE, beq_self_eq_true]; rfl
  · simp (config := { implicitDefEqProofs := false }) only [decide_eq_false h, g_bind_ok, g_bind_err, g_toS_ok, g_toS_err, g_var, g_c, g_op, g_op1, g_1, g_B, g_unB, g_test, g_and, g_or, g_not, g_kand_t, g_kand_f, g_kor_t, g_kor_f, g_knot, g_andV, g_orV, g_kandV_t, g_kandV_f, g_korV_t, g_korV_f, g_notV, g_kNotV, g_kNV, g_orT, g_kOrT, g_kOrT_t, g_kOrT_f, g_tru_bl, g_chain, g_ch1, g_ch2, g_ch3_t, g_ch3_f, g_if, g_kif_t, g_kif_f, g_nil, g_cons, g_cons1, g_cons2, g_lst, g_tup, g_allD_nil, g_allD_cons, kTup0, kTup1, kTup2, kTup3, kTup4, kLst0, kLst1, kLst2, kLst3, g_newF, g_newT, g_call, g_sl, g_sl0, g_sl1, g_sl2, g_noP, g_part, g_kPart, g_frz, g_app, g_seq, g_seq_next, g_seq_ret, g_seq_err, g_seq_brk, g_seq_cnt, g_skip, g_ret, g_kRet, g_drop, g_kDrop, g_ifS, g_kIfS_t, g_kIfS_f, g_asg, g_kAsg, g_kAsg2, g_kAsg3, g_for, g_kFor, g_lc, g_seqI, g_itemsL, g_itemsT, g_rng1, g_revR1, g_enum, g_kEnum, g_wipe, g_wipe_next, g_wipe_ret, g_wipe_err, g_addI, g_subI, g_ltI, g_leI, g_gtI, g_geI, g_eqI, g_neI, g_eqS, g_neS, g_eqB, g_neB, g_neg, g_intI, g_intB, g_lenT, g_lenL, g_isN, g_yes, g_truL, g_truI, g_isNon_tup, g_isNon_non, g_slT, g_slL, g_slS, g_listL, g_listT, g_tupleL, g_raise, g_raiseA, g_kRaise1, g_kRaise2, g_setF, g_kSetF, g_make, g_meth, g_kMeth2, g_fld, g_kFldD, g_tryA, g_tryA_next, g_tryA_ret, g_cast0, g_cast1, g_cast2, g_cast3, g_cast4, g_cast5, g_cast6, g_cast7, g_cast8, g_cast9, g_cast10, g_cast11, g_cast12, g_cast13, lk, List.set_cons_zero, List.set_cons_succ, Bool.not_true, Bool.not_false, decide_true, decide_false, Int.reduceEq, Int.reduceLT, Int.reduceLE, Int.reduceSub, Int.reduceAdd, Int.reduceNeg, Int.reduceToNat, Int.reduceNe, Nat.reduceAdd, Nat.reduceLT, Nat.reduceLeDiff, eq_self, if_true, if_false, str_eq, String.reduceEq, isTy, String.reduceBEq, Bool.true_or, Bool.false_or, Bool.or_true, Bool.or_false, Bool.and_true, Bool.true_and, Bool.and_false, Bool.false_and, fIsi, fIsi2, kindOf, List.set_set, List.length_cons, List.length_nil, wipeE, beq_self_eq_true]; rfl
theorem lim_go {S : Sto} : fLim (.dat (.str "go")) S = .ok (.dat (.tup [.int 1, .int (-9), .int 9])) S := rfl
theorem inl_go {S : Sto} : fInLim true (.dat (.str "go")) S = .ok (.dat (.bl false)) S := rfl
theorem lim_turn {S : Sto} : fLim (.dat (.str "turn")) S = .ok (.dat (.tup [.int 1, .int 1, .int 3])) S := rfl
theorem inl_turn {S : Sto} : fInLim true (.dat (.str "turn")) S = .ok (.dat (.bl false)) S := rfl
theorem lim_mirror {S : Sto} : fLim (.dat (.str "mirror")) S = .ok (.dat (.tup [.int 0, .int 0, .int 0])) S := rfl
theorem inl_mirror {S : Sto} : fInLim true (.dat (.str "mirror")) S = .ok (.dat (.bl false)) S := rfl
theorem lim_scale {S : Sto} : fLim (.dat (.str "scale")) S = .ok (.dat (.tup [.int 1, .int (-3), .int 3])) S := rfl
theorem inl_scale {S : Sto} : fInLim true (.dat (.str "scale")) S = .ok (.dat (.bl false)) S := rfl
theorem lim_aim {S : Sto} : fLim (.dat (.str "aim")) S = .ok (.dat (.tup [.int 2, .int (-9), .int 9])) S := rfl
theorem inl_aim {S : Sto} : fInLim true (.dat (.str "aim")) S = .ok (.dat (.bl false)) S := rfl
theorem lim_place {S : Sto} : fLim (.dat (.str "place")) S = .ok (.dat (.tup [.int 2, .int (-9), .int 9])) S := rfl
theorem inl_place {S : Sto} : fInLim true (.dat (.str "place")) S = .ok (.dat (.bl false)) S := rfl
theorem lim_mark {S : Sto} : fLim (.dat (.str "mark")) S = .ok (.dat (.tup [.int 0, .int 0, .int 0])) S := rfl
theorem inl_mark {S : Sto} : fInLim true (.dat (.str "mark")) S = .ok (.dat (.bl false)) S := rfl
theorem lim_return {S : Sto} : fLim (.dat (.str "return")) S = .ok (.dat (.tup [.int 0, .int 0, .int 0])) S := rfl
theorem inl_return {S : Sto} : fInLim true (.dat (.str "return")) S = .ok (.dat (.bl false)) S := rfl
theorem lim_exchange {S : Sto} : fLim (.dat (.str "exchange")) S = .ok (.dat (.tup [.int 0, .int 0, .int 0])) S := rfl
theorem inl_exchange {S : Sto} : fInLim true (.dat (.str "exchange")) S = .ok (.dat (.bl false)) S := rfl
theorem inl_end {S : Sto} : fInLim true (.dat (.str "end")) S = .ok (.dat (.bl true)) S := rfl
theorem inl_keep {S : Sto} : fInLim true (.dat (.str "keep")) S = .ok (.dat (.bl true)) S := rfl
theorem inl_again {S : Sto} : fInLim true (.dat (.str "again")) S = .ok (.dat (.bl true)) S := rfl
theorem inl_either {S : Sto} : fInLim true (.dat (.str "either")) S = .ok (.dat (.bl true)) S := rfl
theorem inl_call {S : Sto} : fInLim true (.dat (.str "call")) S = .ok (.dat (.bl true)) S := rfl
theorem inl_bad {S : Sto} : fInLim true (.dat (.str "bad")) S = .ok (.dat (.bl true)) S := rfl
theorem cut1 {x : D} {r : List D} : cutD (x :: r) (some 1) none = r := by
  unfold cutD
  rw [HT.sIx_none, show ((1 : Int)) = ((1 : Nat) : Int) from rfl, HT.sIx_nat]
  simp
theorem all_nil {S : Sto} : fAll (.dat (.lst [])) S = .ok (.dat (.bl true)) S := rfl
theorem all_1 {a : Bool} {S : Sto} : fAll (.dat (.lst [.bl a])) S = .ok (.dat (.bl a)) S := by cases a <;> rfl
theorem all_2 {a b : Bool} {S : Sto} : fAll (.dat (.lst [.bl a, .bl b])) S = .ok (.dat (.bl (a && b))) S := by cases a <;> cases b <;> rfl
/-- the number within its bounds, as the comprehension asks it -/
theorem inb {i lo hi : Int} {S : Sto} {a b : Option Vl} : (mAndV (mCall m_is_integer (mCons (mVar 4) mNil)) (mChain fLe fLe (mVar 2) (mVar 4) (mVar 3))) [a, b, some (.dat (.int lo)), some (.dat (.int hi)), some (.dat (.int i))] S = .ok (.dat (.bl (decide (lo ≤ i) && decide (i ≤ hi)))) S := by
  simp (config := { implicitDefEqProofs := false }) only [isint_int, g_bind_ok, g_bind_err, g_toS_ok, g_toS_err, g_var, g_c, g_op, g_op1, g_1, g_B, g_unB, g_test, g_and, g_or, g_not, g_kand_t, g_kand_f, g_kor_t, g_kor_f, g_knot, g_andV, g_orV, g_kandV_t, g_kandV_f, g_korV_t, g_korV_f, g_notV, g_kNotV, g_kNV, g_orT, g_kOrT, g_kOrT_t, g_kOrT_f, g_tru_bl, g_chain, g_ch1, g_ch2, g_ch3_t, g_ch3_f, g_if, g_kif_t, g_kif_f, g_nil, g_cons, g_cons1, g_cons2, g_lst, g_tup, g_allD_nil, g_allD_cons, kTup0, kTup1, kTup2, kTup3, kTup4, kLst0, kLst1, kLst2, kLst3, g_newF, g_newT, g_call, g_sl, g_sl0, g_sl1, g_sl2, g_noP, g_part, g_kPart, g_frz, g_app, g_seq, g_seq_next, g_seq_ret, g_seq_err, g_seq_brk, g_seq_cnt, g_skip, g_ret, g_kRet, g_drop, g_kDrop, g_ifS, g_kIfS_t, g_kIfS_f, g_asg, g_kAsg, g_kAsg2, g_kAsg3, g_for, g_kFor, g_lc, g_seqI, g_itemsL, g_itemsT, g_rng1, g_revR1, g_enum, g_kEnum, g_wipe, g_wipe_next, g_wipe_ret, g_wipe_err, g_addI, g_subI, g_ltI, g_leI, g_gtI, g_geI, g_eqI, g_neI, g_eqS, g_neS, g_eqB, g_neB, g_neg, g_intI, g_intB, g_lenT, g_lenL, g_isN, g_yes, g_truL, g_truI, g_isNon_tup, g_isNon_non, g_slT, g_slL, g_slS, g_listL, g_listT, g_tupleL, g_raise, g_raiseA, g_kRaise1, g_kRaise2, g_setF, g_kSetF, g_make, g_meth, g_kMeth2, g_fld, g_kFldD, g_tryA, g_tryA_next, g_tryA_ret, g_cast0, g_cast1, g_cast2, g_cast3, g_cast4, g_cast5, g_cast6, g_cast7, g_cast8, g_cast9, g_cast10, g_cast11, g_cast12, g_cast13, lk, List.set_cons_zero, List.set_cons_succ, Bool.not_true, Bool.not_false, decide_true, decide_false, Int.reduceEq, Int.reduceLT, Int.reduceLE, Int.reduceSub, Int.reduceAdd, Int.reduceNeg, Int.reduceToNat, Int.reduceNe, Nat.reduceAdd, Nat.reduceLT, Nat.reduceLeDiff, eq_self, if_true, if_false, str_eq, String.reduceEq, isTy, String.reduceBEq, Bool.true_or, Bool.false_or, Bool.or_true, Bool.or_false, Bool.and_true, Bool.true_and, Bool.and_false, Bool.false_and, fIsi, fIsi2, kindOf, List.set_set, List.length_cons, List.length_nil, wipeE, beq_self_eq_true]
  by_cases h : lo ≤ i
  · simp (config := { implicitDefEqProofs := false }) only [decide_eq_true h, g_bind_ok, g_bind_err, g_toS_ok, g_toS_err, g_var, g_c, g_op, g_op1, g_1, g_B, g_unB, g_test, g_and, g_or, g_not, g_kand_t, g_kand_f, g_kor_t, g_kor_f, g_knot, g_andV, g_orV, g_kandV_t, g_kandV_f, g_korV_t, g_korV_f, g_notV, g_kNotV, g_kNV, g_orT, g_kOrT, g_kOrT_t, g_kOrT_f, g_tru_bl, g_chain, g_ch1, g_ch2, g_ch3_t, g_ch3_f, g_if, g_kif_t, g_kif_f, g_nil, g_cons, g_cons1, g_cons2, g_lst, g_tup, g_allD_nil, g_allD_cons, kTup0, kTup1, kTup2, kTup3, kTup4, kLst0, kLst1, kLst2, kLst3, g_newF, g_newT, g_call, g_sl, g_sl0, g_sl1, g_sl2, g_noP, g_part, g_kPart, g_frz, g_app, g_seq, g_seq_next, g_seq_ret, g_seq_err, g_seq_brk, g_seq_cnt, g_skip, g_ret, g_kRet, g_drop, g_kDrop, g_ifS, g_kIfS_t, g_kIfS_f, g_asg, g_kAsg, g_kAsg2, g_kAsg3, g_for, g_kFor, g_lc, g_seqI, g_itemsL, g_itemsT, g_rng1, g_revR1, g_enum, g_kEnum, g_wipe, g_wipe_next, g_wipe_ret, g_wipe_err, g_addI, g_subI, g_ltI, g_leI, g_gtI, g_geI, g_eqI, g_neI, g_eqS, g_neS, g_eqB, g_neB, g_neg, g_intI, g_intB, g_lenT, g_lenL, g_isN, g_yes, g_truL, g_truI, g_isNon_tup, g_isNon_non, g_slT, g_slL, g_slS, g_listL, g_listT, g_tupleL, g_raise, g_raiseA, g_kRaise1, g_kRaise2, g_setF, g_kSetF, g_make, g_meth, g_kMeth2, g_fld, g_kFldD, g_tryA, g_tryA_next, g_tryA_ret, g_cast0, g_cast1, g_cast2, g_cast3, g_cast4, g_cast5, g_cast6, g_cast7, g_cast8, g_cast9, g_cast10, g_cast11, g_cast12, g_cast13, lk, List.set_cons_zero, List.set_cons_succ, Bool.not_true, Bool.not_false, decide_true, decide_false, Int.reduceEq, Int.reduceLT, Int.reduceLE, Int.reduceSub, Int.reduceAdd, Int.reduceNeg, Int.reduceToNat, Int.reduceNe, Nat.reduceAdd, Nat.reduceLT, Nat.reduceLeDiff, eq_self, if_true, if_false, str_eq, String.reduceEq, isTy, String.reduceBEq, Bool.true_or, Bool.false_or, Bool.or_true, Bool.or_false, Bool.and_true, Bool.true_and, Bool.and_false, Bool.false_and, fIsi, fIsi2, kindOf, List.set_set, List.length_cons, List.length_nil, wipeE, beq_self_eq_true]
  · simp (config := { implicitDefEqProofs := false }) only [decide_eq_false h, g_bind_ok, g_bind_err, g_toS_ok, g_toS_err, g_var, g_c, g_op, g_op1, g_1, g_B, g_unB, g_test, g_and, g_or, g_not, g_kand_t, g_kand_f, g_kor_t, g_kor_f, g_knot, g_andV, g_orV, g_kandV_t, g_kandV_f, g_korV_t, g_korV_f, g_notV, g_kNotV, g_kNV, g_orT, g_kOrT, g_kOrT_t, g_kOrT_f, g_tru_bl, g_chain, g_ch1, g_ch2, g_ch3_t, g_ch3_f, g_if, g_kif_t, g_kif_f, g_nil, g_cons, g_cons1, g_cons2, g_lst, g_tup, g_allD_nil, g_allD_cons, kTup0, kTup1, kTup2, kTup3, kTup4, kLst0, kLst1, kLst2, kLst3, g_newF, g_newT, g_call, g_sl, g_sl0, g_sl1, g_sl2, g_noP, g_part, g_kPart, g_frz, g_app, g_seq, g_seq_next, g_seq_ret, g_seq_err, g_seq_brk, g_seq_cnt, g_skip, g_ret, g_kRet, g_drop, g_kDrop, g_ifS, g_kIfS_t, g_kIfS_f, g_asg, g_kAsg, g_kAsg2, g_kAsg3, g_for, g_kFor, g_lc, g_seqI, g_itemsL, g_itemsT, g_rng1, g_revR1, g_enum, g_kEnum, g_wipe, g_wipe_next, g_wipe_ret, g_wipe_err, g_addI, g_subI, g_ltI, g_leI, g_gtI, g_geI, g_eqI, g_neI, g_eqS, g_neS, g_eqB, g_neB, g_neg, g_intI, g_intB, g_lenT, g_lenL, g_isN, g_yes, g_truL, g_truI, g_isNon_tup, g_isNon_non, g_slT, g_slL, g_slS, g_listL, g_listT, g_tupleL, g_raise, g_raiseA, g_kRaise1, g_kRaise2, g_setF, g_kSetF, g_make, g_meth, g_kMeth2, g_fld, g_kFldD, g_tryA, g_tryA_next, g_tryA_ret, g_cast0, g_cast1, g_cast2, g_cast3, g_cast4, g_cast5, g_cast6, g_cast7, g_cast8, g_cast9, g_cast10, g_cast11, g_cast12, g_cast13, lk, List.set_cons_zero, List.set_cons_succ, Bool.not_true, Bool.not_false, decide_true, decide_false, Int.reduceEq, Int.reduceLT, Int.reduceLE, Int.reduceSub, Int.reduceAdd, Int.reduceNeg, Int.reduceToNat, Int.reduceNe, Nat.reduceAdd, Nat.reduceLT, Nat.reduceLeDiff, eq_self, if_true, if_false, str_eq, String.reduceEq, isTy, String.reduceBEq, Bool.true_or, Bool.false_or, Bool.or_true, Bool.or_false, Bool.and_true, Bool.true_and, Bool.and_false, Bool.false_and, fIsi, fIsi2, kindOf, List.set_set, List.length_cons, List.length_nil, wipeE, beq_self_eq_true]
theorem sz {n : Nat} (h : n ≤ 1000) : n ≤ sizeLine := by show n ≤ 16777216; omega
theorem is_cmd {c : Cmd} {S : Sto} (h : c.Ok) : m_is_command [.dat c.d] S = .ok (.dat (.bl true)) S := by
  rw [show m_is_command [.dat c.d] S = ofOut (b_is_command [some (.dat c.d), none, none, none, none] S) from rfl]
  unfold b_is_command e_is_command_1
  cases c with
  | go k =>
    obtain ⟨h1, h2⟩ := h
    simp (config := { implicitDefEqProofs := false }) only [Cmd.d, ixT0, lim_go, inl_go, lim_turn, inl_turn, lim_mirror, inl_mirror, lim_scale, inl_scale, lim_aim, inl_aim, lim_place, inl_place, lim_mark, inl_mark, lim_return, inl_return, lim_exchange, inl_exchange, cut1, kLc, lcGo, tgF, isint_int, all_nil, all_1, all_2, decide_eq_true h1, decide_eq_true h2, sz, g_bind_ok, g_bind_err, g_toS_ok, g_toS_err, g_var, g_c, g_op, g_op1, g_1, g_B, g_unB, g_test, g_and, g_or, g_not, g_kand_t, g_kand_f, g_kor_t, g_kor_f, g_knot, g_andV, g_orV, g_kandV_t, g_kandV_f, g_korV_t, g_korV_f, g_notV, g_kNotV, g_kNV, g_orT, g_kOrT, g_kOrT_t, g_kOrT_f, g_tru_bl, g_chain, g_ch1, g_ch2, g_ch3_t, g_ch3_f, g_if, g_kif_t, g_kif_f, g_nil, g_cons, g_cons1, g_cons2, g_lst, g_tup, g_allD_nil, g_allD_cons, kTup0, kTup1, kTup2, kTup3, kTup4, kLst0, kLst1, kLst2, kLst3, g_newF, g_newT, g_call, g_sl, g_sl0, g_sl1, g_sl2, g_noP, g_part, g_kPart, g_frz, g_app, g_seq, g_seq_next, g_seq_ret, g_seq_err, g_seq_brk, g_seq_cnt, g_skip, g_ret, g_kRet, g_drop, g_kDrop, g_ifS, g_kIfS_t, g_kIfS_f, g_asg, g_kAsg, g_kAsg2, g_kAsg3, g_for, g_kFor, g_lc, g_seqI, g_itemsL, g_itemsT, g_rng1, g_revR1, g_enum, g_kEnum, g_wipe, g_wipe_next, g_wipe_ret, g_wipe_err, g_addI, g_subI, g_ltI, g_leI, g_gtI, g_geI, g_eqI, g_neI, g_eqS, g_neS, g_eqB, g_neB, g_neg, g_intI, g_intB, g_lenT, g_lenL, g_isN, g_yes, g_truL, g_truI, g_isNon_tup, g_isNon_non, g_slT, g_slL, g_slS, g_listL, g_listT, g_tupleL, g_raise, g_raiseA, g_kRaise1, g_kRaise2, g_setF, g_kSetF, g_make, g_meth, g_kMeth2, g_fld, g_kFldD, g_tryA, g_tryA_next, g_tryA_ret, g_cast0, g_cast1, g_cast2, g_cast3, g_cast4, g_cast5, g_cast6, g_cast7, g_cast8, g_cast9, g_cast10, g_cast11, g_cast12, g_cast13, lk, List.set_cons_zero, List.set_cons_succ, Bool.not_true, Bool.not_false, decide_true, decide_false, Int.reduceEq, Int.reduceLT, Int.reduceLE, Int.reduceSub, Int.reduceAdd, Int.reduceNeg, Int.reduceToNat, Int.reduceNe, Nat.reduceAdd, Nat.reduceLT, Nat.reduceLeDiff, eq_self, if_true, if_false, str_eq, String.reduceEq, isTy, String.reduceBEq, Bool.true_or, Bool.false_or, Bool.or_true, Bool.or_false, Bool.and_true, Bool.true_and, Bool.and_false, Bool.false_and, fIsi, fIsi2, kindOf, List.set_set, List.length_cons, List.length_nil, wipeE, beq_self_eq_true]
    rfl
  | turn k =>
    obtain ⟨h1, h2⟩ := h
    simp (config := { implicitDefEqProofs := false }) only [Cmd.d, ixT0, lim_go, inl_go, lim_turn, inl_turn, lim_mirror, inl_mirror, lim_scale, inl_scale, lim_aim, inl_aim, lim_place, inl_place, lim_mark, inl_mark, lim_return, inl_return, lim_exchange, inl_exchange, cut1, kLc, lcGo, tgF, isint_int, all_nil, all_1, all_2, decide_eq_true h1, decide_eq_true h2, sz, g_bind_ok, g_bind_err, g_toS_ok, g_toS_err, g_var, g_c, g_op, g_op1, g_1, g_B, g_unB, g_test, g_and, g_or, g_not, g_kand_t, g_kand_f, g_kor_t, g_kor_f, g_knot, g_andV, g_orV, g_kandV_t, g_kandV_f, g_korV_t, g_korV_f, g_notV, g_kNotV, g_kNV, g_orT, g_kOrT, g_kOrT_t, g_kOrT_f, g_tru_bl, g_chain, g_ch1, g_ch2, g_ch3_t, g_ch3_f, g_if, g_kif_t, g_kif_f, g_nil, g_cons, g_cons1, g_cons2, g_lst, g_tup, g_allD_nil, g_allD_cons, kTup0, kTup1, kTup2, kTup3, kTup4, kLst0, kLst1, kLst2, kLst3, g_newF, g_newT, g_call, g_sl, g_sl0, g_sl1, g_sl2, g_noP, g_part, g_kPart, g_frz, g_app, g_seq, g_seq_next, g_seq_ret, g_seq_err, g_seq_brk, g_seq_cnt, g_skip, g_ret, g_kRet, g_drop, g_kDrop, g_ifS, g_kIfS_t, g_kIfS_f, g_asg, g_kAsg, g_kAsg2, g_kAsg3, g_for, g_kFor, g_lc, g_seqI, g_itemsL, g_itemsT, g_rng1, g_revR1, g_enum, g_kEnum, g_wipe, g_wipe_next, g_wipe_ret, g_wipe_err, g_addI, g_subI, g_ltI, g_leI, g_gtI, g_geI, g_eqI, g_neI, g_eqS, g_neS, g_eqB, g_neB, g_neg, g_intI, g_intB, g_lenT, g_lenL, g_isN, g_yes, g_truL, g_truI, g_isNon_tup, g_isNon_non, g_slT, g_slL, g_slS, g_listL, g_listT, g_tupleL, g_raise, g_raiseA, g_kRaise1, g_kRaise2, g_setF, g_kSetF, g_make, g_meth, g_kMeth2, g_fld, g_kFldD, g_tryA, g_tryA_next, g_tryA_ret, g_cast0, g_cast1, g_cast2, g_cast3, g_cast4, g_cast5, g_cast6, g_cast7, g_cast8, g_cast9, g_cast10, g_cast11, g_cast12, g_cast13, lk, List.set_cons_zero, List.set_cons_succ, Bool.not_true, Bool.not_false, decide_true, decide_false, Int.reduceEq, Int.reduceLT, Int.reduceLE, Int.reduceSub, Int.reduceAdd, Int.reduceNeg, Int.reduceToNat, Int.reduceNe, Nat.reduceAdd, Nat.reduceLT, Nat.reduceLeDiff, eq_self, if_true, if_false, str_eq, String.reduceEq, isTy, String.reduceBEq, Bool.true_or, Bool.false_or, Bool.or_true, Bool.or_false, Bool.and_true, Bool.true_and, Bool.and_false, Bool.false_and, fIsi, fIsi2, kindOf, List.set_set, List.length_cons, List.length_nil, wipeE, beq_self_eq_true]
    rfl
  | mirror => simp (config := { implicitDefEqProofs := false }) only [Cmd.d, ixT0, lim_go, inl_go, lim_turn, inl_turn, lim_mirror, inl_mirror, lim_scale, inl_scale, lim_aim, inl_aim, lim_place, inl_place, lim_mark, inl_mark, lim_return, inl_return, lim_exchange, inl_exchange, cut1, kLc, lcGo, tgF, isint_int, all_nil, sz, g_bind_ok, g_bind_err, g_toS_ok, g_toS_err, g_var, g_c, g_op, g_op1, g_1, g_B, g_unB, g_test, g_and, g_or, g_not, g_kand_t, g_kand_f, g_kor_t, g_kor_f, g_knot, g_andV, g_orV, g_kandV_t, g_kandV_f, g_korV_t, g_korV_f, g_notV, g_kNotV, g_kNV, g_orT, g_kOrT, g_kOrT_t, g_kOrT_f, g_tru_bl, g_chain, g_ch1, g_ch2, g_ch3_t, g_ch3_f, g_if, g_kif_t, g_kif_f, g_nil, g_cons, g_cons1, g_cons2, g_lst, g_tup, g_allD_nil, g_allD_cons, kTup0, kTup1, kTup2, kTup3, kTup4, kLst0, kLst1, kLst2, kLst3, g_newF, g_newT, g_call, g_sl, g_sl0, g_sl1, g_sl2, g_noP, g_part, g_kPart, g_frz, g_app, g_seq, g_seq_next, g_seq_ret, g_seq_err, g_seq_brk, g_seq_cnt, g_skip, g_ret, g_kRet, g_drop, g_kDrop, g_ifS, g_kIfS_t, g_kIfS_f, g_asg, g_kAsg, g_kAsg2, g_kAsg3, g_for, g_kFor, g_lc, g_seqI, g_itemsL, g_itemsT, g_rng1, g_revR1, g_enum, g_kEnum, g_wipe, g_wipe_next, g_wipe_ret, g_wipe_err, g_addI, g_subI, g_ltI, g_leI, g_gtI, g_geI, g_eqI, g_neI, g_eqS, g_neS, g_eqB, g_neB, g_neg, g_intI, g_intB, g_lenT, g_lenL, g_isN, g_yes, g_truL, g_truI, g_isNon_tup, g_isNon_non, g_slT, g_slL, g_slS, g_listL, g_listT, g_tupleL, g_raise, g_raiseA, g_kRaise1, g_kRaise2, g_setF, g_kSetF, g_make, g_meth, g_kMeth2, g_fld, g_kFldD, g_tryA, g_tryA_next, g_tryA_ret, g_cast0, g_cast1, g_cast2, g_cast3, g_cast4, g_cast5, g_cast6, g_cast7, g_cast8, g_cast9, g_cast10, g_cast11, g_cast12, g_cast13, lk, List.set_cons_zero, List.set_cons_succ, Bool.not_true, Bool.not_false, decide_true, decide_false, Int.reduceEq, Int.reduceLT, Int.reduceLE, Int.reduceSub, Int.reduceAdd, Int.reduceNeg, Int.reduceToNat, Int.reduceNe, Nat.reduceAdd, Nat.reduceLT, Nat.reduceLeDiff, eq_self, if_true, if_false, str_eq, String.reduceEq, isTy, String.reduceBEq, Bool.true_or, Bool.false_or, Bool.or_true, Bool.or_false, Bool.and_true, Bool.true_and, Bool.and_false, Bool.false_and, fIsi, fIsi2, kindOf, List.set_set, List.length_cons, List.length_nil, wipeE, beq_self_eq_true]; rfl
  | scale k =>
    obtain ⟨h1, h2⟩ := h
    simp (config := { implicitDefEqProofs := false }) only [Cmd.d, ixT0, lim_go, inl_go, lim_turn, inl_turn, lim_mirror, inl_mirror, lim_scale, inl_scale, lim_aim, inl_aim, lim_place, inl_place, lim_mark, inl_mark, lim_return, inl_return, lim_exchange, inl_exchange, cut1, kLc, lcGo, tgF, isint_int, all_nil, all_1, all_2, decide_eq_true h1, decide_eq_true h2, sz, g_bind_ok, g_bind_err, g_toS_ok, g_toS_err, g_var, g_c, g_op, g_op1, g_1, g_B, g_unB, g_test, g_and, g_or, g_not, g_kand_t, g_kand_f, g_kor_t, g_kor_f, g_knot, g_andV, g_orV, g_kandV_t, g_kandV_f, g_korV_t, g_korV_f, g_notV, g_kNotV, g_kNV, g_orT, g_kOrT, g_kOrT_t, g_kOrT_f, g_tru_bl, g_chain, g_ch1, g_ch2, g_ch3_t, g_ch3_f, g_if, g_kif_t, g_kif_f, g_nil, g_cons, g_cons1, g_cons2, g_lst, g_tup, g_allD_nil, g_allD_cons, kTup0, kTup1, kTup2, kTup3, kTup4, kLst0, kLst1, kLst2, kLst3, g_newF, g_newT, g_call, g_sl, g_sl0, g_sl1, g_sl2, g_noP, g_part, g_kPart, g_frz, g_app, g_seq, g_seq_next, g_seq_ret, g_seq_err, g_seq_brk, g_seq_cnt, g_skip, g_ret, g_kRet, g_drop, g_kDrop, g_ifS, g_kIfS_t, g_kIfS_f, g_asg, g_kAsg, g_kAsg2, g_kAsg3, g_for, g_kFor, g_lc, g_seqI, g_itemsL, g_itemsT, g_rng1, g_revR1, g_enum, g_kEnum, g_wipe, g_wipe_next, g_wipe_ret, g_wipe_err, g_addI, g_subI, g_ltI, g_leI, g_gtI, g_geI, g_eqI, g_neI, g_eqS, g_neS, g_eqB, g_neB, g_neg, g_intI, g_intB, g_lenT, g_lenL, g_isN, g_yes, g_truL, g_truI, g_isNon_tup, g_isNon_non, g_slT, g_slL, g_slS, g_listL, g_listT, g_tupleL, g_raise, g_raiseA, g_kRaise1, g_kRaise2, g_setF, g_kSetF, g_make, g_meth, g_kMeth2, g_fld, g_kFldD, g_tryA, g_tryA_next, g_tryA_ret, g_cast0, g_cast1, g_cast2, g_cast3, g_cast4, g_cast5, g_cast6, g_cast7, g_cast8, g_cast9, g_cast10, g_cast11, g_cast12, g_cast13, lk, List.set_cons_zero, List.set_cons_succ, Bool.not_true, Bool.not_false, decide_true, decide_false, Int.reduceEq, Int.reduceLT, Int.reduceLE, Int.reduceSub, Int.reduceAdd, Int.reduceNeg, Int.reduceToNat, Int.reduceNe, Nat.reduceAdd, Nat.reduceLT, Nat.reduceLeDiff, eq_self, if_true, if_false, str_eq, String.reduceEq, isTy, String.reduceBEq, Bool.true_or, Bool.false_or, Bool.or_true, Bool.or_false, Bool.and_true, Bool.true_and, Bool.and_false, Bool.false_and, fIsi, fIsi2, kindOf, List.set_set, List.length_cons, List.length_nil, wipeE, beq_self_eq_true]
    rfl
  | aim a b =>
    obtain ⟨⟨h1, h2⟩, h3, h4⟩ := h
    simp (config := { implicitDefEqProofs := false }) only [Cmd.d, ixT0, lim_go, inl_go, lim_turn, inl_turn, lim_mirror, inl_mirror, lim_scale, inl_scale, lim_aim, inl_aim, lim_place, inl_place, lim_mark, inl_mark, lim_return, inl_return, lim_exchange, inl_exchange, cut1, kLc, lcGo, tgF, isint_int, all_nil, all_1, all_2, decide_eq_true h1, decide_eq_true h2, decide_eq_true h3, decide_eq_true h4, sz, g_bind_ok, g_bind_err, g_toS_ok, g_toS_err, g_var, g_c, g_op, g_op1, g_1, g_B, g_unB, g_test, g_and, g_or, g_not, g_kand_t, g_kand_f, g_kor_t, g_kor_f, g_knot, g_andV, g_orV, g_kandV_t, g_kandV_f, g_korV_t, g_korV_f, g_notV, g_kNotV, g_kNV, g_orT, g_kOrT, g_kOrT_t, g_kOrT_f, g_tru_bl, g_chain, g_ch1, g_ch2, g_ch3_t, g_ch3_f, g_if, g_kif_t, g_kif_f, g_nil, g_cons, g_cons1, g_cons2, g_lst, g_tup, g_allD_nil, g_allD_cons, kTup0, kTup1, kTup2, kTup3, kTup4, kLst0, kLst1, kLst2, kLst3, g_newF, g_newT, g_call, g_sl, g_sl0, g_sl1, g_sl2, g_noP, g_part, g_kPart, g_frz, g_app, g_seq, g_seq_next, g_seq_ret, g_seq_err, g_seq_brk, g_seq_cnt, g_skip, g_ret, g_kRet, g_drop, g_kDrop, g_ifS, g_kIfS_t, g_kIfS_f, g_asg, g_kAsg, g_kAsg2, g_kAsg3, g_for, g_kFor, g_lc, g_seqI, g_itemsL, g_itemsT, g_rng1, g_revR1, g_enum, g_kEnum, g_wipe, g_wipe_next, g_wipe_ret, g_wipe_err, g_addI, g_subI, g_ltI, g_leI, g_gtI, g_geI, g_eqI, g_neI, g_eqS, g_neS, g_eqB, g_neB, g_neg, g_intI, g_intB, g_lenT, g_lenL, g_isN, g_yes, g_truL, g_truI, g_isNon_tup, g_isNon_non, g_slT, g_slL, g_slS, g_listL, g_listT, g_tupleL, g_raise, g_raiseA, g_kRaise1, g_kRaise2, g_setF, g_kSetF, g_make, g_meth, g_kMeth2, g_fld, g_kFldD, g_tryA, g_tryA_next, g_tryA_ret, g_cast0, g_cast1, g_cast2, g_cast3, g_cast4, g_cast5, g_cast6, g_cast7, g_cast8, g_cast9, g_cast10, g_cast11, g_cast12, g_cast13, lk, List.set_cons_zero, List.set_cons_succ, Bool.not_true, Bool.not_false, decide_true, decide_false, Int.reduceEq, Int.reduceLT, Int.reduceLE, Int.reduceSub, Int.reduceAdd, Int.reduceNeg, Int.reduceToNat, Int.reduceNe, Nat.reduceAdd, Nat.reduceLT, Nat.reduceLeDiff, eq_self, if_true, if_false, str_eq, String.reduceEq, isTy, String.reduceBEq, Bool.true_or, Bool.false_or, Bool.or_true, Bool.or_false, Bool.and_true, Bool.true_and, Bool.and_false, Bool.false_and, fIsi, fIsi2, kindOf, List.set_set, List.length_cons, List.length_nil, wipeE, beq_self_eq_true]
    rfl
  | place a b =>
    obtain ⟨⟨h1, h2⟩, h3, h4⟩ := h
    simp (config := { implicitDefEqProofs := false }) only [Cmd.d, ixT0, lim_go, inl_go, lim_turn, inl_turn, lim_mirror, inl_mirror, lim_scale, inl_scale, lim_aim, inl_aim, lim_place, inl_place, lim_mark, inl_mark, lim_return, inl_return, lim_exchange, inl_exchange, cut1, kLc, lcGo, tgF, isint_int, all_nil, all_1, all_2, decide_eq_true h1, decide_eq_true h2, decide_eq_true h3, decide_eq_true h4, sz, g_bind_ok, g_bind_err, g_toS_ok, g_toS_err, g_var, g_c, g_op, g_op1, g_1, g_B, g_unB, g_test, g_and, g_or, g_not, g_kand_t, g_kand_f, g_kor_t, g_kor_f, g_knot, g_andV, g_orV, g_kandV_t, g_kandV_f, g_korV_t, g_korV_f, g_notV, g_kNotV, g_kNV, g_orT, g_kOrT, g_kOrT_t, g_kOrT_f, g_tru_bl, g_chain, g_ch1, g_ch2, g_ch3_t, g_ch3_f, g_if, g_kif_t, g_kif_f, g_nil, g_cons, g_cons1, g_cons2, g_lst, g_tup, g_allD_nil, g_allD_cons, kTup0, kTup1, kTup2, kTup3, kTup4, kLst0, kLst1, kLst2, kLst3, g_newF, g_newT, g_call, g_sl, g_sl0, g_sl1, g_sl2, g_noP, g_part, g_kPart, g_frz, g_app, g_seq, g_seq_next, g_seq_ret, g_seq_err, g_seq_brk, g_seq_cnt, g_skip, g_ret, g_kRet, g_drop, g_kDrop, g_ifS, g_kIfS_t, g_kIfS_f, g_asg, g_kAsg, g_kAsg2, g_kAsg3, g_for, g_kFor, g_lc, g_seqI, g_itemsL, g_itemsT, g_rng1, g_revR1, g_enum, g_kEnum, g_wipe, g_wipe_next, g_wipe_ret, g_wipe_err, g_addI, g_subI, g_ltI, g_leI, g_gtI, g_geI, g_eqI, g_neI, g_eqS, g_neS, g_eqB, g_neB, g_neg, g_intI, g_intB, g_lenT, g_lenL, g_isN, g_yes, g_truL, g_truI, g_isNon_tup, g_isNon_non, g_slT, g_slL, g_slS, g_listL, g_listT, g_tupleL, g_raise, g_raiseA, g_kRaise1, g_kRaise2, g_setF, g_kSetF, g_make, g_meth, g_kMeth2, g_fld, g_kFldD, g_tryA, g_tryA_next, g_tryA_ret, g_cast0, g_cast1, g_cast2, g_cast3, g_cast4, g_cast5, g_cast6, g_cast7, g_cast8, g_cast9, g_cast10, g_cast11, g_cast12, g_cast13, lk, List.set_cons_zero, List.set_cons_succ, Bool.not_true, Bool.not_false, decide_true, decide_false, Int.reduceEq, Int.reduceLT, Int.reduceLE, Int.reduceSub, Int.reduceAdd, Int.reduceNeg, Int.reduceToNat, Int.reduceNe, Nat.reduceAdd, Nat.reduceLT, Nat.reduceLeDiff, eq_self, if_true, if_false, str_eq, String.reduceEq, isTy, String.reduceBEq, Bool.true_or, Bool.false_or, Bool.or_true, Bool.or_false, Bool.and_true, Bool.true_and, Bool.and_false, Bool.false_and, fIsi, fIsi2, kindOf, List.set_set, List.length_cons, List.length_nil, wipeE, beq_self_eq_true]
    rfl
  | mark => simp (config := { implicitDefEqProofs := false }) only [Cmd.d, ixT0, lim_go, inl_go, lim_turn, inl_turn, lim_mirror, inl_mirror, lim_scale, inl_scale, lim_aim, inl_aim, lim_place, inl_place, lim_mark, inl_mark, lim_return, inl_return, lim_exchange, inl_exchange, cut1, kLc, lcGo, tgF, isint_int, all_nil, sz, g_bind_ok, g_bind_err, g_toS_ok, g_toS_err, g_var, g_c, g_op, g_op1, g_1, g_B, g_unB, g_test, g_and, g_or, g_not, g_kand_t, g_kand_f, g_kor_t, g_kor_f, g_knot, g_andV, g_orV, g_kandV_t, g_kandV_f, g_korV_t, g_korV_f, g_notV, g_kNotV, g_kNV, g_orT, g_kOrT, g_kOrT_t, g_kOrT_f, g_tru_bl, g_chain, g_ch1, g_ch2, g_ch3_t, g_ch3_f, g_if, g_kif_t, g_kif_f, g_nil, g_cons, g_cons1, g_cons2, g_lst, g_tup, g_allD_nil, g_allD_cons, kTup0, kTup1, kTup2, kTup3, kTup4, kLst0, kLst1, kLst2, kLst3, g_newF, g_newT, g_call, g_sl, g_sl0, g_sl1, g_sl2, g_noP, g_part, g_kPart, g_frz, g_app, g_seq, g_seq_next, g_seq_ret, g_seq_err, g_seq_brk, g_seq_cnt, g_skip, g_ret, g_kRet, g_drop, g_kDrop, g_ifS, g_kIfS_t, g_kIfS_f, g_asg, g_kAsg, g_kAsg2, g_kAsg3, g_for, g_kFor, g_lc, g_seqI, g_itemsL, g_itemsT, g_rng1, g_revR1, g_enum, g_kEnum, g_wipe, g_wipe_next, g_wipe_ret, g_wipe_err, g_addI, g_subI, g_ltI, g_leI, g_gtI, g_geI, g_eqI, g_neI, g_eqS, g_neS, g_eqB, g_neB, g_neg, g_intI, g_intB, g_lenT, g_lenL, g_isN, g_yes, g_truL, g_truI, g_isNon_tup, g_isNon_non, g_slT, g_slL, g_slS, g_listL, g_listT, g_tupleL, g_raise, g_raiseA, g_kRaise1, g_kRaise2, g_setF, g_kSetF, g_make, g_meth, g_kMeth2, g_fld, g_kFldD, g_tryA, g_tryA_next, g_tryA_ret, g_cast0, g_cast1, g_cast2, g_cast3, g_cast4, g_cast5, g_cast6, g_cast7, g_cast8, g_cast9, g_cast10, g_cast11, g_cast12, g_cast13, lk, List.set_cons_zero, List.set_cons_succ, Bool.not_true, Bool.not_false, decide_true, decide_false, Int.reduceEq, Int.reduceLT, Int.reduceLE, Int.reduceSub, Int.reduceAdd, Int.reduceNeg, Int.reduceToNat, Int.reduceNe, Nat.reduceAdd, Nat.reduceLT, Nat.reduceLeDiff, eq_self, if_true, if_false, str_eq, String.reduceEq, isTy, String.reduceBEq, Bool.true_or, Bool.false_or, Bool.or_true, Bool.or_false, Bool.and_true, Bool.true_and, Bool.and_false, Bool.false_and, fIsi, fIsi2, kindOf, List.set_set, List.length_cons, List.length_nil, wipeE, beq_self_eq_true]; rfl
  | ret => simp (config := { implicitDefEqProofs := false }) only [Cmd.d, ixT0, lim_go, inl_go, lim_turn, inl_turn, lim_mirror, inl_mirror, lim_scale, inl_scale, lim_aim, inl_aim, lim_place, inl_place, lim_mark, inl_mark, lim_return, inl_return, lim_exchange, inl_exchange, cut1, kLc, lcGo, tgF, isint_int, all_nil, sz, g_bind_ok, g_bind_err, g_toS_ok, g_toS_err, g_var, g_c, g_op, g_op1, g_1, g_B, g_unB, g_test, g_and, g_or, g_not, g_kand_t, g_kand_f, g_kor_t, g_kor_f, g_knot, g_andV, g_orV, g_kandV_t, g_kandV_f, g_korV_t, g_korV_f, g_notV, g_kNotV, g_kNV, g_orT, g_kOrT, g_kOrT_t, g_kOrT_f, g_tru_bl, g_chain, g_ch1, g_ch2, g_ch3_t, g_ch3_f, g_if, g_kif_t, g_kif_f, g_nil, g_cons, g_cons1, g_cons2, g_lst, g_tup, g_allD_nil, g_allD_cons, kTup0, kTup1, kTup2, kTup3, kTup4, kLst0, kLst1, kLst2, kLst3, g_newF, g_newT, g_call, g_sl, g_sl0, g_sl1, g_sl2, g_noP, g_part, g_kPart, g_frz, g_app, g_seq, g_seq_next, g_seq_ret, g_seq_err, g_seq_brk, g_seq_cnt, g_skip, g_ret, g_kRet, g_drop, g_kDrop, g_ifS, g_kIfS_t, g_kIfS_f, g_asg, g_kAsg, g_kAsg2, g_kAsg3, g_for, g_kFor, g_lc, g_seqI, g_itemsL, g_itemsT, g_rng1, g_revR1, g_enum, g_kEnum, g_wipe, g_wipe_next, g_wipe_ret, g_wipe_err, g_addI, g_subI, g_ltI, g_leI, g_gtI, g_geI, g_eqI, g_neI, g_eqS, g_neS, g_eqB, g_neB, g_neg, g_intI, g_intB, g_lenT, g_lenL, g_isN, g_yes, g_truL, g_truI, g_isNon_tup, g_isNon_non, g_slT, g_slL, g_slS, g_listL, g_listT, g_tupleL, g_raise, g_raiseA, g_kRaise1, g_kRaise2, g_setF, g_kSetF, g_make, g_meth, g_kMeth2, g_fld, g_kFldD, g_tryA, g_tryA_next, g_tryA_ret, g_cast0, g_cast1, g_cast2, g_cast3, g_cast4, g_cast5, g_cast6, g_cast7, g_cast8, g_cast9, g_cast10, g_cast11, g_cast12, g_cast13, lk, List.set_cons_zero, List.set_cons_succ, Bool.not_true, Bool.not_false, decide_true, decide_false, Int.reduceEq, Int.reduceLT, Int.reduceLE, Int.reduceSub, Int.reduceAdd, Int.reduceNeg, Int.reduceToNat, Int.reduceNe, Nat.reduceAdd, Nat.reduceLT, Nat.reduceLeDiff, eq_self, if_true, if_false, str_eq, String.reduceEq, isTy, String.reduceBEq, Bool.true_or, Bool.false_or, Bool.or_true, Bool.or_false, Bool.and_true, Bool.true_and, Bool.and_false, Bool.false_and, fIsi, fIsi2, kindOf, List.set_set, List.length_cons, List.length_nil, wipeE, beq_self_eq_true]; rfl
  | exch => simp (config := { implicitDefEqProofs := false }) only [Cmd.d, ixT0, lim_go, inl_go, lim_turn, inl_turn, lim_mirror, inl_mirror, lim_scale, inl_scale, lim_aim, inl_aim, lim_place, inl_place, lim_mark, inl_mark, lim_return, inl_return, lim_exchange, inl_exchange, cut1, kLc, lcGo, tgF, isint_int, all_nil, sz, g_bind_ok, g_bind_err, g_toS_ok, g_toS_err, g_var, g_c, g_op, g_op1, g_1, g_B, g_unB, g_test, g_and, g_or, g_not, g_kand_t, g_kand_f, g_kor_t, g_kor_f, g_knot, g_andV, g_orV, g_kandV_t, g_kandV_f, g_korV_t, g_korV_f, g_notV, g_kNotV, g_kNV, g_orT, g_kOrT, g_kOrT_t, g_kOrT_f, g_tru_bl, g_chain, g_ch1, g_ch2, g_ch3_t, g_ch3_f, g_if, g_kif_t, g_kif_f, g_nil, g_cons, g_cons1, g_cons2, g_lst, g_tup, g_allD_nil, g_allD_cons, kTup0, kTup1, kTup2, kTup3, kTup4, kLst0, kLst1, kLst2, kLst3, g_newF, g_newT, g_call, g_sl, g_sl0, g_sl1, g_sl2, g_noP, g_part, g_kPart, g_frz, g_app, g_seq, g_seq_next, g_seq_ret, g_seq_err, g_seq_brk, g_seq_cnt, g_skip, g_ret, g_kRet, g_drop, g_kDrop, g_ifS, g_kIfS_t, g_kIfS_f, g_asg, g_kAsg, g_kAsg2, g_kAsg3, g_for, g_kFor, g_lc, g_seqI, g_itemsL, g_itemsT, g_rng1, g_revR1, g_enum, g_kEnum, g_wipe, g_wipe_next, g_wipe_ret, g_wipe_err, g_addI, g_subI, g_ltI, g_leI, g_gtI, g_geI, g_eqI, g_neI, g_eqS, g_neS, g_eqB, g_neB, g_neg, g_intI, g_intB, g_lenT, g_lenL, g_isN, g_yes, g_truL, g_truI, g_isNon_tup, g_isNon_non, g_slT, g_slL, g_slS, g_listL, g_listT, g_tupleL, g_raise, g_raiseA, g_kRaise1, g_kRaise2, g_setF, g_kSetF, g_make, g_meth, g_kMeth2, g_fld, g_kFldD, g_tryA, g_tryA_next, g_tryA_ret, g_cast0, g_cast1, g_cast2, g_cast3, g_cast4, g_cast5, g_cast6, g_cast7, g_cast8, g_cast9, g_cast10, g_cast11, g_cast12, g_cast13, lk, List.set_cons_zero, List.set_cons_succ, Bool.not_true, Bool.not_false, decide_true, decide_false, Int.reduceEq, Int.reduceLT, Int.reduceLE, Int.reduceSub, Int.reduceAdd, Int.reduceNeg, Int.reduceToNat, Int.reduceNe, Nat.reduceAdd, Nat.reduceLT, Nat.reduceLeDiff, eq_self, if_true, if_false, str_eq, String.reduceEq, isTy, String.reduceBEq, Bool.true_or, Bool.false_or, Bool.or_true, Bool.or_false, Bool.and_true, Bool.true_and, Bool.and_false, Bool.false_and, fIsi, fIsi2, kindOf, List.set_set, List.length_cons, List.length_nil, wipeE, beq_self_eq_true]; rfl
/-- no command: its word is none of the table -/
theorem no_cmd {z : Str} {r : List D} {S : Sto} (h : fInLim true (.dat (.str z)) S = .ok (.dat (.bl true)) S) : m_is_command [.dat (.tup (.str z :: r))] S = .ok (.dat (.bl false)) S := by
  rw [show m_is_command [.dat (.tup (.str z :: r))] S = ofOut (b_is_command [some (.dat (.tup (.str z :: r))), none, none, none, none] S) from rfl]
  unfold b_is_command e_is_command_1
  simp (config := { implicitDefEqProofs := false }) only [ixT0, h, g_bind_ok, g_bind_err, g_toS_ok, g_toS_err, g_var, g_c, g_op, g_op1, g_1, g_B, g_unB, g_test, g_and, g_or, g_not, g_kand_t, g_kand_f, g_kor_t, g_kor_f, g_knot, g_andV, g_orV, g_kandV_t, g_kandV_f, g_korV_t, g_korV_f, g_notV, g_kNotV, g_kNV, g_orT, g_kOrT, g_kOrT_t, g_kOrT_f, g_tru_bl, g_chain, g_ch1, g_ch2, g_ch3_t, g_ch3_f, g_if, g_kif_t, g_kif_f, g_nil, g_cons, g_cons1, g_cons2, g_lst, g_tup, g_allD_nil, g_allD_cons, kTup0, kTup1, kTup2, kTup3, kTup4, kLst0, kLst1, kLst2, kLst3, g_newF, g_newT, g_call, g_sl, g_sl0, g_sl1, g_sl2, g_noP, g_part, g_kPart, g_frz, g_app, g_seq, g_seq_next, g_seq_ret, g_seq_err, g_seq_brk, g_seq_cnt, g_skip, g_ret, g_kRet, g_drop, g_kDrop, g_ifS, g_kIfS_t, g_kIfS_f, g_asg, g_kAsg, g_kAsg2, g_kAsg3, g_for, g_kFor, g_lc, g_seqI, g_itemsL, g_itemsT, g_rng1, g_revR1, g_enum, g_kEnum, g_wipe, g_wipe_next, g_wipe_ret, g_wipe_err, g_addI, g_subI, g_ltI, g_leI, g_gtI, g_geI, g_eqI, g_neI, g_eqS, g_neS, g_eqB, g_neB, g_neg, g_intI, g_intB, g_lenT, g_lenL, g_isN, g_yes, g_truL, g_truI, g_isNon_tup, g_isNon_non, g_slT, g_slL, g_slS, g_listL, g_listT, g_tupleL, g_raise, g_raiseA, g_kRaise1, g_kRaise2, g_setF, g_kSetF, g_make, g_meth, g_kMeth2, g_fld, g_kFldD, g_tryA, g_tryA_next, g_tryA_ret, g_cast0, g_cast1, g_cast2, g_cast3, g_cast4, g_cast5, g_cast6, g_cast7, g_cast8, g_cast9, g_cast10, g_cast11, g_cast12, g_cast13, lk, List.set_cons_zero, List.set_cons_succ, Bool.not_true, Bool.not_false, decide_true, decide_false, Int.reduceEq, Int.reduceLT, Int.reduceLE, Int.reduceSub, Int.reduceAdd, Int.reduceNeg, Int.reduceToNat, Int.reduceNe, Nat.reduceAdd, Nat.reduceLT, Nat.reduceLeDiff, eq_self, if_true, if_false, str_eq, String.reduceEq, isTy, String.reduceBEq, Bool.true_or, Bool.false_or, Bool.or_true, Bool.or_false, Bool.and_true, Bool.true_and, Bool.and_false, Bool.false_and, fIsi, fIsi2, kindOf, List.set_set, List.length_cons, List.length_nil, wipeE, beq_self_eq_true]
  rw [decide_eq_false (by simp; omega)]
  simp (config := { implicitDefEqProofs := false }) only [ixT0, h, g_bind_ok, g_bind_err, g_toS_ok, g_toS_err, g_var, g_c, g_op, g_op1, g_1, g_B, g_unB, g_test, g_and, g_or, g_not, g_kand_t, g_kand_f, g_kor_t, g_kor_f, g_knot, g_andV, g_orV, g_kandV_t, g_kandV_f, g_korV_t, g_korV_f, g_notV, g_kNotV, g_kNV, g_orT, g_kOrT, g_kOrT_t, g_kOrT_f, g_tru_bl, g_chain, g_ch1, g_ch2, g_ch3_t, g_ch3_f, g_if, g_kif_t, g_kif_f, g_nil, g_cons, g_cons1, g_cons2, g_lst, g_tup, g_allD_nil, g_allD_cons, kTup0, kTup1, kTup2, kTup3, kTup4, kLst0, kLst1, kLst2, kLst3, g_newF, g_newT, g_call, g_sl, g_sl0, g_sl1, g_sl2, g_noP, g_part, g_kPart, g_frz, g_app, g_seq, g_seq_next, g_seq_ret, g_seq_err, g_seq_brk, g_seq_cnt, g_skip, g_ret, g_kRet, g_drop, g_kDrop, g_ifS, g_kIfS_t, g_kIfS_f, g_asg, g_kAsg, g_kAsg2, g_kAsg3, g_for, g_kFor, g_lc, g_seqI, g_itemsL, g_itemsT, g_rng1, g_revR1, g_enum, g_kEnum, g_wipe, g_wipe_next, g_wipe_ret, g_wipe_err, g_addI, g_subI, g_ltI, g_leI, g_gtI, g_geI, g_eqI, g_neI, g_eqS, g_neS, g_eqB, g_neB, g_neg, g_intI, g_intB, g_lenT, g_lenL, g_isN, g_yes, g_truL, g_truI, g_isNon_tup, g_isNon_non, g_slT, g_slL, g_slS, g_listL, g_listT, g_tupleL, g_raise, g_raiseA, g_kRaise1, g_kRaise2, g_setF, g_kSetF, g_make, g_meth, g_kMeth2, g_fld, g_kFldD, g_tryA, g_tryA_next, g_tryA_ret, g_cast0, g_cast1, g_cast2, g_cast3, g_cast4, g_cast5, g_cast6, g_cast7, g_cast8, g_cast9, g_cast10, g_cast11, g_cast12, g_cast13, lk, List.set_cons_zero, List.set_cons_succ, Bool.not_true, Bool.not_false, decide_true, decide_false, Int.reduceEq, Int.reduceLT, Int.reduceLE, Int.reduceSub, Int.reduceAdd, Int.reduceNeg, Int.reduceToNat, Int.reduceNe, Nat.reduceAdd, Nat.reduceLT, Nat.reduceLeDiff, eq_self, if_true, if_false, str_eq, String.reduceEq, isTy, String.reduceBEq, Bool.true_or, Bool.false_or, Bool.or_true, Bool.or_false, Bool.and_true, Bool.true_and, Bool.and_false, Bool.false_and, fIsi, fIsi2, kindOf, List.set_set, List.length_cons, List.length_nil, wipeE, beq_self_eq_true]
  rfl
end PH

namespace PH
open PySem PySem.Spec PyProof.Rows L2
def Stt.blocks : Stt → List (List Stt)
  | .keep b => [b]
  | .again b => [b]
  | .either a b => [a, b]
  | .call _ _ a b => [a, b]
  | _ => []
def bls (bs : List (List Stt)) : List D := bs.map fun b => .lst (dsOf b)
theorem blocks_of {s : Stt} {S : Sto} : m_blocks_of [.dat s.d] S = .ok (.dat (.lst (bls s.blocks))) S := by
  rw [show m_blocks_of [.dat s.d] S = ofOut (b_blocks_of [some (.dat s.d), none] S) from rfl]
  unfold b_blocks_of
  cases s with
  | cmd c => cases c <;> (simp (config := { implicitDefEqProofs := false }) only [Stt.d, Cmd.d, ixT0, g_bind_ok, g_bind_err, g_toS_ok, g_toS_err, g_var, g_c, g_op, g_op1, g_1, g_B, g_unB, g_test, g_and, g_or, g_not, g_kand_t, g_kand_f, g_kor_t, g_kor_f, g_knot, g_andV, g_orV, g_kandV_t, g_kandV_f, g_korV_t, g_korV_f, g_notV, g_kNotV, g_kNV, g_orT, g_kOrT, g_kOrT_t, g_kOrT_f, g_tru_bl, g_chain, g_ch1, g_ch2, g_ch3_t, g_ch3_f, g_if, g_kif_t, g_kif_f, g_nil, g_cons, g_cons1, g_cons2, g_lst, g_tup, g_allD_nil, g_allD_cons, kTup0, kTup1, kTup2, kTup3, kTup4, kLst0, kLst1, kLst2, kLst3, g_newF, g_newT, g_call, g_sl, g_sl0, g_sl1, g_sl2, g_noP, g_part, g_kPart, g_frz, g_app, g_seq, g_seq_next, g_seq_ret, g_seq_err, g_seq_brk, g_seq_cnt, g_skip, g_ret, g_kRet, g_drop, g_kDrop, g_ifS, g_kIfS_t, g_kIfS_f, g_asg, g_kAsg, g_kAsg2, g_kAsg3, g_for, g_kFor, g_lc, g_seqI, g_itemsL, g_itemsT, g_rng1, g_revR1, g_enum, g_kEnum, g_wipe, g_wipe_next, g_wipe_ret, g_wipe_err, g_addI, g_subI, g_ltI, g_leI, g_gtI, g_geI, g_eqI, g_neI, g_eqS, g_neS, g_eqB, g_neB, g_neg, g_intI, g_intB, g_lenT, g_lenL, g_isN, g_yes, g_truL, g_truI, g_isNon_tup, g_isNon_non, g_slT, g_slL, g_slS, g_listL, g_listT, g_tupleL, g_raise, g_raiseA, g_kRaise1, g_kRaise2, g_setF, g_kSetF, g_make, g_meth, g_kMeth2, g_fld, g_kFldD, g_tryA, g_tryA_next, g_tryA_ret, g_cast0, g_cast1, g_cast2, g_cast3, g_cast4, g_cast5, g_cast6, g_cast7, g_cast8, g_cast9, g_cast10, g_cast11, g_cast12, g_cast13, lk, List.set_cons_zero, List.set_cons_succ, Bool.not_true, Bool.not_false, decide_true, decide_false, Int.reduceEq, Int.reduceLT, Int.reduceLE, Int.reduceSub, Int.reduceAdd, Int.reduceNeg, Int.reduceToNat, Int.reduceNe, Nat.reduceAdd, Nat.reduceLT, Nat.reduceLeDiff, eq_self, if_true, if_false, str_eq, String.reduceEq, isTy, String.reduceBEq, Bool.true_or, Bool.false_or, Bool.or_true, Bool.or_false, Bool.and_true, Bool.true_and, Bool.and_false, Bool.false_and, fIsi, fIsi2, kindOf, List.set_set, List.length_cons, List.length_nil, wipeE, beq_self_eq_true]; rfl)
  | fin w => simp (config := { implicitDefEqProofs := false }) only [Stt.d, ixT0, g_bind_ok, g_bind_err, g_toS_ok, g_toS_err, g_var, g_c, g_op, g_op1, g_1, g_B, g_unB, g_test, g_and, g_or, g_not, g_kand_t, g_kand_f, g_kor_t, g_kor_f, g_knot, g_andV, g_orV, g_kandV_t, g_kandV_f, g_korV_t, g_korV_f, g_notV, g_kNotV, g_kNV, g_orT, g_kOrT, g_kOrT_t, g_kOrT_f, g_tru_bl, g_chain, g_ch1, g_ch2, g_ch3_t, g_ch3_f, g_if, g_kif_t, g_kif_f, g_nil, g_cons, g_cons1, g_cons2, g_lst, g_tup, g_allD_nil, g_allD_cons, kTup0, kTup1, kTup2, kTup3, kTup4, kLst0, kLst1, kLst2, kLst3, g_newF, g_newT, g_call, g_sl, g_sl0, g_sl1, g_sl2, g_noP, g_part, g_kPart, g_frz, g_app, g_seq, g_seq_next, g_seq_ret, g_seq_err, g_seq_brk, g_seq_cnt, g_skip, g_ret, g_kRet, g_drop, g_kDrop, g_ifS, g_kIfS_t, g_kIfS_f, g_asg, g_kAsg, g_kAsg2, g_kAsg3, g_for, g_kFor, g_lc, g_seqI, g_itemsL, g_itemsT, g_rng1, g_revR1, g_enum, g_kEnum, g_wipe, g_wipe_next, g_wipe_ret, g_wipe_err, g_addI, g_subI, g_ltI, g_leI, g_gtI, g_geI, g_eqI, g_neI, g_eqS, g_neS, g_eqB, g_neB, g_neg, g_intI, g_intB, g_lenT, g_lenL, g_isN, g_yes, g_truL, g_truI, g_isNon_tup, g_isNon_non, g_slT, g_slL, g_slS, g_listL, g_listT, g_tupleL, g_raise, g_raiseA, g_kRaise1, g_kRaise2, g_setF, g_kSetF, g_make, g_meth, g_kMeth2, g_fld, g_kFldD, g_tryA, g_tryA_next, g_tryA_ret, g_cast0, g_cast1, g_cast2, g_cast3, g_cast4, g_cast5, g_cast6, g_cast7, g_cast8, g_cast9, g_cast10, g_cast11, g_cast12, g_cast13, lk, List.set_cons_zero, List.set_cons_succ, Bool.not_true, Bool.not_false, decide_true, decide_false, Int.reduceEq, Int.reduceLT, Int.reduceLE, Int.reduceSub, Int.reduceAdd, Int.reduceNeg, Int.reduceToNat, Int.reduceNe, Nat.reduceAdd, Nat.reduceLT, Nat.reduceLeDiff, eq_self, if_true, if_false, str_eq, String.reduceEq, isTy, String.reduceBEq, Bool.true_or, Bool.false_or, Bool.or_true, Bool.or_false, Bool.and_true, Bool.true_and, Bool.and_false, Bool.false_and, fIsi, fIsi2, kindOf, List.set_set, List.length_cons, List.length_nil, wipeE, beq_self_eq_true]; rfl
  | keep b => simp (config := { implicitDefEqProofs := false }) only [Stt.d, ixT0, ixT1, g_bind_ok, g_bind_err, g_toS_ok, g_toS_err, g_var, g_c, g_op, g_op1, g_1, g_B, g_unB, g_test, g_and, g_or, g_not, g_kand_t, g_kand_f, g_kor_t, g_kor_f, g_knot, g_andV, g_orV, g_kandV_t, g_kandV_f, g_korV_t, g_korV_f, g_notV, g_kNotV, g_kNV, g_orT, g_kOrT, g_kOrT_t, g_kOrT_f, g_tru_bl, g_chain, g_ch1, g_ch2, g_ch3_t, g_ch3_f, g_if, g_kif_t, g_kif_f, g_nil, g_cons, g_cons1, g_cons2, g_lst, g_tup, g_allD_nil, g_allD_cons, kTup0, kTup1, kTup2, kTup3, kTup4, kLst0, kLst1, kLst2, kLst3, g_newF, g_newT, g_call, g_sl, g_sl0, g_sl1, g_sl2, g_noP, g_part, g_kPart, g_frz, g_app, g_seq, g_seq_next, g_seq_ret, g_seq_err, g_seq_brk, g_seq_cnt, g_skip, g_ret, g_kRet, g_drop, g_kDrop, g_ifS, g_kIfS_t, g_kIfS_f, g_asg, g_kAsg, g_kAsg2, g_kAsg3, g_for, g_kFor, g_lc, g_seqI, g_itemsL, g_itemsT, g_rng1, g_revR1, g_enum, g_kEnum, g_wipe, g_wipe_next, g_wipe_ret, g_wipe_err, g_addI, g_subI, g_ltI, g_leI, g_gtI, g_geI, g_eqI, g_neI, g_eqS, g_neS, g_eqB, g_neB, g_neg, g_intI, g_intB, g_lenT, g_lenL, g_isN, g_yes, g_truL, g_truI, g_isNon_tup, g_isNon_non, g_slT, g_slL, g_slS, g_listL, g_listT, g_tupleL, g_raise, g_raiseA, g_kRaise1, g_kRaise2, g_setF, g_kSetF, g_make, g_meth, g_kMeth2, g_fld, g_kFldD, g_tryA, g_tryA_next, g_tryA_ret, g_cast0, g_cast1, g_cast2, g_cast3, g_cast4, g_cast5, g_cast6, g_cast7, g_cast8, g_cast9, g_cast10, g_cast11, g_cast12, g_cast13, lk, List.set_cons_zero, List.set_cons_succ, Bool.not_true, Bool.not_false, decide_true, decide_false, Int.reduceEq, Int.reduceLT, Int.reduceLE, Int.reduceSub, Int.reduceAdd, Int.reduceNeg, Int.reduceToNat, Int.reduceNe, Nat.reduceAdd, Nat.reduceLT, Nat.reduceLeDiff, eq_self, if_true, if_false, str_eq, String.reduceEq, isTy, String.reduceBEq, Bool.true_or, Bool.false_or, Bool.or_true, Bool.or_false, Bool.and_true, Bool.true_and, Bool.and_false, Bool.false_and, fIsi, fIsi2, kindOf, List.set_set, List.length_cons, List.length_nil, wipeE, beq_self_eq_true]; rfl
  | again b => simp (config := { implicitDefEqProofs := false }) only [Stt.d, ixT0, ixT1, g_bind_ok, g_bind_err, g_toS_ok, g_toS_err, g_var, g_c, g_op, g_op1, g_1, g_B, g_unB, g_test, g_and, g_or, g_not, g_kand_t, g_kand_f, g_kor_t, g_kor_f, g_knot, g_andV, g_orV, g_kandV_t, g_kandV_f, g_korV_t, g_korV_f, g_notV, g_kNotV, g_kNV, g_orT, g_kOrT, g_kOrT_t, g_kOrT_f, g_tru_bl, g_chain, g_ch1, g_ch2, g_ch3_t, g_ch3_f, g_if, g_kif_t, g_kif_f, g_nil, g_cons, g_cons1, g_cons2, g_lst, g_tup, g_allD_nil, g_allD_cons, kTup0, kTup1, kTup2, kTup3, kTup4, kLst0, kLst1, kLst2, kLst3, g_newF, g_newT, g_call, g_sl, g_sl0, g_sl1, g_sl2, g_noP, g_part, g_kPart, g_frz, g_app, g_seq, g_seq_next, g_seq_ret, g_seq_err, g_seq_brk, g_seq_cnt, g_skip, g_ret, g_kRet, g_drop, g_kDrop, g_ifS, g_kIfS_t, g_kIfS_f, g_asg, g_kAsg, g_kAsg2, g_kAsg3, g_for, g_kFor, g_lc, g_seqI, g_itemsL, g_itemsT, g_rng1, g_revR1, g_enum, g_kEnum, g_wipe, g_wipe_next, g_wipe_ret, g_wipe_err, g_addI, g_subI, g_ltI, g_leI, g_gtI, g_geI, g_eqI, g_neI, g_eqS, g_neS, g_eqB, g_neB, g_neg, g_intI, g_intB, g_lenT, g_lenL, g_isN, g_yes, g_truL, g_truI, g_isNon_tup, g_isNon_non, g_slT, g_slL, g_slS, g_listL, g_listT, g_tupleL, g_raise, g_raiseA, g_kRaise1, g_kRaise2, g_setF, g_kSetF, g_make, g_meth, g_kMeth2, g_fld, g_kFldD, g_tryA, g_tryA_next, g_tryA_ret, g_cast0, g_cast1, g_cast2, g_cast3, g_cast4, g_cast5, g_cast6, g_cast7, g_cast8, g_cast9, g_cast10, g_cast11, g_cast12, g_cast13, lk, List.set_cons_zero, List.set_cons_succ, Bool.not_true, Bool.not_false, decide_true, decide_false, Int.reduceEq, Int.reduceLT, Int.reduceLE, Int.reduceSub, Int.reduceAdd, Int.reduceNeg, Int.reduceToNat, Int.reduceNe, Nat.reduceAdd, Nat.reduceLT, Nat.reduceLeDiff, eq_self, if_true, if_false, str_eq, String.reduceEq, isTy, String.reduceBEq, Bool.true_or, Bool.false_or, Bool.or_true, Bool.or_false, Bool.and_true, Bool.true_and, Bool.and_false, Bool.false_and, fIsi, fIsi2, kindOf, List.set_set, List.length_cons, List.length_nil, wipeE, beq_self_eq_true]; rfl
  | either a b => simp (config := { implicitDefEqProofs := false }) only [Stt.d, ixT0, ixT1, ixT2, g_bind_ok, g_bind_err, g_toS_ok, g_toS_err, g_var, g_c, g_op, g_op1, g_1, g_B, g_unB, g_test, g_and, g_or, g_not, g_kand_t, g_kand_f, g_kor_t, g_kor_f, g_knot, g_andV, g_orV, g_kandV_t, g_kandV_f, g_korV_t, g_korV_f, g_notV, g_kNotV, g_kNV, g_orT, g_kOrT, g_kOrT_t, g_kOrT_f, g_tru_bl, g_chain, g_ch1, g_ch2, g_ch3_t, g_ch3_f, g_if, g_kif_t, g_kif_f, g_nil, g_cons, g_cons1, g_cons2, g_lst, g_tup, g_allD_nil, g_allD_cons, kTup0, kTup1, kTup2, kTup3, kTup4, kLst0, kLst1, kLst2, kLst3, g_newF, g_newT, g_call, g_sl, g_sl0, g_sl1, g_sl2, g_noP, g_part, g_kPart, g_frz, g_app, g_seq, g_seq_next, g_seq_ret, g_seq_err, g_seq_brk, g_seq_cnt, g_skip, g_ret, g_kRet, g_drop, g_kDrop, g_ifS, g_kIfS_t, g_kIfS_f, g_asg, g_kAsg, g_kAsg2, g_kAsg3, g_for, g_kFor, g_lc, g_seqI, g_itemsL, g_itemsT, g_rng1, g_revR1, g_enum, g_kEnum, g_wipe, g_wipe_next, g_wipe_ret, g_wipe_err, g_addI, g_subI, g_ltI, g_leI, g_gtI, g_geI, g_eqI, g_neI, g_eqS, g_neS, g_eqB, g_neB, g_neg, g_intI, g_intB, g_lenT, g_lenL, g_isN, g_yes, g_truL, g_truI, g_isNon_tup, g_isNon_non, g_slT, g_slL, g_slS, g_listL, g_listT, g_tupleL, g_raise, g_raiseA, g_kRaise1, g_kRaise2, g_setF, g_kSetF, g_make, g_meth, g_kMeth2, g_fld, g_kFldD, g_tryA, g_tryA_next, g_tryA_ret, g_cast0, g_cast1, g_cast2, g_cast3, g_cast4, g_cast5, g_cast6, g_cast7, g_cast8, g_cast9, g_cast10, g_cast11, g_cast12, g_cast13, lk, List.set_cons_zero, List.set_cons_succ, Bool.not_true, Bool.not_false, decide_true, decide_false, Int.reduceEq, Int.reduceLT, Int.reduceLE, Int.reduceSub, Int.reduceAdd, Int.reduceNeg, Int.reduceToNat, Int.reduceNe, Nat.reduceAdd, Nat.reduceLT, Nat.reduceLeDiff, eq_self, if_true, if_false, str_eq, String.reduceEq, isTy, String.reduceBEq, Bool.true_or, Bool.false_or, Bool.or_true, Bool.or_false, Bool.and_true, Bool.true_and, Bool.and_false, Bool.false_and, fIsi, fIsi2, kindOf, List.set_set, List.length_cons, List.length_nil, wipeE, beq_self_eq_true]; rfl
  | call g s a b => simp (config := { implicitDefEqProofs := false }) only [Stt.d, ixT0, ixT1, ixT2, ixT3, g_bind_ok, g_bind_err, g_toS_ok, g_toS_err, g_var, g_c, g_op, g_op1, g_1, g_B, g_unB, g_test, g_and, g_or, g_not, g_kand_t, g_kand_f, g_kor_t, g_kor_f, g_knot, g_andV, g_orV, g_kandV_t, g_kandV_f, g_korV_t, g_korV_f, g_notV, g_kNotV, g_kNV, g_orT, g_kOrT, g_kOrT_t, g_kOrT_f, g_tru_bl, g_chain, g_ch1, g_ch2, g_ch3_t, g_ch3_f, g_if, g_kif_t, g_kif_f, g_nil, g_cons, g_cons1, g_cons2, g_lst, g_tup, g_allD_nil, g_allD_cons, kTup0, kTup1, kTup2, kTup3, kTup4, kLst0, kLst1, kLst2, kLst3, g_newF, g_newT, g_call, g_sl, g_sl0, g_sl1, g_sl2, g_noP, g_part, g_kPart, g_frz, g_app, g_seq, g_seq_next, g_seq_ret, g_seq_err, g_seq_brk, g_seq_cnt, g_skip, g_ret, g_kRet, g_drop, g_kDrop, g_ifS, g_kIfS_t, g_kIfS_f, g_asg, g_kAsg, g_kAsg2, g_kAsg3, g_for, g_kFor, g_lc, g_seqI, g_itemsL, g_itemsT, g_rng1, g_revR1, g_enum, g_kEnum, g_wipe, g_wipe_next, g_wipe_ret, g_wipe_err, g_addI, g_subI, g_ltI, g_leI, g_gtI, g_geI, g_eqI, g_neI, g_eqS, g_neS, g_eqB, g_neB, g_neg, g_intI, g_intB, g_lenT, g_lenL, g_isN, g_yes, g_truL, g_truI, g_isNon_tup, g_isNon_non, g_slT, g_slL, g_slS, g_listL, g_listT, g_tupleL, g_raise, g_raiseA, g_kRaise1, g_kRaise2, g_setF, g_kSetF, g_make, g_meth, g_kMeth2, g_fld, g_kFldD, g_tryA, g_tryA_next, g_tryA_ret, g_cast0, g_cast1, g_cast2, g_cast3, g_cast4, g_cast5, g_cast6, g_cast7, g_cast8, g_cast9, g_cast10, g_cast11, g_cast12, g_cast13, lk, List.set_cons_zero, List.set_cons_succ, Bool.not_true, Bool.not_false, decide_true, decide_false, Int.reduceEq, Int.reduceLT, Int.reduceLE, Int.reduceSub, Int.reduceAdd, Int.reduceNeg, Int.reduceToNat, Int.reduceNe, Nat.reduceAdd, Nat.reduceLT, Nat.reduceLeDiff, eq_self, if_true, if_false, str_eq, String.reduceEq, isTy, String.reduceBEq, Bool.true_or, Bool.false_or, Bool.or_true, Bool.or_false, Bool.and_true, Bool.true_and, Bool.and_false, Bool.false_and, fIsi, fIsi2, kindOf, List.set_set, List.length_cons, List.length_nil, wipeE, beq_self_eq_true]; rfl
  | bad => simp (config := { implicitDefEqProofs := false }) only [Stt.d, ixT0, g_bind_ok, g_bind_err, g_toS_ok, g_toS_err, g_var, g_c, g_op, g_op1, g_1, g_B, g_unB, g_test, g_and, g_or, g_not, g_kand_t, g_kand_f, g_kor_t, g_kor_f, g_knot, g_andV, g_orV, g_kandV_t, g_kandV_f, g_korV_t, g_korV_f, g_notV, g_kNotV, g_kNV, g_orT, g_kOrT, g_kOrT_t, g_kOrT_f, g_tru_bl, g_chain, g_ch1, g_ch2, g_ch3_t, g_ch3_f, g_if, g_kif_t, g_kif_f, g_nil, g_cons, g_cons1, g_cons2, g_lst, g_tup, g_allD_nil, g_allD_cons, kTup0, kTup1, kTup2, kTup3, kTup4, kLst0, kLst1, kLst2, kLst3, g_newF, g_newT, g_call, g_sl, g_sl0, g_sl1, g_sl2, g_noP, g_part, g_kPart, g_frz, g_app, g_seq, g_seq_next, g_seq_ret, g_seq_err, g_seq_brk, g_seq_cnt, g_skip, g_ret, g_kRet, g_drop, g_kDrop, g_ifS, g_kIfS_t, g_kIfS_f, g_asg, g_kAsg, g_kAsg2, g_kAsg3, g_for, g_kFor, g_lc, g_seqI, g_itemsL, g_itemsT, g_rng1, g_revR1, g_enum, g_kEnum, g_wipe, g_wipe_next, g_wipe_ret, g_wipe_err, g_addI, g_subI, g_ltI, g_leI, g_gtI, g_geI, g_eqI, g_neI, g_eqS, g_neS, g_eqB, g_neB, g_neg, g_intI, g_intB, g_lenT, g_lenL, g_isN, g_yes, g_truL, g_truI, g_isNon_tup, g_isNon_non, g_slT, g_slL, g_slS, g_listL, g_listT, g_tupleL, g_raise, g_raiseA, g_kRaise1, g_kRaise2, g_setF, g_kSetF, g_make, g_meth, g_kMeth2, g_fld, g_kFldD, g_tryA, g_tryA_next, g_tryA_ret, g_cast0, g_cast1, g_cast2, g_cast3, g_cast4, g_cast5, g_cast6, g_cast7, g_cast8, g_cast9, g_cast10, g_cast11, g_cast12, g_cast13, lk, List.set_cons_zero, List.set_cons_succ, Bool.not_true, Bool.not_false, decide_true, decide_false, Int.reduceEq, Int.reduceLT, Int.reduceLE, Int.reduceSub, Int.reduceAdd, Int.reduceNeg, Int.reduceToNat, Int.reduceNe, Nat.reduceAdd, Nat.reduceLT, Nat.reduceLeDiff, eq_self, if_true, if_false, str_eq, String.reduceEq, isTy, String.reduceBEq, Bool.true_or, Bool.false_or, Bool.or_true, Bool.or_false, Bool.and_true, Bool.true_and, Bool.and_false, Bool.false_and, fIsi, fIsi2, kindOf, List.set_set, List.length_cons, List.length_nil, wipeE, beq_self_eq_true]; rfl
theorem with_blocks {s : Stt} {S : Sto} : m_with_blocks [.dat s.d, .dat (.lst (bls s.blocks))] S = .ok (.dat s.d) S := by
  rw [show m_with_blocks [.dat s.d, .dat (.lst (bls s.blocks))] S = ofOut (b_with_blocks [some (.dat s.d), some (.dat (.lst (bls s.blocks))), none] S) from rfl]
  unfold b_with_blocks
  cases s with
  | cmd c => cases c <;> (simp (config := { implicitDefEqProofs := false }) only [Stt.d, Cmd.d, ixT0, g_bind_ok, g_bind_err, g_toS_ok, g_toS_err, g_var, g_c, g_op, g_op1, g_1, g_B, g_unB, g_test, g_and, g_or, g_not, g_kand_t, g_kand_f, g_kor_t, g_kor_f, g_knot, g_andV, g_orV, g_kandV_t, g_kandV_f, g_korV_t, g_korV_f, g_notV, g_kNotV, g_kNV, g_orT, g_kOrT, g_kOrT_t, g_kOrT_f, g_tru_bl, g_chain, g_ch1, g_ch2, g_ch3_t, g_ch3_f, g_if, g_kif_t, g_kif_f, g_nil, g_cons, g_cons1, g_cons2, g_lst, g_tup, g_allD_nil, g_allD_cons, kTup0, kTup1, kTup2, kTup3, kTup4, kLst0, kLst1, kLst2, kLst3, g_newF, g_newT, g_call, g_sl, g_sl0, g_sl1, g_sl2, g_noP, g_part, g_kPart, g_frz, g_app, g_seq, g_seq_next, g_seq_ret, g_seq_err, g_seq_brk, g_seq_cnt, g_skip, g_ret, g_kRet, g_drop, g_kDrop, g_ifS, g_kIfS_t, g_kIfS_f, g_asg, g_kAsg, g_kAsg2, g_kAsg3, g_for, g_kFor, g_lc, g_seqI, g_itemsL, g_itemsT, g_rng1, g_revR1, g_enum, g_kEnum, g_wipe, g_wipe_next, g_wipe_ret, g_wipe_err, g_addI, g_subI, g_ltI, g_leI, g_gtI, g_geI, g_eqI, g_neI, g_eqS, g_neS, g_eqB, g_neB, g_neg, g_intI, g_intB, g_lenT, g_lenL, g_isN, g_yes, g_truL, g_truI, g_isNon_tup, g_isNon_non, g_slT, g_slL, g_slS, g_listL, g_listT, g_tupleL, g_raise, g_raiseA, g_kRaise1, g_kRaise2, g_setF, g_kSetF, g_make, g_meth, g_kMeth2, g_fld, g_kFldD, g_tryA, g_tryA_next, g_tryA_ret, g_cast0, g_cast1, g_cast2, g_cast3, g_cast4, g_cast5, g_cast6, g_cast7, g_cast8, g_cast9, g_cast10, g_cast11, g_cast12, g_cast13, lk, List.set_cons_zero, List.set_cons_succ, Bool.not_true, Bool.not_false, decide_true, decide_false, Int.reduceEq, Int.reduceLT, Int.reduceLE, Int.reduceSub, Int.reduceAdd, Int.reduceNeg, Int.reduceToNat, Int.reduceNe, Nat.reduceAdd, Nat.reduceLT, Nat.reduceLeDiff, eq_self, if_true, if_false, str_eq, String.reduceEq, isTy, String.reduceBEq, Bool.true_or, Bool.false_or, Bool.or_true, Bool.or_false, Bool.and_true, Bool.true_and, Bool.and_false, Bool.false_and, fIsi, fIsi2, kindOf, List.set_set, List.length_cons, List.length_nil, wipeE, beq_self_eq_true]; rfl)
  | fin w => simp (config := { implicitDefEqProofs := false }) only [Stt.d, ixT0, g_bind_ok, g_bind_err, g_toS_ok, g_toS_err, g_var, g_c, g_op, g_op1, g_1, g_B, g_unB, g_test, g_and, g_or, g_not, g_kand_t, g_kand_f, g_kor_t, g_kor_f, g_knot, g_andV, g_orV, g_kandV_t, g_kandV_f, g_korV_t, g_korV_f, g_notV, g_kNotV, g_kNV, g_orT, g_kOrT, g_kOrT_t, g_kOrT_f, g_tru_bl, g_chain, g_ch1, g_ch2, g_ch3_t, g_ch3_f, g_if, g_kif_t, g_kif_f, g_nil, g_cons, g_cons1, g_cons2, g_lst, g_tup, g_allD_nil, g_allD_cons, kTup0, kTup1, kTup2, kTup3, kTup4, kLst0, kLst1, kLst2, kLst3, g_newF, g_newT, g_call, g_sl, g_sl0, g_sl1, g_sl2, g_noP, g_part, g_kPart, g_frz, g_app, g_seq, g_seq_next, g_seq_ret, g_seq_err, g_seq_brk, g_seq_cnt, g_skip, g_ret, g_kRet, g_drop, g_kDrop, g_ifS, g_kIfS_t, g_kIfS_f, g_asg, g_kAsg, g_kAsg2, g_kAsg3, g_for, g_kFor, g_lc, g_seqI, g_itemsL, g_itemsT, g_rng1, g_revR1, g_enum, g_kEnum, g_wipe, g_wipe_next, g_wipe_ret, g_wipe_err, g_addI, g_subI, g_ltI, g_leI, g_gtI, g_geI, g_eqI, g_neI, g_eqS, g_neS, g_eqB, g_neB, g_neg, g_intI, g_intB, g_lenT, g_lenL, g_isN, g_yes, g_truL, g_truI, g_isNon_tup, g_isNon_non, g_slT, g_slL, g_slS, g_listL, g_listT, g_tupleL, g_raise, g_raiseA, g_kRaise1, g_kRaise2, g_setF, g_kSetF, g_make, g_meth, g_kMeth2, g_fld, g_kFldD, g_tryA, g_tryA_next, g_tryA_ret, g_cast0, g_cast1, g_cast2, g_cast3, g_cast4, g_cast5, g_cast6, g_cast7, g_cast8, g_cast9, g_cast10, g_cast11, g_cast12, g_cast13, lk, List.set_cons_zero, List.set_cons_succ, Bool.not_true, Bool.not_false, decide_true, decide_false, Int.reduceEq, Int.reduceLT, Int.reduceLE, Int.reduceSub, Int.reduceAdd, Int.reduceNeg, Int.reduceToNat, Int.reduceNe, Nat.reduceAdd, Nat.reduceLT, Nat.reduceLeDiff, eq_self, if_true, if_false, str_eq, String.reduceEq, isTy, String.reduceBEq, Bool.true_or, Bool.false_or, Bool.or_true, Bool.or_false, Bool.and_true, Bool.true_and, Bool.and_false, Bool.false_and, fIsi, fIsi2, kindOf, List.set_set, List.length_cons, List.length_nil, wipeE, beq_self_eq_true]; rfl
  | keep b => simp (config := { implicitDefEqProofs := false }) only [Stt.d, Stt.blocks, bls, List.map_cons, List.map_nil, ixT0, ixL0, g_bind_ok, g_bind_err, g_toS_ok, g_toS_err, g_var, g_c, g_op, g_op1, g_1, g_B, g_unB, g_test, g_and, g_or, g_not, g_kand_t, g_kand_f, g_kor_t, g_kor_f, g_knot, g_andV, g_orV, g_kandV_t, g_kandV_f, g_korV_t, g_korV_f, g_notV, g_kNotV, g_kNV, g_orT, g_kOrT, g_kOrT_t, g_kOrT_f, g_tru_bl, g_chain, g_ch1, g_ch2, g_ch3_t, g_ch3_f, g_if, g_kif_t, g_kif_f, g_nil, g_cons, g_cons1, g_cons2, g_lst, g_tup, g_allD_nil, g_allD_cons, kTup0, kTup1, kTup2, kTup3, kTup4, kLst0, kLst1, kLst2, kLst3, g_newF, g_newT, g_call, g_sl, g_sl0, g_sl1, g_sl2, g_noP, g_part, g_kPart, g_frz, g_app, g_seq, g_seq_next, g_seq_ret, g_seq_err, g_seq_brk, g_seq_cnt, g_skip, g_ret, g_kRet, g_drop, g_kDrop, g_ifS, g_kIfS_t, g_kIfS_f, g_asg, g_kAsg, g_kAsg2, g_kAsg3, g_for, g_kFor, g_lc, g_seqI, g_itemsL, g_itemsT, g_rng1, g_revR1, g_enum, g_kEnum, g_wipe, g_wipe_next, g_wipe_ret, g_wipe_err, g_addI, g_subI, g_ltI, g_leI, g_gtI, g_geI, g_eqI, g_neI, g_eqS, g_neS, g_eqB, g_neB, g_neg, g_intI, g_intB, g_lenT, g_lenL, g_isN, g_yes, g_truL, g_truI, g_isNon_tup, g_isNon_non, g_slT, g_slL, g_slS, g_listL, g_listT, g_tupleL, g_raise, g_raiseA, g_kRaise1, g_kRaise2, g_setF, g_kSetF, g_make, g_meth, g_kMeth2, g_fld, g_kFldD, g_tryA, g_tryA_next, g_tryA_ret, g_cast0, g_cast1, g_cast2, g_cast3, g_cast4, g_cast5, g_cast6, g_cast7, g_cast8, g_cast9, g_cast10, g_cast11, g_cast12, g_cast13, lk, List.set_cons_zero, List.set_cons_succ, Bool.not_true, Bool.not_false, decide_true, decide_false, Int.reduceEq, Int.reduceLT, Int.reduceLE, Int.reduceSub, Int.reduceAdd, Int.reduceNeg, Int.reduceToNat, Int.reduceNe, Nat.reduceAdd, Nat.reduceLT, Nat.reduceLeDiff, eq_self, if_true, if_false, str_eq, String.reduceEq, isTy, String.reduceBEq, Bool.true_or, Bool.false_or, Bool.or_true, Bool.or_false, Bool.and_true, Bool.true_and, Bool.and_false, Bool.false_and, fIsi, fIsi2, kindOf, List.set_set, List.length_cons, List.length_nil, wipeE, beq_self_eq_true]; rfl
  | again b => simp (config := { implicitDefEqProofs := false }) only [Stt.d, Stt.blocks, bls, List.map_cons, List.map_nil, ixT0, ixL0, g_bind_ok, g_bind_err, g_toS_ok, g_toS_err, g_var, g_c, g_op, g_op1, g_1, g_B, g_unB, g_test, g_and, g_or, g_not, g_kand_t, g_kand_f, g_kor_t, g_kor_f, g_knot, g_andV, g_orV, g_kandV_t, g_kandV_f, g_korV_t, g_korV_f, g_notV, g_kNotV, g_kNV, g_orT, g_kOrT, g_kOrT_t, g_kOrT_f, g_tru_bl, g_chain, g_ch1, g_ch2, g_ch3_t, g_ch3_f, g_if, g_kif_t, g_kif_f, g_nil, g_cons, g_cons1, g_cons2, g_lst, g_tup, g_allD_nil, g_allD_cons, kTup0, kTup1, kTup2, kTup3, kTup4, kLst0, kLst1, kLst2, kLst3, g_newF, g_newT, g_call, g_sl, g_sl0, g_sl1, g_sl2, g_noP, g_part, g_kPart, g_frz, g_app, g_seq, g_seq_next, g_seq_ret, g_seq_err, g_seq_brk, g_seq_cnt, g_skip, g_ret, g_kRet, g_drop, g_kDrop, g_ifS, g_kIfS_t, g_kIfS_f, g_asg, g_kAsg, g_kAsg2, g_kAsg3, g_for, g_kFor, g_lc, g_seqI, g_itemsL, g_itemsT, g_rng1, g_revR1, g_enum, g_kEnum, g_wipe, g_wipe_next, g_wipe_ret, g_wipe_err, g_addI, g_subI, g_ltI, g_leI, g_gtI, g_geI, g_eqI, g_neI, g_eqS, g_neS, g_eqB, g_neB, g_neg, g_intI, g_intB, g_lenT, g_lenL, g_isN, g_yes, g_truL, g_truI, g_isNon_tup, g_isNon_non, g_slT, g_slL, g_slS, g_listL, g_listT, g_tupleL, g_raise, g_raiseA, g_kRaise1, g_kRaise2, g_setF, g_kSetF, g_make, g_meth, g_kMeth2, g_fld, g_kFldD, g_tryA, g_tryA_next, g_tryA_ret, g_cast0, g_cast1, g_cast2, g_cast3, g_cast4, g_cast5, g_cast6, g_cast7, g_cast8, g_cast9, g_cast10, g_cast11, g_cast12, g_cast13, lk, List.set_cons_zero, List.set_cons_succ, Bool.not_true, Bool.not_false, decide_true, decide_false, Int.reduceEq, Int.reduceLT, Int.reduceLE, Int.reduceSub, Int.reduceAdd, Int.reduceNeg, Int.reduceToNat, Int.reduceNe, Nat.reduceAdd, Nat.reduceLT, Nat.reduceLeDiff, eq_self, if_true, if_false, str_eq, String.reduceEq, isTy, String.reduceBEq, Bool.true_or, Bool.false_or, Bool.or_true, Bool.or_false, Bool.and_true, Bool.true_and, Bool.and_false, Bool.false_and, fIsi, fIsi2, kindOf, List.set_set, List.length_cons, List.length_nil, wipeE, beq_self_eq_true]; rfl
  | either a b => simp (config := { implicitDefEqProofs := false }) only [Stt.d, Stt.blocks, bls, List.map_cons, List.map_nil, ixT0, ixL0, ixL1, g_bind_ok, g_bind_err, g_toS_ok, g_toS_err, g_var, g_c, g_op, g_op1, g_1, g_B, g_unB, g_test, g_and, g_or, g_not, g_kand_t, g_kand_f, g_kor_t, g_kor_f, g_knot, g_andV, g_orV, g_kandV_t, g_kandV_f, g_korV_t, g_korV_f, g_notV, g_kNotV, g_kNV, g_orT, g_kOrT, g_kOrT_t, g_kOrT_f, g_tru_bl, g_chain, g_ch1, g_ch2, g_ch3_t, g_ch3_f, g_if, g_kif_t, g_kif_f, g_nil, g_cons, g_cons1, g_cons2, g_lst, g_tup, g_allD_nil, g_allD_cons, kTup0, kTup1, kTup2, kTup3, kTup4, kLst0, kLst1, kLst2, kLst3, g_newF, g_newT, g_call, g_sl, g_sl0, g_sl1, g_sl2, g_noP, g_part, g_kPart, g_frz, g_app, g_seq, g_seq_next, g_seq_ret, g_seq_err, g_seq_brk, g_seq_cnt, g_skip, g_ret, g_kRet, g_drop, g_kDrop, g_ifS, g_kIfS_t, g_kIfS_f, g_asg, g_kAsg, g_kAsg2, g_kAsg3, g_for, g_kFor, g_lc, g_seqI, g_itemsL, g_itemsT, g_rng1, g_revR1, g_enum, g_kEnum, g_wipe, g_wipe_next, g_wipe_ret, g_wipe_err, g_addI, g_subI, g_ltI, g_leI, g_gtI, g_geI, g_eqI, g_neI, g_eqS, g_neS, g_eqB, g_neB, g_neg, g_intI, g_intB, g_lenT, g_lenL, g_isN, g_yes, g_truL, g_truI, g_isNon_tup, g_isNon_non, g_slT, g_slL, g_slS, g_listL, g_listT, g_tupleL, g_raise, g_raiseA, g_kRaise1, g_kRaise2, g_setF, g_kSetF, g_make, g_meth, g_kMeth2, g_fld, g_kFldD, g_tryA, g_tryA_next, g_tryA_ret, g_cast0, g_cast1, g_cast2, g_cast3, g_cast4, g_cast5, g_cast6, g_cast7, g_cast8, g_cast9, g_cast10, g_cast11, g_cast12, g_cast13, lk, List.set_cons_zero, List.set_cons_succ, Bool.not_true, Bool.not_false, decide_true, decide_false, Int.reduceEq, Int.reduceLT, Int.reduceLE, Int.reduceSub, Int.reduceAdd, Int.reduceNeg, Int.reduceToNat, Int.reduceNe, Nat.reduceAdd, Nat.reduceLT, Nat.reduceLeDiff, eq_self, if_true, if_false, str_eq, String.reduceEq, isTy, String.reduceBEq, Bool.true_or, Bool.false_or, Bool.or_true, Bool.or_false, Bool.and_true, Bool.true_and, Bool.and_false, Bool.false_and, fIsi, fIsi2, kindOf, List.set_set, List.length_cons, List.length_nil, wipeE, beq_self_eq_true]; rfl
  | call g s a b => simp (config := { implicitDefEqProofs := false }) only [Stt.d, Stt.blocks, bls, List.map_cons, List.map_nil, ixT0, ixT1, ixT2, g_bind_ok, g_bind_err, g_toS_ok, g_toS_err, g_var, g_c, g_op, g_op1, g_1, g_B, g_unB, g_test, g_and, g_or, g_not, g_kand_t, g_kand_f, g_kor_t, g_kor_f, g_knot, g_andV, g_orV, g_kandV_t, g_kandV_f, g_korV_t, g_korV_f, g_notV, g_kNotV, g_kNV, g_orT, g_kOrT, g_kOrT_t, g_kOrT_f, g_tru_bl, g_chain, g_ch1, g_ch2, g_ch3_t, g_ch3_f, g_if, g_kif_t, g_kif_f, g_nil, g_cons, g_cons1, g_cons2, g_lst, g_tup, g_allD_nil, g_allD_cons, kTup0, kTup1, kTup2, kTup3, kTup4, kLst0, kLst1, kLst2, kLst3, g_newF, g_newT, g_call, g_sl, g_sl0, g_sl1, g_sl2, g_noP, g_part, g_kPart, g_frz, g_app, g_seq, g_seq_next, g_seq_ret, g_seq_err, g_seq_brk, g_seq_cnt, g_skip, g_ret, g_kRet, g_drop, g_kDrop, g_ifS, g_kIfS_t, g_kIfS_f, g_asg, g_kAsg, g_kAsg2, g_kAsg3, g_for, g_kFor, g_lc, g_seqI, g_itemsL, g_itemsT, g_rng1, g_revR1, g_enum, g_kEnum, g_wipe, g_wipe_next, g_wipe_ret, g_wipe_err, g_addI, g_subI, g_ltI, g_leI, g_gtI, g_geI, g_eqI, g_neI, g_eqS, g_neS, g_eqB, g_neB, g_neg, g_intI, g_intB, g_lenT, g_lenL, g_isN, g_yes, g_truL, g_truI, g_isNon_tup, g_isNon_non, g_slT, g_slL, g_slS, g_listL, g_listT, g_tupleL, g_raise, g_raiseA, g_kRaise1, g_kRaise2, g_setF, g_kSetF, g_make, g_meth, g_kMeth2, g_fld, g_kFldD, g_tryA, g_tryA_next, g_tryA_ret, g_cast0, g_cast1, g_cast2, g_cast3, g_cast4, g_cast5, g_cast6, g_cast7, g_cast8, g_cast9, g_cast10, g_cast11, g_cast12, g_cast13, lk, List.set_cons_zero, List.set_cons_succ, Bool.not_true, Bool.not_false, decide_true, decide_false, Int.reduceEq, Int.reduceLT, Int.reduceLE, Int.reduceSub, Int.reduceAdd, Int.reduceNeg, Int.reduceToNat, Int.reduceNe, Nat.reduceAdd, Nat.reduceLT, Nat.reduceLeDiff, eq_self, if_true, if_false, str_eq, String.reduceEq, isTy, String.reduceBEq, Bool.true_or, Bool.false_or, Bool.or_true, Bool.or_false, Bool.and_true, Bool.true_and, Bool.and_false, Bool.false_and, fIsi, fIsi2, kindOf, List.set_set, List.length_cons, List.length_nil, wipeE, beq_self_eq_true]; rfl
  | bad => simp (config := { implicitDefEqProofs := false }) only [Stt.d, ixT0, g_bind_ok, g_bind_err, g_toS_ok, g_toS_err, g_var, g_c, g_op, g_op1, g_1, g_B, g_unB, g_test, g_and, g_or, g_not, g_kand_t, g_kand_f, g_kor_t, g_kor_f, g_knot, g_andV, g_orV, g_kandV_t, g_kandV_f, g_korV_t, g_korV_f, g_notV, g_kNotV, g_kNV, g_orT, g_kOrT, g_kOrT_t, g_kOrT_f, g_tru_bl, g_chain, g_ch1, g_ch2, g_ch3_t, g_ch3_f, g_if, g_kif_t, g_kif_f, g_nil, g_cons, g_cons1, g_cons2, g_lst, g_tup, g_allD_nil, g_allD_cons, kTup0, kTup1, kTup2, kTup3, kTup4, kLst0, kLst1, kLst2, kLst3, g_newF, g_newT, g_call, g_sl, g_sl0, g_sl1, g_sl2, g_noP, g_part, g_kPart, g_frz, g_app, g_seq, g_seq_next, g_seq_ret, g_seq_err, g_seq_brk, g_seq_cnt, g_skip, g_ret, g_kRet, g_drop, g_kDrop, g_ifS, g_kIfS_t, g_kIfS_f, g_asg, g_kAsg, g_kAsg2, g_kAsg3, g_for, g_kFor, g_lc, g_seqI, g_itemsL, g_itemsT, g_rng1, g_revR1, g_enum, g_kEnum, g_wipe, g_wipe_next, g_wipe_ret, g_wipe_err, g_addI, g_subI, g_ltI, g_leI, g_gtI, g_geI, g_eqI, g_neI, g_eqS, g_neS, g_eqB, g_neB, g_neg, g_intI, g_intB, g_lenT, g_lenL, g_isN, g_yes, g_truL, g_truI, g_isNon_tup, g_isNon_non, g_slT, g_slL, g_slS, g_listL, g_listT, g_tupleL, g_raise, g_raiseA, g_kRaise1, g_kRaise2, g_setF, g_kSetF, g_make, g_meth, g_kMeth2, g_fld, g_kFldD, g_tryA, g_tryA_next, g_tryA_ret, g_cast0, g_cast1, g_cast2, g_cast3, g_cast4, g_cast5, g_cast6, g_cast7, g_cast8, g_cast9, g_cast10, g_cast11, g_cast12, g_cast13, lk, List.set_cons_zero, List.set_cons_succ, Bool.not_true, Bool.not_false, decide_true, decide_false, Int.reduceEq, Int.reduceLT, Int.reduceLE, Int.reduceSub, Int.reduceAdd, Int.reduceNeg, Int.reduceToNat, Int.reduceNe, Nat.reduceAdd, Nat.reduceLT, Nat.reduceLeDiff, eq_self, if_true, if_false, str_eq, String.reduceEq, isTy, String.reduceBEq, Bool.true_or, Bool.false_or, Bool.or_true, Bool.or_false, Bool.and_true, Bool.true_and, Bool.and_false, Bool.false_and, fIsi, fIsi2, kindOf, List.set_set, List.length_cons, List.length_nil, wipeE, beq_self_eq_true]; rfl
def Stt.wf (lv : Int) : Stt → Bool
  | .cmd _ => true
  | .fin _ => true
  | .bad => false
  | _ => !decide (lv = 3)
theorem isb {i : Int} (h : 0 ≤ i ∧ i ≤ 1) : (decide (0 ≤ i) && decide (i ≤ 1)) = true := by simp [h.1, h.2]
theorem well_formed {s : Stt} {lv many : Int} {n : Nat} {S : Sto} (h : s.Ok many n) : m_well_formed [.dat s.d, .dat (.int lv), .dat (.int many)] S = .ok (.dat (.bl (s.wf lv))) S := by
  rw [show m_well_formed [.dat s.d, .dat (.int lv), .dat (.int many)] S = ofOut (b_well_formed [some (.dat s.d), some (.dat (.int lv)), some (.dat (.int many)), none] S) from rfl]
  unfold b_well_formed
  cases s with
  | cmd c => simp (config := { implicitDefEqProofs := false }) only [Stt.d, is_cmd h, g_bind_ok, g_bind_err, g_toS_ok, g_toS_err, g_var, g_c, g_op, g_op1, g_1, g_B, g_unB, g_test, g_and, g_or, g_not, g_kand_t, g_kand_f, g_kor_t, g_kor_f, g_knot, g_andV, g_orV, g_kandV_t, g_kandV_f, g_korV_t, g_korV_f, g_notV, g_kNotV, g_kNV, g_orT, g_kOrT, g_kOrT_t, g_kOrT_f, g_tru_bl, g_chain, g_ch1, g_ch2, g_ch3_t, g_ch3_f, g_if, g_kif_t, g_kif_f, g_nil, g_cons, g_cons1, g_cons2, g_lst, g_tup, g_allD_nil, g_allD_cons, kTup0, kTup1, kTup2, kTup3, kTup4, kLst0, kLst1, kLst2, kLst3, g_newF, g_newT, g_call, g_sl, g_sl0, g_sl1, g_sl2, g_noP, g_part, g_kPart, g_frz, g_app, g_seq, g_seq_next, g_seq_ret, g_seq_err, g_seq_brk, g_seq_cnt, g_skip, g_ret, g_kRet, g_drop, g_kDrop, g_ifS, g_kIfS_t, g_kIfS_f, g_asg, g_kAsg, g_kAsg2, g_kAsg3, g_for, g_kFor, g_lc, g_seqI, g_itemsL, g_itemsT, g_rng1, g_revR1, g_enum, g_kEnum, g_wipe, g_wipe_next, g_wipe_ret, g_wipe_err, g_addI, g_subI, g_ltI, g_leI, g_gtI, g_geI, g_eqI, g_neI, g_eqS, g_neS, g_eqB, g_neB, g_neg, g_intI, g_intB, g_lenT, g_lenL, g_isN, g_yes, g_truL, g_truI, g_isNon_tup, g_isNon_non, g_slT, g_slL, g_slS, g_listL, g_listT, g_tupleL, g_raise, g_raiseA, g_kRaise1, g_kRaise2, g_setF, g_kSetF, g_make, g_meth, g_kMeth2, g_fld, g_kFldD, g_tryA, g_tryA_next, g_tryA_ret, g_cast0, g_cast1, g_cast2, g_cast3, g_cast4, g_cast5, g_cast6, g_cast7, g_cast8, g_cast9, g_cast10, g_cast11, g_cast12, g_cast13, lk, List.set_cons_zero, List.set_cons_succ, Bool.not_true, Bool.not_false, decide_true, decide_false, Int.reduceEq, Int.reduceLT, Int.reduceLE, Int.reduceSub, Int.reduceAdd, Int.reduceNeg, Int.reduceToNat, Int.reduceNe, Nat.reduceAdd, Nat.reduceLT, Nat.reduceLeDiff, eq_self, if_true, if_false, str_eq, String.reduceEq, isTy, String.reduceBEq, Bool.true_or, Bool.false_or, Bool.or_true, Bool.or_false, Bool.and_true, Bool.true_and, Bool.and_false, Bool.false_and, fIsi, fIsi2, kindOf, List.set_set, List.length_cons, List.length_nil, wipeE, beq_self_eq_true]; rfl
  | fin w => simp (config := { implicitDefEqProofs := false }) only [Stt.d, no_cmd inl_end, ixT0, ixT1, isbit_int, isb h, g_bind_ok, g_bind_err, g_toS_ok, g_toS_err, g_var, g_c, g_op, g_op1, g_1, g_B, g_unB, g_test, g_and, g_or, g_not, g_kand_t, g_kand_f, g_kor_t, g_kor_f, g_knot, g_andV, g_orV, g_kandV_t, g_kandV_f, g_korV_t, g_korV_f, g_notV, g_kNotV, g_kNV, g_orT, g_kOrT, g_kOrT_t, g_kOrT_f, g_tru_bl, g_chain, g_ch1, g_ch2, g_ch3_t, g_ch3_f, g_if, g_kif_t, g_kif_f, g_nil, g_cons, g_cons1, g_cons2, g_lst, g_tup, g_allD_nil, g_allD_cons, kTup0, kTup1, kTup2, kTup3, kTup4, kLst0, kLst1, kLst2, kLst3, g_newF, g_newT, g_call, g_sl, g_sl0, g_sl1, g_sl2, g_noP, g_part, g_kPart, g_frz, g_app, g_seq, g_seq_next, g_seq_ret, g_seq_err, g_seq_brk, g_seq_cnt, g_skip, g_ret, g_kRet, g_drop, g_kDrop, g_ifS, g_kIfS_t, g_kIfS_f, g_asg, g_kAsg, g_kAsg2, g_kAsg3, g_for, g_kFor, g_lc, g_seqI, g_itemsL, g_itemsT, g_rng1, g_revR1, g_enum, g_kEnum, g_wipe, g_wipe_next, g_wipe_ret, g_wipe_err, g_addI, g_subI, g_ltI, g_leI, g_gtI, g_geI, g_eqI, g_neI, g_eqS, g_neS, g_eqB, g_neB, g_neg, g_intI, g_intB, g_lenT, g_lenL, g_isN, g_yes, g_truL, g_truI, g_isNon_tup, g_isNon_non, g_slT, g_slL, g_slS, g_listL, g_listT, g_tupleL, g_raise, g_raiseA, g_kRaise1, g_kRaise2, g_setF, g_kSetF, g_make, g_meth, g_kMeth2, g_fld, g_kFldD, g_tryA, g_tryA_next, g_tryA_ret, g_cast0, g_cast1, g_cast2, g_cast3, g_cast4, g_cast5, g_cast6, g_cast7, g_cast8, g_cast9, g_cast10, g_cast11, g_cast12, g_cast13, lk, List.set_cons_zero, List.set_cons_succ, Bool.not_true, Bool.not_false, decide_true, decide_false, Int.reduceEq, Int.reduceLT, Int.reduceLE, Int.reduceSub, Int.reduceAdd, Int.reduceNeg, Int.reduceToNat, Int.reduceNe, Nat.reduceAdd, Nat.reduceLT, Nat.reduceLeDiff, eq_self, if_true, if_false, str_eq, String.reduceEq, isTy, String.reduceBEq, Bool.true_or, Bool.false_or, Bool.or_true, Bool.or_false, Bool.and_true, Bool.true_and, Bool.and_false, Bool.false_and, fIsi, fIsi2, kindOf, List.set_set, List.length_cons, List.length_nil, wipeE, beq_self_eq_true]; rfl
  | bad => simp (config := { implicitDefEqProofs := false }) only [Stt.d, no_cmd inl_bad, g_bind_ok, g_bind_err, g_toS_ok, g_toS_err, g_var, g_c, g_op, g_op1, g_1, g_B, g_unB, g_test, g_and, g_or, g_not, g_kand_t, g_kand_f, g_kor_t, g_kor_f, g_knot, g_andV, g_orV, g_kandV_t, g_kandV_f, g_korV_t, g_korV_f, g_notV, g_kNotV, g_kNV, g_orT, g_kOrT, g_kOrT_t, g_kOrT_f, g_tru_bl, g_chain, g_ch1, g_ch2, g_ch3_t, g_ch3_f, g_if, g_kif_t, g_kif_f, g_nil, g_cons, g_cons1, g_cons2, g_lst, g_tup, g_allD_nil, g_allD_cons, kTup0, kTup1, kTup2, kTup3, kTup4, kLst0, kLst1, kLst2, kLst3, g_newF, g_newT, g_call, g_sl, g_sl0, g_sl1, g_sl2, g_noP, g_part, g_kPart, g_frz, g_app, g_seq, g_seq_next, g_seq_ret, g_seq_err, g_seq_brk, g_seq_cnt, g_skip, g_ret, g_kRet, g_drop, g_kDrop, g_ifS, g_kIfS_t, g_kIfS_f, g_asg, g_kAsg, g_kAsg2, g_kAsg3, g_for, g_kFor, g_lc, g_seqI, g_itemsL, g_itemsT, g_rng1, g_revR1, g_enum, g_kEnum, g_wipe, g_wipe_next, g_wipe_ret, g_wipe_err, g_addI, g_subI, g_ltI, g_leI, g_gtI, g_geI, g_eqI, g_neI, g_eqS, g_neS, g_eqB, g_neB, g_neg, g_intI, g_intB, g_lenT, g_lenL, g_isN, g_yes, g_truL, g_truI, g_isNon_tup, g_isNon_non, g_slT, g_slL, g_slS, g_listL, g_listT, g_tupleL, g_raise, g_raiseA, g_kRaise1, g_kRaise2, g_setF, g_kSetF, g_make, g_meth, g_kMeth2, g_fld, g_kFldD, g_tryA, g_tryA_next, g_tryA_ret, g_cast0, g_cast1, g_cast2, g_cast3, g_cast4, g_cast5, g_cast6, g_cast7, g_cast8, g_cast9, g_cast10, g_cast11, g_cast12, g_cast13, lk, List.set_cons_zero, List.set_cons_succ, Bool.not_true, Bool.not_false, decide_true, decide_false, Int.reduceEq, Int.reduceLT, Int.reduceLE, Int.reduceSub, Int.reduceAdd, Int.reduceNeg, Int.reduceToNat, Int.reduceNe, Nat.reduceAdd, Nat.reduceLT, Nat.reduceLeDiff, eq_self, if_true, if_false, str_eq, String.reduceEq, isTy, String.reduceBEq, Bool.true_or, Bool.false_or, Bool.or_true, Bool.or_false, Bool.and_true, Bool.true_and, Bool.and_false, Bool.false_and, fIsi, fIsi2, kindOf, List.set_set, List.length_cons, List.length_nil, wipeE, beq_self_eq_true]; rfl
  | keep b =>
    by_cases hl : lv = 3
    · simp (config := { implicitDefEqProofs := false }) only [Stt.d, no_cmd inl_keep, ixT0, ixT1, decide_eq_true hl, g_bind_ok, g_bind_err, g_toS_ok, g_toS_err, g_var, g_c, g_op, g_op1, g_1, g_B, g_unB, g_test, g_and, g_or, g_not, g_kand_t, g_kand_f, g_kor_t, g_kor_f, g_knot, g_andV, g_orV, g_kandV_t, g_kandV_f, g_korV_t, g_korV_f, g_notV, g_kNotV, g_kNV, g_orT, g_kOrT, g_kOrT_t, g_kOrT_f, g_tru_bl, g_chain, g_ch1, g_ch2, g_ch3_t, g_ch3_f, g_if, g_kif_t, g_kif_f, g_nil, g_cons, g_cons1, g_cons2, g_lst, g_tup, g_allD_nil, g_allD_cons, kTup0, kTup1, kTup2, kTup3, kTup4, kLst0, kLst1, kLst2, kLst3, g_newF, g_newT, g_call, g_sl, g_sl0, g_sl1, g_sl2, g_noP, g_part, g_kPart, g_frz, g_app, g_seq, g_seq_next, g_seq_ret, g_seq_err, g_seq_brk, g_seq_cnt, g_skip, g_ret, g_kRet, g_drop, g_kDrop, g_ifS, g_kIfS_t, g_kIfS_f, g_asg, g_kAsg, g_kAsg2, g_kAsg3, g_for, g_kFor, g_lc, g_seqI, g_itemsL, g_itemsT, g_rng1, g_revR1, g_enum, g_kEnum, g_wipe, g_wipe_next, g_wipe_ret, g_wipe_err, g_addI, g_subI, g_ltI, g_leI, g_gtI, g_geI, g_eqI, g_neI, g_eqS, g_neS, g_eqB, g_neB, g_neg, g_intI, g_intB, g_lenT, g_lenL, g_isN, g_yes, g_truL, g_truI, g_isNon_tup, g_isNon_non, g_slT, g_slL, g_slS, g_listL, g_listT, g_tupleL, g_raise, g_raiseA, g_kRaise1, g_kRaise2, g_setF, g_kSetF, g_make, g_meth, g_kMeth2, g_fld, g_kFldD, g_tryA, g_tryA_next, g_tryA_ret, g_cast0, g_cast1, g_cast2, g_cast3, g_cast4, g_cast5, g_cast6, g_cast7, g_cast8, g_cast9, g_cast10, g_cast11, g_cast12, g_cast13, lk, List.set_cons_zero, List.set_cons_succ, Bool.not_true, Bool.not_false, decide_true, decide_false, Int.reduceEq, Int.reduceLT, Int.reduceLE, Int.reduceSub, Int.reduceAdd, Int.reduceNeg, Int.reduceToNat, Int.reduceNe, Nat.reduceAdd, Nat.reduceLT, Nat.reduceLeDiff, eq_self, if_true, if_false, str_eq, String.reduceEq, isTy, String.reduceBEq, Bool.true_or, Bool.false_or, Bool.or_true, Bool.or_false, Bool.and_true, Bool.true_and, Bool.and_false, Bool.false_and, fIsi, fIsi2, kindOf, List.set_set, List.length_cons, List.length_nil, wipeE, beq_self_eq_true]; simp [Stt.wf, hl]; rfl
    · simp (config := { implicitDefEqProofs := false }) only [Stt.d, no_cmd inl_keep, ixT0, ixT1, decide_eq_false hl, g_bind_ok, g_bind_err, g_toS_ok, g_toS_err, g_var, g_c, g_op, g_op1, g_1, g_B, g_unB, g_test, g_and, g_or, g_not, g_kand_t, g_kand_f, g_kor_t, g_kor_f, g_knot, g_andV, g_orV, g_kandV_t, g_kandV_f, g_korV_t, g_korV_f, g_notV, g_kNotV, g_kNV, g_orT, g_kOrT, g_kOrT_t, g_kOrT_f, g_tru_bl, g_chain, g_ch1, g_ch2, g_ch3_t, g_ch3_f, g_if, g_kif_t, g_kif_f, g_nil, g_cons, g_cons1, g_cons2, g_lst, g_tup, g_allD_nil, g_allD_cons, kTup0, kTup1, kTup2, kTup3, kTup4, kLst0, kLst1, kLst2, kLst3, g_newF, g_newT, g_call, g_sl, g_sl0, g_sl1, g_sl2, g_noP, g_part, g_kPart, g_frz, g_app, g_seq, g_seq_next, g_seq_ret, g_seq_err, g_seq_brk, g_seq_cnt, g_skip, g_ret, g_kRet, g_drop, g_kDrop, g_ifS, g_kIfS_t, g_kIfS_f, g_asg, g_kAsg, g_kAsg2, g_kAsg3, g_for, g_kFor, g_lc, g_seqI, g_itemsL, g_itemsT, g_rng1, g_revR1, g_enum, g_kEnum, g_wipe, g_wipe_next, g_wipe_ret, g_wipe_err, g_addI, g_subI, g_ltI, g_leI, g_gtI, g_geI, g_eqI, g_neI, g_eqS, g_neS, g_eqB, g_neB, g_neg, g_intI, g_intB, g_lenT, g_lenL, g_isN, g_yes, g_truL, g_truI, g_isNon_tup, g_isNon_non, g_slT, g_slL, g_slS, g_listL, g_listT, g_tupleL, g_raise, g_raiseA, g_kRaise1, g_kRaise2, g_setF, g_kSetF, g_make, g_meth, g_kMeth2, g_fld, g_kFldD, g_tryA, g_tryA_next, g_tryA_ret, g_cast0, g_cast1, g_cast2, g_cast3, g_cast4, g_cast5, g_cast6, g_cast7, g_cast8, g_cast9, g_cast10, g_cast11, g_cast12, g_cast13, lk, List.set_cons_zero, List.set_cons_succ, Bool.not_true, Bool.not_false, decide_true, decide_false, Int.reduceEq, Int.reduceLT, Int.reduceLE, Int.reduceSub, Int.reduceAdd, Int.reduceNeg, Int.reduceToNat, Int.reduceNe, Nat.reduceAdd, Nat.reduceLT, Nat.reduceLeDiff, eq_self, if_true, if_false, str_eq, String.reduceEq, isTy, String.reduceBEq, Bool.true_or, Bool.false_or, Bool.or_true, Bool.or_false, Bool.and_true, Bool.true_and, Bool.and_false, Bool.false_and, fIsi, fIsi2, kindOf, List.set_set, List.length_cons, List.length_nil, wipeE, beq_self_eq_true]; simp [Stt.wf, hl]; rfl
  | again b =>
    by_cases hl : lv = 3
    · simp (config := { implicitDefEqProofs := false }) only [Stt.d, no_cmd inl_again, ixT0, ixT1, decide_eq_true hl, g_bind_ok, g_bind_err, g_toS_ok, g_toS_err, g_var, g_c, g_op, g_op1, g_1, g_B, g_unB, g_test, g_and, g_or, g_not, g_kand_t, g_kand_f, g_kor_t, g_kor_f, g_knot, g_andV, g_orV, g_kandV_t, g_kandV_f, g_korV_t, g_korV_f, g_notV, g_kNotV, g_kNV, g_orT, g_kOrT, g_kOrT_t, g_kOrT_f, g_tru_bl, g_chain, g_ch1, g_ch2, g_ch3_t, g_ch3_f, g_if, g_kif_t, g_kif_f, g_nil, g_cons, g_cons1, g_cons2, g_lst, g_tup, g_allD_nil, g_allD_cons, kTup0, kTup1, kTup2, kTup3, kTup4, kLst0, kLst1, kLst2, kLst3, g_newF, g_newT, g_call, g_sl, g_sl0, g_sl1, g_sl2, g_noP, g_part, g_kPart, g_frz, g_app, g_seq, g_seq_next, g_seq_ret, g_seq_err, g_seq_brk, g_seq_cnt, g_skip, g_ret, g_kRet, g_drop, g_kDrop, g_ifS, g_kIfS_t, g_kIfS_f, g_asg, g_kAsg, g_kAsg2, g_kAsg3, g_for, g_kFor, g_lc, g_seqI, g_itemsL, g_itemsT, g_rng1, g_revR1, g_enum, g_kEnum, g_wipe, g_wipe_next, g_wipe_ret, g_wipe_err, g_addI, g_subI, g_ltI, g_leI, g_gtI, g_geI, g_eqI, g_neI, g_eqS, g_neS, g_eqB, g_neB, g_neg, g_intI, g_intB, g_lenT, g_lenL, g_isN, g_yes, g_truL, g_truI, g_isNon_tup, g_isNon_non, g_slT, g_slL, g_slS, g_listL, g_listT, g_tupleL, g_raise, g_raiseA, g_kRaise1, g_kRaise2, g_setF, g_kSetF, g_make, g_meth, g_kMeth2, g_fld, g_kFldD, g_tryA, g_tryA_next, g_tryA_ret, g_cast0, g_cast1, g_cast2, g_cast3, g_cast4, g_cast5, g_cast6, g_cast7, g_cast8, g_cast9, g_cast10, g_cast11, g_cast12, g_cast13, lk, List.set_cons_zero, List.set_cons_succ, Bool.not_true, Bool.not_false, decide_true, decide_false, Int.reduceEq, Int.reduceLT, Int.reduceLE, Int.reduceSub, Int.reduceAdd, Int.reduceNeg, Int.reduceToNat, Int.reduceNe, Nat.reduceAdd, Nat.reduceLT, Nat.reduceLeDiff, eq_self, if_true, if_false, str_eq, String.reduceEq, isTy, String.reduceBEq, Bool.true_or, Bool.false_or, Bool.or_true, Bool.or_false, Bool.and_true, Bool.true_and, Bool.and_false, Bool.false_and, fIsi, fIsi2, kindOf, List.set_set, List.length_cons, List.length_nil, wipeE, beq_self_eq_true]; simp [Stt.wf, hl]; rfl
    · simp (config := { implicitDefEqProofs := false }) only [Stt.d, no_cmd inl_again, ixT0, ixT1, decide_eq_false hl, g_bind_ok, g_bind_err, g_toS_ok, g_toS_err, g_var, g_c, g_op, g_op1, g_1, g_B, g_unB, g_test, g_and, g_or, g_not, g_kand_t, g_kand_f, g_kor_t, g_kor_f, g_knot, g_andV, g_orV, g_kandV_t, g_kandV_f, g_korV_t, g_korV_f, g_notV, g_kNotV, g_kNV, g_orT, g_kOrT, g_kOrT_t, g_kOrT_f, g_tru_bl, g_chain, g_ch1, g_ch2, g_ch3_t, g_ch3_f, g_if, g_kif_t, g_kif_f, g_nil, g_cons, g_cons1, g_cons2, g_lst, g_tup, g_allD_nil, g_allD_cons, kTup0, kTup1, kTup2, kTup3, kTup4, kLst0, kLst1, kLst2, kLst3, g_newF, g_newT, g_call, g_sl, g_sl0, g_sl1, g_sl2, g_noP, g_part, g_kPart, g_frz, g_app, g_seq, g_seq_next, g_seq_ret, g_seq_err, g_seq_brk, g_seq_cnt, g_skip, g_ret, g_kRet, g_drop, g_kDrop, g_ifS, g_kIfS_t, g_kIfS_f, g_asg, g_kAsg, g_kAsg2, g_kAsg3, g_for, g_kFor, g_lc, g_seqI, g_itemsL, g_itemsT, g_rng1, g_revR1, g_enum, g_kEnum, g_wipe, g_wipe_next, g_wipe_ret, g_wipe_err, g_addI, g_subI, g_ltI, g_leI, g_gtI, g_geI, g_eqI, g_neI, g_eqS, g_neS, g_eqB, g_neB, g_neg, g_intI, g_intB, g_lenT, g_lenL, g_isN, g_yes, g_truL, g_truI, g_isNon_tup, g_isNon_non, g_slT, g_slL, g_slS, g_listL, g_listT, g_tupleL, g_raise, g_raiseA, g_kRaise1, g_kRaise2, g_setF, g_kSetF, g_make, g_meth, g_kMeth2, g_fld, g_kFldD, g_tryA, g_tryA_next, g_tryA_ret, g_cast0, g_cast1, g_cast2, g_cast3, g_cast4, g_cast5, g_cast6, g_cast7, g_cast8, g_cast9, g_cast10, g_cast11, g_cast12, g_cast13, lk, List.set_cons_zero, List.set_cons_succ, Bool.not_true, Bool.not_false, decide_true, decide_false, Int.reduceEq, Int.reduceLT, Int.reduceLE, Int.reduceSub, Int.reduceAdd, Int.reduceNeg, Int.reduceToNat, Int.reduceNe, Nat.reduceAdd, Nat.reduceLT, Nat.reduceLeDiff, eq_self, if_true, if_false, str_eq, String.reduceEq, isTy, String.reduceBEq, Bool.true_or, Bool.false_or, Bool.or_true, Bool.or_false, Bool.and_true, Bool.true_and, Bool.and_false, Bool.false_and, fIsi, fIsi2, kindOf, List.set_set, List.length_cons, List.length_nil, wipeE, beq_self_eq_true]; simp [Stt.wf, hl]; rfl
  | either a b =>
    by_cases hl : lv = 3
    · simp (config := { implicitDefEqProofs := false }) only [Stt.d, no_cmd inl_either, ixT0, ixT1, ixT2, decide_eq_true hl, g_bind_ok, g_bind_err, g_toS_ok, g_toS_err, g_var, g_c, g_op, g_op1, g_1, g_B, g_unB, g_test, g_and, g_or, g_not, g_kand_t, g_kand_f, g_kor_t, g_kor_f, g_knot, g_andV, g_orV, g_kandV_t, g_kandV_f, g_korV_t, g_korV_f, g_notV, g_kNotV, g_kNV, g_orT, g_kOrT, g_kOrT_t, g_kOrT_f, g_tru_bl, g_chain, g_ch1, g_ch2, g_ch3_t, g_ch3_f, g_if, g_kif_t, g_kif_f, g_nil, g_cons, g_cons1, g_cons2, g_lst, g_tup, g_allD_nil, g_allD_cons, kTup0, kTup1, kTup2, kTup3, kTup4, kLst0, kLst1, kLst2, kLst3, g_newF, g_newT, g_call, g_sl, g_sl0, g_sl1, g_sl2, g_noP, g_part, g_kPart, g_frz, g_app, g_seq, g_seq_next, g_seq_ret, g_seq_err, g_seq_brk, g_seq_cnt, g_skip, g_ret, g_kRet, g_drop, g_kDrop, g_ifS, g_kIfS_t, g_kIfS_f, g_asg, g_kAsg, g_kAsg2, g_kAsg3, g_for, g_kFor, g_lc, g_seqI, g_itemsL, g_itemsT, g_rng1, g_revR1, g_enum, g_kEnum, g_wipe, g_wipe_next, g_wipe_ret, g_wipe_err, g_addI, g_subI, g_ltI, g_leI, g_gtI, g_geI, g_eqI, g_neI, g_eqS, g_neS, g_eqB, g_neB, g_neg, g_intI, g_intB, g_lenT, g_lenL, g_isN, g_yes, g_truL, g_truI, g_isNon_tup, g_isNon_non, g_slT, g_slL, g_slS, g_listL, g_listT, g_tupleL, g_raise, g_raiseA, g_kRaise1, g_kRaise2, g_setF, g_kSetF, g_make, g_meth, g_kMeth2, g_fld, g_kFldD, g_tryA, g_tryA_next, g_tryA_ret, g_cast0, g_cast1, g_cast2, g_cast3, g_cast4, g_cast5, g_cast6, g_cast7, g_cast8, g_cast9, g_cast10, g_cast11, g_cast12, g_cast13, lk, List.set_cons_zero, List.set_cons_succ, Bool.not_true, Bool.not_false, decide_true, decide_false, Int.reduceEq, Int.reduceLT, Int.reduceLE, Int.reduceSub, Int.reduceAdd, Int.reduceNeg, Int.reduceToNat, Int.reduceNe, Nat.reduceAdd, Nat.reduceLT, Nat.reduceLeDiff, eq_self, if_true, if_false, str_eq, String.reduceEq, isTy, String.reduceBEq, Bool.true_or, Bool.false_or, Bool.or_true, Bool.or_false, Bool.and_true, Bool.true_and, Bool.and_false, Bool.false_and, fIsi, fIsi2, kindOf, List.set_set, List.length_cons, List.length_nil, wipeE, beq_self_eq_true]; simp [Stt.wf, hl]; rfl
    · simp (config := { implicitDefEqProofs := false }) only [Stt.d, no_cmd inl_either, ixT0, ixT1, ixT2, decide_eq_false hl, g_bind_ok, g_bind_err, g_toS_ok, g_toS_err, g_var, g_c, g_op, g_op1, g_1, g_B, g_unB, g_test, g_and, g_or, g_not, g_kand_t, g_kand_f, g_kor_t, g_kor_f, g_knot, g_andV, g_orV, g_kandV_t, g_kandV_f, g_korV_t, g_korV_f, g_notV, g_kNotV, g_kNV, g_orT, g_kOrT, g_kOrT_t, g_kOrT_f, g_tru_bl, g_chain, g_ch1, g_ch2, g_ch3_t, g_ch3_f, g_if, g_kif_t, g_kif_f, g_nil, g_cons, g_cons1, g_cons2, g_lst, g_tup, g_allD_nil, g_allD_cons, kTup0, kTup1, kTup2, kTup3, kTup4, kLst0, kLst1, kLst2, kLst3, g_newF, g_newT, g_call, g_sl, g_sl0, g_sl1, g_sl2, g_noP, g_part, g_kPart, g_frz, g_app, g_seq, g_seq_next, g_seq_ret, g_seq_err, g_seq_brk, g_seq_cnt, g_skip, g_ret, g_kRet, g_drop, g_kDrop, g_ifS, g_kIfS_t, g_kIfS_f, g_asg, g_kAsg, g_kAsg2, g_kAsg3, g_for, g_kFor, g_lc, g_seqI, g_itemsL, g_itemsT, g_rng1, g_revR1, g_enum, g_kEnum, g_wipe, g_wipe_next, g_wipe_ret, g_wipe_err, g_addI, g_subI, g_ltI, g_leI, g_gtI, g_geI, g_eqI, g_neI, g_eqS, g_neS, g_eqB, g_neB, g_neg, g_intI, g_intB, g_lenT, g_lenL, g_isN, g_yes, g_truL, g_truI, g_isNon_tup, g_isNon_non, g_slT, g_slL, g_slS, g_listL, g_listT, g_tupleL, g_raise, g_raiseA, g_kRaise1, g_kRaise2, g_setF, g_kSetF, g_make, g_meth, g_kMeth2, g_fld, g_kFldD, g_tryA, g_tryA_next, g_tryA_ret, g_cast0, g_cast1, g_cast2, g_cast3, g_cast4, g_cast5, g_cast6, g_cast7, g_cast8, g_cast9, g_cast10, g_cast11, g_cast12, g_cast13, lk, List.set_cons_zero, List.set_cons_succ, Bool.not_true, Bool.not_false, decide_true, decide_false, Int.reduceEq, Int.reduceLT, Int.reduceLE, Int.reduceSub, Int.reduceAdd, Int.reduceNeg, Int.reduceToNat, Int.reduceNe, Nat.reduceAdd, Nat.reduceLT, Nat.reduceLeDiff, eq_self, if_true, if_false, str_eq, String.reduceEq, isTy, String.reduceBEq, Bool.true_or, Bool.false_or, Bool.or_true, Bool.or_false, Bool.and_true, Bool.true_and, Bool.and_false, Bool.false_and, fIsi, fIsi2, kindOf, List.set_set, List.length_cons, List.length_nil, wipeE, beq_self_eq_true]; simp [Stt.wf, hl]; rfl
  | call g b a c =>
    obtain ⟨⟨_, h1, h2⟩, _⟩ := h
    by_cases hl : lv = 3
    · simp (config := { implicitDefEqProofs := false }) only [Stt.d, no_cmd inl_call, ixT0, ixT1, ixT2, ixT3, decide_eq_true hl, g_bind_ok, g_bind_err, g_toS_ok, g_toS_err, g_var, g_c, g_op, g_op1, g_1, g_B, g_unB, g_test, g_and, g_or, g_not, g_kand_t, g_kand_f, g_kor_t, g_kor_f, g_knot, g_andV, g_orV, g_kandV_t, g_kandV_f, g_korV_t, g_korV_f, g_notV, g_kNotV, g_kNV, g_orT, g_kOrT, g_kOrT_t, g_kOrT_f, g_tru_bl, g_chain, g_ch1, g_ch2, g_ch3_t, g_ch3_f, g_if, g_kif_t, g_kif_f, g_nil, g_cons, g_cons1, g_cons2, g_lst, g_tup, g_allD_nil, g_allD_cons, kTup0, kTup1, kTup2, kTup3, kTup4, kLst0, kLst1, kLst2, kLst3, g_newF, g_newT, g_call, g_sl, g_sl0, g_sl1, g_sl2, g_noP, g_part, g_kPart, g_frz, g_app, g_seq, g_seq_next, g_seq_ret, g_seq_err, g_seq_brk, g_seq_cnt, g_skip, g_ret, g_kRet, g_drop, g_kDrop, g_ifS, g_kIfS_t, g_kIfS_f, g_asg, g_kAsg, g_kAsg2, g_kAsg3, g_for, g_kFor, g_lc, g_seqI, g_itemsL, g_itemsT, g_rng1, g_revR1, g_enum, g_kEnum, g_wipe, g_wipe_next, g_wipe_ret, g_wipe_err, g_addI, g_subI, g_ltI, g_leI, g_gtI, g_geI, g_eqI, g_neI, g_eqS, g_neS, g_eqB, g_neB, g_neg, g_intI, g_intB, g_lenT, g_lenL, g_isN, g_yes, g_truL, g_truI, g_isNon_tup, g_isNon_non, g_slT, g_slL, g_slS, g_listL, g_listT, g_tupleL, g_raise, g_raiseA, g_kRaise1, g_kRaise2, g_setF, g_kSetF, g_make, g_meth, g_kMeth2, g_fld, g_kFldD, g_tryA, g_tryA_next, g_tryA_ret, g_cast0, g_cast1, g_cast2, g_cast3, g_cast4, g_cast5, g_cast6, g_cast7, g_cast8, g_cast9, g_cast10, g_cast11, g_cast12, g_cast13, lk, List.set_cons_zero, List.set_cons_succ, Bool.not_true, Bool.not_false, decide_true, decide_false, Int.reduceEq, Int.reduceLT, Int.reduceLE, Int.reduceSub, Int.reduceAdd, Int.reduceNeg, Int.reduceToNat, Int.reduceNe, Nat.reduceAdd, Nat.reduceLT, Nat.reduceLeDiff, eq_self, if_true, if_false, str_eq, String.reduceEq, isTy, String.reduceBEq, Bool.true_or, Bool.false_or, Bool.or_true, Bool.or_false, Bool.and_true, Bool.true_and, Bool.and_false, Bool.false_and, fIsi, fIsi2, kindOf, List.set_set, List.length_cons, List.length_nil, wipeE, beq_self_eq_true]; simp [Stt.wf, hl]; rfl
    · simp (config := { implicitDefEqProofs := false }) only [Stt.d, no_cmd inl_call, ixT0, ixT1, ixT2, ixT3, decide_eq_false hl, isint_int, decide_eq_true h1, decide_eq_true h2, ixL0, ixL1, g_bind_ok, g_bind_err, g_toS_ok, g_toS_err, g_var, g_c, g_op, g_op1, g_1, g_B, g_unB, g_test, g_and, g_or, g_not, g_kand_t, g_kand_f, g_kor_t, g_kor_f, g_knot, g_andV, g_orV, g_kandV_t, g_kandV_f, g_korV_t, g_korV_f, g_notV, g_kNotV, g_kNV, g_orT, g_kOrT, g_kOrT_t, g_kOrT_f, g_tru_bl, g_chain, g_ch1, g_ch2, g_ch3_t, g_ch3_f, g_if, g_kif_t, g_kif_f, g_nil, g_cons, g_cons1, g_cons2, g_lst, g_tup, g_allD_nil, g_allD_cons, kTup0, kTup1, kTup2, kTup3, kTup4, kLst0, kLst1, kLst2, kLst3, g_newF, g_newT, g_call, g_sl, g_sl0, g_sl1, g_sl2, g_noP, g_part, g_kPart, g_frz, g_app, g_seq, g_seq_next, g_seq_ret, g_seq_err, g_seq_brk, g_seq_cnt, g_skip, g_ret, g_kRet, g_drop, g_kDrop, g_ifS, g_kIfS_t, g_kIfS_f, g_asg, g_kAsg, g_kAsg2, g_kAsg3, g_for, g_kFor, g_lc, g_seqI, g_itemsL, g_itemsT, g_rng1, g_revR1, g_enum, g_kEnum, g_wipe, g_wipe_next, g_wipe_ret, g_wipe_err, g_addI, g_subI, g_ltI, g_leI, g_gtI, g_geI, g_eqI, g_neI, g_eqS, g_neS, g_eqB, g_neB, g_neg, g_intI, g_intB, g_lenT, g_lenL, g_isN, g_yes, g_truL, g_truI, g_isNon_tup, g_isNon_non, g_slT, g_slL, g_slS, g_listL, g_listT, g_tupleL, g_raise, g_raiseA, g_kRaise1, g_kRaise2, g_setF, g_kSetF, g_make, g_meth, g_kMeth2, g_fld, g_kFldD, g_tryA, g_tryA_next, g_tryA_ret, g_cast0, g_cast1, g_cast2, g_cast3, g_cast4, g_cast5, g_cast6, g_cast7, g_cast8, g_cast9, g_cast10, g_cast11, g_cast12, g_cast13, lk, List.set_cons_zero, List.set_cons_succ, Bool.not_true, Bool.not_false, decide_true, decide_false, Int.reduceEq, Int.reduceLT, Int.reduceLE, Int.reduceSub, Int.reduceAdd, Int.reduceNeg, Int.reduceToNat, Int.reduceNe, Nat.reduceAdd, Nat.reduceLT, Nat.reduceLeDiff, eq_self, if_true, if_false, str_eq, String.reduceEq, isTy, String.reduceBEq, Bool.true_or, Bool.false_or, Bool.or_true, Bool.or_false, Bool.and_true, Bool.true_and, Bool.and_false, Bool.false_and, fIsi, fIsi2, kindOf, List.set_set, List.length_cons, List.length_nil, wipeE, beq_self_eq_true]; simp [Stt.wf, hl]; rfl
inductive FR where
  | fault (p : List Int) (m : Int) | okk (m : Int)
abbrev tupI (p : List Int) : D := .tup (p.map D.int)
def FR.d : FR → D
  | .fault p m => .tup [tupI p, .int m]
  | .okk m => .tup [.non, .int m]
def FR.then (r : FR) (k : Int → FR) : FR := match r with
  | .fault p m => .fault p m
  | .okk m => k m
mutual
/-- what stands in the blocks of s, at the path here -/
def ffS (lv : Int) (here : List Int) : Stt → Int → FR
  | .keep b, met => ffL (lv + 1) (here ++ [0]) 0 b met
  | .again b, met => ffL (lv + 1) (here ++ [0]) 0 b met
  | .either a b, met => (ffL (lv + 1) (here ++ [0]) 0 a met).then (ffL (lv + 1) (here ++ [1]) 0 b)
  | .call _ _ a b, met => (ffL (lv + 1) (here ++ [0]) 0 a met).then (ffL (lv + 1) (here ++ [1]) 0 b)
  | _, met => .okk met
def ffL (lv : Int) (path : List Int) (at_ : Int) : List Stt → Int → FR
  | [], met => .okk met
  | s :: r, met => if at_ = 8 ∨ met = 12 ∨ s.wf lv = false then .fault (path ++ [at_]) met else
    (ffS lv (path ++ [at_]) s (met + 1)).then (ffL lv path (at_ + 1) r)
end
def FaultOk (n : Nat) : Prop := ∀ {S : Sto} {l : List Stt} {lv many met : Int} {path : List Int} {k : Nat}, OkL many l k → 0 ≤ lv → lv ≤ 3 → path.length ≤ 2 * lv.toNat → 4 - lv.toNat ≤ n →
  m_first_fault n [.dat (.lst (dsOf l)), .dat (.int lv), .dat (.int many), .dat (tupI path), .dat (.int met)] S = .ok (.dat (ffL lv path 0 l met).d) S
theorem add_path {cl : Bool} {p : List Int} {i : Int} {S : Sto} (h : p.length ≤ 100) : fAdd cl (.dat (tupI p)) (.dat (.tup [.int i])) S = .ok (.dat (tupI (p ++ [i]))) S := by
  rw [g_addT (sz (by simp; omega))]
  simp [tupI]
end PH

namespace PH
open PySem PySem.Spec PyProof.Rows L2
theorem FR.then_okk {m : Int} {k : Int → FR} : (FR.okk m).then k = k m := rfl
theorem FR.then_fault {p : List Int} {m : Int} {k : Int → FR} : (FR.fault p m).then k = .fault p m := rfl
/-- the blocks of one statement, walked -/
theorem ff_in {n : Nat} (ih : FaultOk n) {S : Sto} {s : Stt} {lv many met : Int} {path : List Int} {k : Nat} {a b c : Option Vl} (h : s.Ok many k) (h0 : 0 ≤ lv) (h3 : lv < 3) (hp : path.length ≤ 2 * lv.toNat + 1) (hn : 4 - (lv + 1).toNat ≤ n) :
    loop (.tp [8, 9]) (w_first_fault_1 (m_first_fault n)) (enumD 0 (bls s.blocks)) [a, some (.dat (.int lv)), some (.dat (.int many)), b, some (.dat (.int met)), c, some (.dat s.d), some (.dat (tupI path)), none, none, none] S =
      match ffS lv path s met with
      | .fault p m => .ret (.dat (.tup [tupI p, .int m])) S
      | .okk m => .next [a, some (.dat (.int lv)), some (.dat (.int many)), b, some (.dat (.int m)), c, some (.dat s.d), some (.dat (tupI path)), none, none, none] S := by
  have turn : ∀ {l : List Stt} {met : Int} {i : Int}, OkL many l (k - 1) → m_first_fault n [.dat (.lst (dsOf l)), .dat (.int (lv + 1)), .dat (.int many), .dat (tupI (path ++ [i])), .dat (.int met)] S = .ok (.dat (ffL (lv + 1) (path ++ [i]) 0 l met).d) S := fun hl => ih hl (by omega) (by omega) (by simp; omega) hn
  have one : ∀ {l : List Stt} {r : List D} {met : Int} {i : Int}, OkL many l (k - 1) → loop (.tp [8, 9]) (w_first_fault_1 (m_first_fault n)) (.tup [.int i, .lst (dsOf l)] :: r) [a, some (.dat (.int lv)), some (.dat (.int many)), b, some (.dat (.int met)), c, some (.dat s.d), some (.dat (tupI path)), none, none, none] S =
      match ffL (lv + 1) (path ++ [i]) 0 l met with
      | .fault p m => .ret (.dat (.tup [tupI p, .int m])) S
      | .okk m => loop (.tp [8, 9]) (w_first_fault_1 (m_first_fault n)) r [a, some (.dat (.int lv)), some (.dat (.int many)), b, some (.dat (.int m)), c, some (.dat s.d), some (.dat (tupI path)), none, none, none] S := fun {l r met i} hl => by
    have e := turn (met := met) (i := i) hl
    rw [loop]
    simp only [tgF, putEv, List.length_cons, List.length_nil, if_true, List.set_cons_succ, List.set_cons_zero]
    rw [w_first_fault_1]
    simp (config := { implicitDefEqProofs := false }) only [add_path (show path.length ≤ 100 by omega), e, g_bind_ok, g_bind_err, g_toS_ok, g_toS_err, g_var, g_c, g_op, g_op1, g_1, g_B, g_unB, g_test, g_and, g_or, g_not, g_kand_t, g_kand_f, g_kor_t, g_kor_f, g_knot, g_andV, g_orV, g_kandV_t, g_kandV_f, g_korV_t, g_korV_f, g_notV, g_kNotV, g_kNV, g_orT, g_kOrT, g_kOrT_t, g_kOrT_f, g_tru_bl, g_chain, g_ch1, g_ch2, g_ch3_t, g_ch3_f, g_if, g_kif_t, g_kif_f, g_nil, g_cons, g_cons1, g_cons2, g_lst, g_tup, g_allD_nil, g_allD_cons, kTup0, kTup1, kTup2, kTup3, kTup4, kLst0, kLst1, kLst2, kLst3, g_newF, g_newT, g_call, g_sl, g_sl0, g_sl1, g_sl2, g_noP, g_part, g_kPart, g_frz, g_app, g_seq, g_seq_next, g_seq_ret, g_seq_err, g_seq_brk, g_seq_cnt, g_skip, g_ret, g_kRet, g_drop, g_kDrop, g_ifS, g_kIfS_t, g_kIfS_f, g_asg, g_kAsg, g_kAsg2, g_kAsg3, g_for, g_kFor, g_lc, g_seqI, g_itemsL, g_itemsT, g_rng1, g_revR1, g_enum, g_kEnum, g_wipe, g_wipe_next, g_wipe_ret, g_wipe_err, g_addI, g_subI, g_ltI, g_leI, g_gtI, g_geI, g_eqI, g_neI, g_eqS, g_neS, g_eqB, g_neB, g_neg, g_intI, g_intB, g_lenT, g_lenL, g_isN, g_yes, g_truL, g_truI, g_isNon_tup, g_isNon_non, g_slT, g_slL, g_slS, g_listL, g_listT, g_tupleL, g_raise, g_raiseA, g_kRaise1, g_kRaise2, g_setF, g_kSetF, g_make, g_meth, g_kMeth2, g_fld, g_kFldD, g_tryA, g_tryA_next, g_tryA_ret, g_cast0, g_cast1, g_cast2, g_cast3, g_cast4, g_cast5, g_cast6, g_cast7, g_cast8, g_cast9, g_cast10, g_cast11, g_cast12, g_cast13, lk, List.set_cons_zero, List.set_cons_succ, Bool.not_true, Bool.not_false, decide_true, decide_false, Int.reduceEq, Int.reduceLT, Int.reduceLE, Int.reduceSub, Int.reduceAdd, Int.reduceNeg, Int.reduceToNat, Int.reduceNe, Nat.reduceAdd, Nat.reduceLT, Nat.reduceLeDiff, eq_self, if_true, if_false, str_eq, String.reduceEq, isTy, String.reduceBEq, Bool.true_or, Bool.false_or, Bool.or_true, Bool.or_false, Bool.and_true, Bool.true_and, Bool.and_false, Bool.false_and, fIsi, fIsi2, kindOf, List.set_set, List.length_cons, List.length_nil, wipeE, beq_self_eq_true]
    cases q : ffL (lv + 1) (path ++ [i]) 0 l met with
    | fault p m => simp (config := { implicitDefEqProofs := false }) only [FR.d, g_isN, g_bind_ok, g_bind_err, g_toS_ok, g_toS_err, g_var, g_c, g_op, g_op1, g_1, g_B, g_unB, g_test, g_and, g_or, g_not, g_kand_t, g_kand_f, g_kor_t, g_kor_f, g_knot, g_andV, g_orV, g_kandV_t, g_kandV_f, g_korV_t, g_korV_f, g_notV, g_kNotV, g_kNV, g_orT, g_kOrT, g_kOrT_t, g_kOrT_f, g_tru_bl, g_chain, g_ch1, g_ch2, g_ch3_t, g_ch3_f, g_if, g_kif_t, g_kif_f, g_nil, g_cons, g_cons1, g_cons2, g_lst, g_tup, g_allD_nil, g_allD_cons, kTup0, kTup1, kTup2, kTup3, kTup4, kLst0, kLst1, kLst2, kLst3, g_newF, g_newT, g_call, g_sl, g_sl0, g_sl1, g_sl2, g_noP, g_part, g_kPart, g_frz, g_app, g_seq, g_seq_next, g_seq_ret, g_seq_err, g_seq_brk, g_seq_cnt, g_skip, g_ret, g_kRet, g_drop, g_kDrop, g_ifS, g_kIfS_t, g_kIfS_f, g_asg, g_kAsg, g_kAsg2, g_kAsg3, g_for, g_kFor, g_lc, g_seqI, g_itemsL, g_itemsT, g_rng1, g_revR1, g_enum, g_kEnum, g_wipe, g_wipe_next, g_wipe_ret, g_wipe_err, g_addI, g_subI, g_ltI, g_leI, g_gtI, g_geI, g_eqI, g_neI, g_eqS, g_neS, g_eqB, g_neB, g_neg, g_intI, g_intB, g_lenT, g_lenL, g_isN, g_yes, g_truL, g_truI, g_isNon_tup, g_isNon_non, g_slT, g_slL, g_slS, g_listL, g_listT, g_tupleL, g_raise, g_raiseA, g_kRaise1, g_kRaise2, g_setF, g_kSetF, g_make, g_meth, g_kMeth2, g_fld, g_kFldD, g_tryA, g_tryA_next, g_tryA_ret, g_cast0, g_cast1, g_cast2, g_cast3, g_cast4, g_cast5, g_cast6, g_cast7, g_cast8, g_cast9, g_cast10, g_cast11, g_cast12, g_cast13, lk, List.set_cons_zero, List.set_cons_succ, Bool.not_true, Bool.not_false, decide_true, decide_false, Int.reduceEq, Int.reduceLT, Int.reduceLE, Int.reduceSub, Int.reduceAdd, Int.reduceNeg, Int.reduceToNat, Int.reduceNe, Nat.reduceAdd, Nat.reduceLT, Nat.reduceLeDiff, eq_self, if_true, if_false, str_eq, String.reduceEq, isTy, String.reduceBEq, Bool.true_or, Bool.false_or, Bool.or_true, Bool.or_false, Bool.and_true, Bool.true_and, Bool.and_false, Bool.false_and, fIsi, fIsi2, kindOf, List.set_set, List.length_cons, List.length_nil, wipeE, beq_self_eq_true]
    | okk m => simp (config := { implicitDefEqProofs := false }) only [FR.d, g_isN, g_bind_ok, g_bind_err, g_toS_ok, g_toS_err, g_var, g_c, g_op, g_op1, g_1, g_B, g_unB, g_test, g_and, g_or, g_not, g_kand_t, g_kand_f, g_kor_t, g_kor_f, g_knot, g_andV, g_orV, g_kandV_t, g_kandV_f, g_korV_t, g_korV_f, g_notV, g_kNotV, g_kNV, g_orT, g_kOrT, g_kOrT_t, g_kOrT_f, g_tru_bl, g_chain, g_ch1, g_ch2, g_ch3_t, g_ch3_f, g_if, g_kif_t, g_kif_f, g_nil, g_cons, g_cons1, g_cons2, g_lst, g_tup, g_allD_nil, g_allD_cons, kTup0, kTup1, kTup2, kTup3, kTup4, kLst0, kLst1, kLst2, kLst3, g_newF, g_newT, g_call, g_sl, g_sl0, g_sl1, g_sl2, g_noP, g_part, g_kPart, g_frz, g_app, g_seq, g_seq_next, g_seq_ret, g_seq_err, g_seq_brk, g_seq_cnt, g_skip, g_ret, g_kRet, g_drop, g_kDrop, g_ifS, g_kIfS_t, g_kIfS_f, g_asg, g_kAsg, g_kAsg2, g_kAsg3, g_for, g_kFor, g_lc, g_seqI, g_itemsL, g_itemsT, g_rng1, g_revR1, g_enum, g_kEnum, g_wipe, g_wipe_next, g_wipe_ret, g_wipe_err, g_addI, g_subI, g_ltI, g_leI, g_gtI, g_geI, g_eqI, g_neI, g_eqS, g_neS, g_eqB, g_neB, g_neg, g_intI, g_intB, g_lenT, g_lenL, g_isN, g_yes, g_truL, g_truI, g_isNon_tup, g_isNon_non, g_slT, g_slL, g_slS, g_listL, g_listT, g_tupleL, g_raise, g_raiseA, g_kRaise1, g_kRaise2, g_setF, g_kSetF, g_make, g_meth, g_kMeth2, g_fld, g_kFldD, g_tryA, g_tryA_next, g_tryA_ret, g_cast0, g_cast1, g_cast2, g_cast3, g_cast4, g_cast5, g_cast6, g_cast7, g_cast8, g_cast9, g_cast10, g_cast11, g_cast12, g_cast13, lk, List.set_cons_zero, List.set_cons_succ, Bool.not_true, Bool.not_false, decide_true, decide_false, Int.reduceEq, Int.reduceLT, Int.reduceLE, Int.reduceSub, Int.reduceAdd, Int.reduceNeg, Int.reduceToNat, Int.reduceNe, Nat.reduceAdd, Nat.reduceLT, Nat.reduceLeDiff, eq_self, if_true, if_false, str_eq, String.reduceEq, isTy, String.reduceBEq, Bool.true_or, Bool.false_or, Bool.or_true, Bool.or_false, Bool.and_true, Bool.true_and, Bool.and_false, Bool.false_and, fIsi, fIsi2, kindOf, List.set_set, List.length_cons, List.length_nil, wipeE, beq_self_eq_true]
  cases s with
  | cmd c => simp only [Stt.blocks, bls, List.map_nil, enumD, loop, ffS]
  | fin w => simp only [Stt.blocks, bls, List.map_nil, enumD, loop, ffS]
  | bad => simp only [Stt.blocks, bls, List.map_nil, enumD, loop, ffS]
  | keep x =>
    simp only [Stt.blocks, bls, List.map_nil, List.map_cons, enumD, ffS, Nat.zero_add, g_cast0, g_cast1]
    rw [one h.2]
    cases ffL (lv + 1) (path ++ [0]) 0 x met <;> rfl
  | again x =>
    simp only [Stt.blocks, bls, List.map_nil, List.map_cons, enumD, ffS, Nat.zero_add, g_cast0, g_cast1]
    rw [one h.2]
    cases ffL (lv + 1) (path ++ [0]) 0 x met <;> rfl
  | either x y =>
    simp only [Stt.blocks, bls, List.map_nil, List.map_cons, enumD, ffS, Nat.zero_add, g_cast0, g_cast1]
    rw [one h.2.1]
    cases ffL (lv + 1) (path ++ [0]) 0 x met with
    | fault p m => rfl
    | okk m =>
      simp only [FR.then_okk]
      rw [one h.2.2]
      cases ffL (lv + 1) (path ++ [1]) 0 y m <;> rfl
  | call g f x y =>
    simp only [Stt.blocks, bls, List.map_nil, List.map_cons, enumD, ffS, Nat.zero_add, g_cast0, g_cast1]
    rw [one h.2.1]
    cases ffL (lv + 1) (path ++ [0]) 0 x met with
    | fault p m => rfl
    | okk m =>
      simp only [FR.then_okk]
      rw [one h.2.2]
      cases ffL (lv + 1) (path ++ [1]) 0 y m <;> rfl
/-- a list, walked -/
theorem ff_out {n : Nat} (ih : FaultOk n) {S : Sto} {lv many : Int} {path : List Int} {k : Nat} {a : Option Vl} (h0 : 0 ≤ lv) (h3 : lv ≤ 3) (hp : path.length ≤ 2 * lv.toNat) (hn : 4 - (lv + 1).toNat ≤ n) :
    ∀ (l : List Stt) (at_ : Nat) (met : Int), OkL many l k → loop (.tp [5, 6]) (w_first_fault_2 (m_first_fault n)) (enumD at_ (dsOf l)) [a, some (.dat (.int lv)), some (.dat (.int many)), some (.dat (tupI path)), some (.dat (.int met)), none, none, none, none, none, none] S =
      match ffL lv path (at_ : Nat) l met with
      | .fault p m => .ret (.dat (.tup [tupI p, .int m])) S
      | .okk m => .next [a, some (.dat (.int lv)), some (.dat (.int many)), some (.dat (tupI path)), some (.dat (.int m)), none, none, none, none, none, none] S
  | [], at_, met, _ => rfl
  | s :: r, at_, met, h => by
    have rest := ff_out ih (S := S) (many := many) (k := k) (a := a) h0 h3 hp hn r (at_ + 1)
    simp only [dsOf, enumD]
    rw [loop]
    simp only [tgF, putEv, List.length_cons, List.length_nil, if_true, List.set_cons_succ, List.set_cons_zero]
    rw [w_first_fault_2]
    simp (config := { implicitDefEqProofs := false }) only [add_path (show path.length ≤ 100 by omega), g_bind_ok, g_bind_err, g_toS_ok, g_toS_err, g_var, g_c, g_op, g_op1, g_1, g_B, g_unB, g_test, g_and, g_or, g_not, g_kand_t, g_kand_f, g_kor_t, g_kor_f, g_knot, g_andV, g_orV, g_kandV_t, g_kandV_f, g_korV_t, g_korV_f, g_notV, g_kNotV, g_kNV, g_orT, g_kOrT, g_kOrT_t, g_kOrT_f, g_tru_bl, g_chain, g_ch1, g_ch2, g_ch3_t, g_ch3_f, g_if, g_kif_t, g_kif_f, g_nil, g_cons, g_cons1, g_cons2, g_lst, g_tup, g_allD_nil, g_allD_cons, kTup0, kTup1, kTup2, kTup3, kTup4, kLst0, kLst1, kLst2, kLst3, g_newF, g_newT, g_call, g_sl, g_sl0, g_sl1, g_sl2, g_noP, g_part, g_kPart, g_frz, g_app, g_seq, g_seq_next, g_seq_ret, g_seq_err, g_seq_brk, g_seq_cnt, g_skip, g_ret, g_kRet, g_drop, g_kDrop, g_ifS, g_kIfS_t, g_kIfS_f, g_asg, g_kAsg, g_kAsg2, g_kAsg3, g_for, g_kFor, g_lc, g_seqI, g_itemsL, g_itemsT, g_rng1, g_revR1, g_enum, g_kEnum, g_wipe, g_wipe_next, g_wipe_ret, g_wipe_err, g_addI, g_subI, g_ltI, g_leI, g_gtI, g_geI, g_eqI, g_neI, g_eqS, g_neS, g_eqB, g_neB, g_neg, g_intI, g_intB, g_lenT, g_lenL, g_isN, g_yes, g_truL, g_truI, g_isNon_tup, g_isNon_non, g_slT, g_slL, g_slS, g_listL, g_listT, g_tupleL, g_raise, g_raiseA, g_kRaise1, g_kRaise2, g_setF, g_kSetF, g_make, g_meth, g_kMeth2, g_fld, g_kFldD, g_tryA, g_tryA_next, g_tryA_ret, g_cast0, g_cast1, g_cast2, g_cast3, g_cast4, g_cast5, g_cast6, g_cast7, g_cast8, g_cast9, g_cast10, g_cast11, g_cast12, g_cast13, lk, List.set_cons_zero, List.set_cons_succ, Bool.not_true, Bool.not_false, decide_true, decide_false, Int.reduceEq, Int.reduceLT, Int.reduceLE, Int.reduceSub, Int.reduceAdd, Int.reduceNeg, Int.reduceToNat, Int.reduceNe, Nat.reduceAdd, Nat.reduceLT, Nat.reduceLeDiff, eq_self, if_true, if_false, str_eq, String.reduceEq, isTy, String.reduceBEq, Bool.true_or, Bool.false_or, Bool.or_true, Bool.or_false, Bool.and_true, Bool.true_and, Bool.and_false, Bool.false_and, fIsi, fIsi2, kindOf, List.set_set, List.length_cons, List.length_nil, wipeE, beq_self_eq_true]
    by_cases h8 : ((at_ : Nat) : Int) = 8
    · simp (config := { implicitDefEqProofs := false }) only [decide_eq_true h8, g_bind_ok, g_bind_err, g_toS_ok, g_toS_err, g_var, g_c, g_op, g_op1, g_1, g_B, g_unB, g_test, g_and, g_or, g_not, g_kand_t, g_kand_f, g_kor_t, g_kor_f, g_knot, g_andV, g_orV, g_kandV_t, g_kandV_f, g_korV_t, g_korV_f, g_notV, g_kNotV, g_kNV, g_orT, g_kOrT, g_kOrT_t, g_kOrT_f, g_tru_bl, g_chain, g_ch1, g_ch2, g_ch3_t, g_ch3_f, g_if, g_kif_t, g_kif_f, g_nil, g_cons, g_cons1, g_cons2, g_lst, g_tup, g_allD_nil, g_allD_cons, kTup0, kTup1, kTup2, kTup3, kTup4, kLst0, kLst1, kLst2, kLst3, g_newF, g_newT, g_call, g_sl, g_sl0, g_sl1, g_sl2, g_noP, g_part, g_kPart, g_frz, g_app, g_seq, g_seq_next, g_seq_ret, g_seq_err, g_seq_brk, g_seq_cnt, g_skip, g_ret, g_kRet, g_drop, g_kDrop, g_ifS, g_kIfS_t, g_kIfS_f, g_asg, g_kAsg, g_kAsg2, g_kAsg3, g_for, g_kFor, g_lc, g_seqI, g_itemsL, g_itemsT, g_rng1, g_revR1, g_enum, g_kEnum, g_wipe, g_wipe_next, g_wipe_ret, g_wipe_err, g_addI, g_subI, g_ltI, g_leI, g_gtI, g_geI, g_eqI, g_neI, g_eqS, g_neS, g_eqB, g_neB, g_neg, g_intI, g_intB, g_lenT, g_lenL, g_isN, g_yes, g_truL, g_truI, g_isNon_tup, g_isNon_non, g_slT, g_slL, g_slS, g_listL, g_listT, g_tupleL, g_raise, g_raiseA, g_kRaise1, g_kRaise2, g_setF, g_kSetF, g_make, g_meth, g_kMeth2, g_fld, g_kFldD, g_tryA, g_tryA_next, g_tryA_ret, g_cast0, g_cast1, g_cast2, g_cast3, g_cast4, g_cast5, g_cast6, g_cast7, g_cast8, g_cast9, g_cast10, g_cast11, g_cast12, g_cast13, lk, List.set_cons_zero, List.set_cons_succ, Bool.not_true, Bool.not_false, decide_true, decide_false, Int.reduceEq, Int.reduceLT, Int.reduceLE, Int.reduceSub, Int.reduceAdd, Int.reduceNeg, Int.reduceToNat, Int.reduceNe, Nat.reduceAdd, Nat.reduceLT, Nat.reduceLeDiff, eq_self, if_true, if_false, str_eq, String.reduceEq, isTy, String.reduceBEq, Bool.true_or, Bool.false_or, Bool.or_true, Bool.or_false, Bool.and_true, Bool.true_and, Bool.and_false, Bool.false_and, fIsi, fIsi2, kindOf, List.set_set, List.length_cons, List.length_nil, wipeE, beq_self_eq_true]
      unfold ffL
      rw [if_pos (.inl h8)]
    · simp (config := { implicitDefEqProofs := false }) only [decide_eq_false h8, g_bind_ok, g_bind_err, g_toS_ok, g_toS_err, g_var, g_c, g_op, g_op1, g_1, g_B, g_unB, g_test, g_and, g_or, g_not, g_kand_t, g_kand_f, g_kor_t, g_kor_f, g_knot, g_andV, g_orV, g_kandV_t, g_kandV_f, g_korV_t, g_korV_f, g_notV, g_kNotV, g_kNV, g_orT, g_kOrT, g_kOrT_t, g_kOrT_f, g_tru_bl, g_chain, g_ch1, g_ch2, g_ch3_t, g_ch3_f, g_if, g_kif_t, g_kif_f, g_nil, g_cons, g_cons1, g_cons2, g_lst, g_tup, g_allD_nil, g_allD_cons, kTup0, kTup1, kTup2, kTup3, kTup4, kLst0, kLst1, kLst2, kLst3, g_newF, g_newT, g_call, g_sl, g_sl0, g_sl1, g_sl2, g_noP, g_part, g_kPart, g_frz, g_app, g_seq, g_seq_next, g_seq_ret, g_seq_err, g_seq_brk, g_seq_cnt, g_skip, g_ret, g_kRet, g_drop, g_kDrop, g_ifS, g_kIfS_t, g_kIfS_f, g_asg, g_kAsg, g_kAsg2, g_kAsg3, g_for, g_kFor, g_lc, g_seqI, g_itemsL, g_itemsT, g_rng1, g_revR1, g_enum, g_kEnum, g_wipe, g_wipe_next, g_wipe_ret, g_wipe_err, g_addI, g_subI, g_ltI, g_leI, g_gtI, g_geI, g_eqI, g_neI, g_eqS, g_neS, g_eqB, g_neB, g_neg, g_intI, g_intB, g_lenT, g_lenL, g_isN, g_yes, g_truL, g_truI, g_isNon_tup, g_isNon_non, g_slT, g_slL, g_slS, g_listL, g_listT, g_tupleL, g_raise, g_raiseA, g_kRaise1, g_kRaise2, g_setF, g_kSetF, g_make, g_meth, g_kMeth2, g_fld, g_kFldD, g_tryA, g_tryA_next, g_tryA_ret, g_cast0, g_cast1, g_cast2, g_cast3, g_cast4, g_cast5, g_cast6, g_cast7, g_cast8, g_cast9, g_cast10, g_cast11, g_cast12, g_cast13, lk, List.set_cons_zero, List.set_cons_succ, Bool.not_true, Bool.not_false, decide_true, decide_false, Int.reduceEq, Int.reduceLT, Int.reduceLE, Int.reduceSub, Int.reduceAdd, Int.reduceNeg, Int.reduceToNat, Int.reduceNe, Nat.reduceAdd, Nat.reduceLT, Nat.reduceLeDiff, eq_self, if_true, if_false, str_eq, String.reduceEq, isTy, String.reduceBEq, Bool.true_or, Bool.false_or, Bool.or_true, Bool.or_false, Bool.and_true, Bool.true_and, Bool.and_false, Bool.false_and, fIsi, fIsi2, kindOf, List.set_set, List.length_cons, List.length_nil, wipeE, beq_self_eq_true]
      by_cases hm : met = 12
      · simp (config := { implicitDefEqProofs := false }) only [decide_eq_true hm, g_bind_ok, g_bind_err, g_toS_ok, g_toS_err, g_var, g_c, g_op, g_op1, g_1, g_B, g_unB, g_test, g_and, g_or, g_not, g_kand_t, g_kand_f, g_kor_t, g_kor_f, g_knot, g_andV, g_orV, g_kandV_t, g_kandV_f, g_korV_t, g_korV_f, g_notV, g_kNotV, g_kNV, g_orT, g_kOrT, g_kOrT_t, g_kOrT_f, g_tru_bl, g_chain, g_ch1, g_ch2, g_ch3_t, g_ch3_f, g_if, g_kif_t, g_kif_f, g_nil, g_cons, g_cons1, g_cons2, g_lst, g_tup, g_allD_nil, g_allD_cons, kTup0, kTup1, kTup2, kTup3, kTup4, kLst0, kLst1, kLst2, kLst3, g_newF, g_newT, g_call, g_sl, g_sl0, g_sl1, g_sl2, g_noP, g_part, g_kPart, g_frz, g_app, g_seq, g_seq_next, g_seq_ret, g_seq_err, g_seq_brk, g_seq_cnt, g_skip, g_ret, g_kRet, g_drop, g_kDrop, g_ifS, g_kIfS_t, g_kIfS_f, g_asg, g_kAsg, g_kAsg2, g_kAsg3, g_for, g_kFor, g_lc, g_seqI, g_itemsL, g_itemsT, g_rng1, g_revR1, g_enum, g_kEnum, g_wipe, g_wipe_next, g_wipe_ret, g_wipe_err, g_addI, g_subI, g_ltI, g_leI, g_gtI, g_geI, g_eqI, g_neI, g_eqS, g_neS, g_eqB, g_neB, g_neg, g_intI, g_intB, g_lenT, g_lenL, g_isN, g_yes, g_truL, g_truI, g_isNon_tup, g_isNon_non, g_slT, g_slL, g_slS, g_listL, g_listT, g_tupleL, g_raise, g_raiseA, g_kRaise1, g_kRaise2, g_setF, g_kSetF, g_make, g_meth, g_kMeth2, g_fld, g_kFldD, g_tryA, g_tryA_next, g_tryA_ret, g_cast0, g_cast1, g_cast2, g_cast3, g_cast4, g_cast5, g_cast6, g_cast7, g_cast8, g_cast9, g_cast10, g_cast11, g_cast12, g_cast13, lk, List.set_cons_zero, List.set_cons_succ, Bool.not_true, Bool.not_false, decide_true, decide_false, Int.reduceEq, Int.reduceLT, Int.reduceLE, Int.reduceSub, Int.reduceAdd, Int.reduceNeg, Int.reduceToNat, Int.reduceNe, Nat.reduceAdd, Nat.reduceLT, Nat.reduceLeDiff, eq_self, if_true, if_false, str_eq, String.reduceEq, isTy, String.reduceBEq, Bool.true_or, Bool.false_or, Bool.or_true, Bool.or_false, Bool.and_true, Bool.true_and, Bool.and_false, Bool.false_and, fIsi, fIsi2, kindOf, List.set_set, List.length_cons, List.length_nil, wipeE, beq_self_eq_true]
        unfold ffL
        rw [if_pos (.inr (.inl hm))]
      · simp (config := { implicitDefEqProofs := false }) only [decide_eq_false hm, well_formed h.1.1, g_bind_ok, g_bind_err, g_toS_ok, g_toS_err, g_var, g_c, g_op, g_op1, g_1, g_B, g_unB, g_test, g_and, g_or, g_not, g_kand_t, g_kand_f, g_kor_t, g_kor_f, g_knot, g_andV, g_orV, g_kandV_t, g_kandV_f, g_korV_t, g_korV_f, g_notV, g_kNotV, g_kNV, g_orT, g_kOrT, g_kOrT_t, g_kOrT_f, g_tru_bl, g_chain, g_ch1, g_ch2, g_ch3_t, g_ch3_f, g_if, g_kif_t, g_kif_f, g_nil, g_cons, g_cons1, g_cons2, g_lst, g_tup, g_allD_nil, g_allD_cons, kTup0, kTup1, kTup2, kTup3, kTup4, kLst0, kLst1, kLst2, kLst3, g_newF, g_newT, g_call, g_sl, g_sl0, g_sl1, g_sl2, g_noP, g_part, g_kPart, g_frz, g_app, g_seq, g_seq_next, g_seq_ret, g_seq_err, g_seq_brk, g_seq_cnt, g_skip, g_ret, g_kRet, g_drop, g_kDrop, g_ifS, g_kIfS_t, g_kIfS_f, g_asg, g_kAsg, g_kAsg2, g_kAsg3, g_for, g_kFor, g_lc, g_seqI, g_itemsL, g_itemsT, g_rng1, g_revR1, g_enum, g_kEnum, g_wipe, g_wipe_next, g_wipe_ret, g_wipe_err, g_addI, g_subI, g_ltI, g_leI, g_gtI, g_geI, g_eqI, g_neI, g_eqS, g_neS, g_eqB, g_neB, g_neg, g_intI, g_intB, g_lenT, g_lenL, g_isN, g_yes, g_truL, g_truI, g_isNon_tup, g_isNon_non, g_slT, g_slL, g_slS, g_listL, g_listT, g_tupleL, g_raise, g_raiseA, g_kRaise1, g_kRaise2, g_setF, g_kSetF, g_make, g_meth, g_kMeth2, g_fld, g_kFldD, g_tryA, g_tryA_next, g_tryA_ret, g_cast0, g_cast1, g_cast2, g_cast3, g_cast4, g_cast5, g_cast6, g_cast7, g_cast8, g_cast9, g_cast10, g_cast11, g_cast12, g_cast13, lk, List.set_cons_zero, List.set_cons_succ, Bool.not_true, Bool.not_false, decide_true, decide_false, Int.reduceEq, Int.reduceLT, Int.reduceLE, Int.reduceSub, Int.reduceAdd, Int.reduceNeg, Int.reduceToNat, Int.reduceNe, Nat.reduceAdd, Nat.reduceLT, Nat.reduceLeDiff, eq_self, if_true, if_false, str_eq, String.reduceEq, isTy, String.reduceBEq, Bool.true_or, Bool.false_or, Bool.or_true, Bool.or_false, Bool.and_true, Bool.true_and, Bool.and_false, Bool.false_and, fIsi, fIsi2, kindOf, List.set_set, List.length_cons, List.length_nil, wipeE, beq_self_eq_true]
        cases hw : s.wf lv with
        | false =>
          simp (config := { implicitDefEqProofs := false }) only [g_bind_ok, g_bind_err, g_toS_ok, g_toS_err, g_var, g_c, g_op, g_op1, g_1, g_B, g_unB, g_test, g_and, g_or, g_not, g_kand_t, g_kand_f, g_kor_t, g_kor_f, g_knot, g_andV, g_orV, g_kandV_t, g_kandV_f, g_korV_t, g_korV_f, g_notV, g_kNotV, g_kNV, g_orT, g_kOrT, g_kOrT_t, g_kOrT_f, g_tru_bl, g_chain, g_ch1, g_ch2, g_ch3_t, g_ch3_f, g_if, g_kif_t, g_kif_f, g_nil, g_cons, g_cons1, g_cons2, g_lst, g_tup, g_allD_nil, g_allD_cons, kTup0, kTup1, kTup2, kTup3, kTup4, kLst0, kLst1, kLst2, kLst3, g_newF, g_newT, g_call, g_sl, g_sl0, g_sl1, g_sl2, g_noP, g_part, g_kPart, g_frz, g_app, g_seq, g_seq_next, g_seq_ret, g_seq_err, g_seq_brk, g_seq_cnt, g_skip, g_ret, g_kRet, g_drop, g_kDrop, g_ifS, g_kIfS_t, g_kIfS_f, g_asg, g_kAsg, g_kAsg2, g_kAsg3, g_for, g_kFor, g_lc, g_seqI, g_itemsL, g_itemsT, g_rng1, g_revR1, g_enum, g_kEnum, g_wipe, g_wipe_next, g_wipe_ret, g_wipe_err, g_addI, g_subI, g_ltI, g_leI, g_gtI, g_geI, g_eqI, g_neI, g_eqS, g_neS, g_eqB, g_neB, g_neg, g_intI, g_intB, g_lenT, g_lenL, g_isN, g_yes, g_truL, g_truI, g_isNon_tup, g_isNon_non, g_slT, g_slL, g_slS, g_listL, g_listT, g_tupleL, g_raise, g_raiseA, g_kRaise1, g_kRaise2, g_setF, g_kSetF, g_make, g_meth, g_kMeth2, g_fld, g_kFldD, g_tryA, g_tryA_next, g_tryA_ret, g_cast0, g_cast1, g_cast2, g_cast3, g_cast4, g_cast5, g_cast6, g_cast7, g_cast8, g_cast9, g_cast10, g_cast11, g_cast12, g_cast13, lk, List.set_cons_zero, List.set_cons_succ, Bool.not_true, Bool.not_false, decide_true, decide_false, Int.reduceEq, Int.reduceLT, Int.reduceLE, Int.reduceSub, Int.reduceAdd, Int.reduceNeg, Int.reduceToNat, Int.reduceNe, Nat.reduceAdd, Nat.reduceLT, Nat.reduceLeDiff, eq_self, if_true, if_false, str_eq, String.reduceEq, isTy, String.reduceBEq, Bool.true_or, Bool.false_or, Bool.or_true, Bool.or_false, Bool.and_true, Bool.true_and, Bool.and_false, Bool.false_and, fIsi, fIsi2, kindOf, List.set_set, List.length_cons, List.length_nil, wipeE, beq_self_eq_true]
          unfold ffL
          rw [if_pos (.inr (.inr hw))]
        | true =>
          have hlv : ffS lv (path ++ [((at_ : Nat) : Int)]) s (met + 1) = .okk (met + 1) ∧ s.blocks = [] ∨ lv < 3 := by
            cases s with
            | cmd c => exact .inl ⟨rfl, rfl⟩
            | fin w => exact .inl ⟨rfl, rfl⟩
            | bad => cases hw
            | keep b => refine .inr ?_; simp [Stt.wf] at hw; omega
            | again b => refine .inr ?_; simp [Stt.wf] at hw; omega
            | either a b => refine .inr ?_; simp [Stt.wf] at hw; omega
            | call g f a b => refine .inr ?_; simp [Stt.wf] at hw; omega
          have ea : ∀ x y z : Option Vl, mAug (fun x y => x + y) 4 (mC (.int 1)) [a, some (.dat (.int lv)), some (.dat (.int many)), some (.dat (tupI path)), some (.dat (.int met)), x, y, z, none, none, none] S = .next [a, some (.dat (.int lv)), some (.dat (.int many)), some (.dat (tupI path)), some (.dat (.int (met + 1))), x, y, z, none, none, none] S := fun _ _ _ => rfl
          have e2 : ffL lv path ((at_ : Nat) : Int) (s :: r) met = (ffS lv (path ++ [((at_ : Nat) : Int)]) s (met + 1)).then (ffL lv path (((at_ + 1 : Nat) : Int)) r) := by
            rw [ffL, if_neg (by rintro (h | h | h) <;> first | exact h8 h | exact hm h | (rw [hw] at h; cases h))]
            rfl
          rw [e2]
          simp (config := { implicitDefEqProofs := false }) only [ea, blocks_of, g_bind_ok, g_bind_err, g_toS_ok, g_toS_err, g_var, g_c, g_op, g_op1, g_1, g_B, g_unB, g_test, g_and, g_or, g_not, g_kand_t, g_kand_f, g_kor_t, g_kor_f, g_knot, g_andV, g_orV, g_kandV_t, g_kandV_f, g_korV_t, g_korV_f, g_notV, g_kNotV, g_kNV, g_orT, g_kOrT, g_kOrT_t, g_kOrT_f, g_tru_bl, g_chain, g_ch1, g_ch2, g_ch3_t, g_ch3_f, g_if, g_kif_t, g_kif_f, g_nil, g_cons, g_cons1, g_cons2, g_lst, g_tup, g_allD_nil, g_allD_cons, kTup0, kTup1, kTup2, kTup3, kTup4, kLst0, kLst1, kLst2, kLst3, g_newF, g_newT, g_call, g_sl, g_sl0, g_sl1, g_sl2, g_noP, g_part, g_kPart, g_frz, g_app, g_seq, g_seq_next, g_seq_ret, g_seq_err, g_seq_brk, g_seq_cnt, g_skip, g_ret, g_kRet, g_drop, g_kDrop, g_ifS, g_kIfS_t, g_kIfS_f, g_asg, g_kAsg, g_kAsg2, g_kAsg3, g_for, g_kFor, g_lc, g_seqI, g_itemsL, g_itemsT, g_rng1, g_revR1, g_enum, g_kEnum, g_wipe, g_wipe_next, g_wipe_ret, g_wipe_err, g_addI, g_subI, g_ltI, g_leI, g_gtI, g_geI, g_eqI, g_neI, g_eqS, g_neS, g_eqB, g_neB, g_neg, g_intI, g_intB, g_lenT, g_lenL, g_isN, g_yes, g_truL, g_truI, g_isNon_tup, g_isNon_non, g_slT, g_slL, g_slS, g_listL, g_listT, g_tupleL, g_raise, g_raiseA, g_kRaise1, g_kRaise2, g_setF, g_kSetF, g_make, g_meth, g_kMeth2, g_fld, g_kFldD, g_tryA, g_tryA_next, g_tryA_ret, g_cast0, g_cast1, g_cast2, g_cast3, g_cast4, g_cast5, g_cast6, g_cast7, g_cast8, g_cast9, g_cast10, g_cast11, g_cast12, g_cast13, lk, List.set_cons_zero, List.set_cons_succ, Bool.not_true, Bool.not_false, decide_true, decide_false, Int.reduceEq, Int.reduceLT, Int.reduceLE, Int.reduceSub, Int.reduceAdd, Int.reduceNeg, Int.reduceToNat, Int.reduceNe, Nat.reduceAdd, Nat.reduceLT, Nat.reduceLeDiff, eq_self, if_true, if_false, str_eq, String.reduceEq, isTy, String.reduceBEq, Bool.true_or, Bool.false_or, Bool.or_true, Bool.or_false, Bool.and_true, Bool.true_and, Bool.and_false, Bool.false_and, fIsi, fIsi2, kindOf, List.set_set, List.length_cons, List.length_nil, wipeE, beq_self_eq_true]
          rcases hlv with ⟨q1, q2⟩ | hlv
          · rw [q1, q2]
            simp (config := { implicitDefEqProofs := false }) only [bls, List.map_nil, enumD, loop, FR.then_okk, g_bind_ok, g_bind_err, g_toS_ok, g_toS_err, g_var, g_c, g_op, g_op1, g_1, g_B, g_unB, g_test, g_and, g_or, g_not, g_kand_t, g_kand_f, g_kor_t, g_kor_f, g_knot, g_andV, g_orV, g_kandV_t, g_kandV_f, g_korV_t, g_korV_f, g_notV, g_kNotV, g_kNV, g_orT, g_kOrT, g_kOrT_t, g_kOrT_f, g_tru_bl, g_chain, g_ch1, g_ch2, g_ch3_t, g_ch3_f, g_if, g_kif_t, g_kif_f, g_nil, g_cons, g_cons1, g_cons2, g_lst, g_tup, g_allD_nil, g_allD_cons, kTup0, kTup1, kTup2, kTup3, kTup4, kLst0, kLst1, kLst2, kLst3, g_newF, g_newT, g_call, g_sl, g_sl0, g_sl1, g_sl2, g_noP, g_part, g_kPart, g_frz, g_app, g_seq, g_seq_next, g_seq_ret, g_seq_err, g_seq_brk, g_seq_cnt, g_skip, g_ret, g_kRet, g_drop, g_kDrop, g_ifS, g_kIfS_t, g_kIfS_f, g_asg, g_kAsg, g_kAsg2, g_kAsg3, g_for, g_kFor, g_lc, g_seqI, g_itemsL, g_itemsT, g_rng1, g_revR1, g_enum, g_kEnum, g_wipe, g_wipe_next, g_wipe_ret, g_wipe_err, g_addI, g_subI, g_ltI, g_leI, g_gtI, g_geI, g_eqI, g_neI, g_eqS, g_neS, g_eqB, g_neB, g_neg, g_intI, g_intB, g_lenT, g_lenL, g_isN, g_yes, g_truL, g_truI, g_isNon_tup, g_isNon_non, g_slT, g_slL, g_slS, g_listL, g_listT, g_tupleL, g_raise, g_raiseA, g_kRaise1, g_kRaise2, g_setF, g_kSetF, g_make, g_meth, g_kMeth2, g_fld, g_kFldD, g_tryA, g_tryA_next, g_tryA_ret, g_cast0, g_cast1, g_cast2, g_cast3, g_cast4, g_cast5, g_cast6, g_cast7, g_cast8, g_cast9, g_cast10, g_cast11, g_cast12, g_cast13, lk, List.set_cons_zero, List.set_cons_succ, Bool.not_true, Bool.not_false, decide_true, decide_false, Int.reduceEq, Int.reduceLT, Int.reduceLE, Int.reduceSub, Int.reduceAdd, Int.reduceNeg, Int.reduceToNat, Int.reduceNe, Nat.reduceAdd, Nat.reduceLT, Nat.reduceLeDiff, eq_self, if_true, if_false, str_eq, String.reduceEq, isTy, String.reduceBEq, Bool.true_or, Bool.false_or, Bool.or_true, Bool.or_false, Bool.and_true, Bool.true_and, Bool.and_false, Bool.false_and, fIsi, fIsi2, kindOf, List.set_set, List.length_cons, List.length_nil, wipeE, beq_self_eq_true]
            exact rest (met + 1) h.2
          · rw [ff_in ih h.1.1 h0 hlv (by simp; omega) hn]
            cases q : ffS lv (path ++ [((at_ : Nat) : Int)]) s (met + 1) with
            | fault p m => simp (config := { implicitDefEqProofs := false }) only [FR.then_fault, g_bind_ok, g_bind_err, g_toS_ok, g_toS_err, g_var, g_c, g_op, g_op1, g_1, g_B, g_unB, g_test, g_and, g_or, g_not, g_kand_t, g_kand_f, g_kor_t, g_kor_f, g_knot, g_andV, g_orV, g_kandV_t, g_kandV_f, g_korV_t, g_korV_f, g_notV, g_kNotV, g_kNV, g_orT, g_kOrT, g_kOrT_t, g_kOrT_f, g_tru_bl, g_chain, g_ch1, g_ch2, g_ch3_t, g_ch3_f, g_if, g_kif_t, g_kif_f, g_nil, g_cons, g_cons1, g_cons2, g_lst, g_tup, g_allD_nil, g_allD_cons, kTup0, kTup1, kTup2, kTup3, kTup4, kLst0, kLst1, kLst2, kLst3, g_newF, g_newT, g_call, g_sl, g_sl0, g_sl1, g_sl2, g_noP, g_part, g_kPart, g_frz, g_app, g_seq, g_seq_next, g_seq_ret, g_seq_err, g_seq_brk, g_seq_cnt, g_skip, g_ret, g_kRet, g_drop, g_kDrop, g_ifS, g_kIfS_t, g_kIfS_f, g_asg, g_kAsg, g_kAsg2, g_kAsg3, g_for, g_kFor, g_lc, g_seqI, g_itemsL, g_itemsT, g_rng1, g_revR1, g_enum, g_kEnum, g_wipe, g_wipe_next, g_wipe_ret, g_wipe_err, g_addI, g_subI, g_ltI, g_leI, g_gtI, g_geI, g_eqI, g_neI, g_eqS, g_neS, g_eqB, g_neB, g_neg, g_intI, g_intB, g_lenT, g_lenL, g_isN, g_yes, g_truL, g_truI, g_isNon_tup, g_isNon_non, g_slT, g_slL, g_slS, g_listL, g_listT, g_tupleL, g_raise, g_raiseA, g_kRaise1, g_kRaise2, g_setF, g_kSetF, g_make, g_meth, g_kMeth2, g_fld, g_kFldD, g_tryA, g_tryA_next, g_tryA_ret, g_cast0, g_cast1, g_cast2, g_cast3, g_cast4, g_cast5, g_cast6, g_cast7, g_cast8, g_cast9, g_cast10, g_cast11, g_cast12, g_cast13, lk, List.set_cons_zero, List.set_cons_succ, Bool.not_true, Bool.not_false, decide_true, decide_false, Int.reduceEq, Int.reduceLT, Int.reduceLE, Int.reduceSub, Int.reduceAdd, Int.reduceNeg, Int.reduceToNat, Int.reduceNe, Nat.reduceAdd, Nat.reduceLT, Nat.reduceLeDiff, eq_self, if_true, if_false, str_eq, String.reduceEq, isTy, String.reduceBEq, Bool.true_or, Bool.false_or, Bool.or_true, Bool.or_false, Bool.and_true, Bool.true_and, Bool.and_false, Bool.false_and, fIsi, fIsi2, kindOf, List.set_set, List.length_cons, List.length_nil, wipeE, beq_self_eq_true]
            | okk m =>
              simp (config := { implicitDefEqProofs := false }) only [FR.then_okk, g_bind_ok, g_bind_err, g_toS_ok, g_toS_err, g_var, g_c, g_op, g_op1, g_1, g_B, g_unB, g_test, g_and, g_or, g_not, g_kand_t, g_kand_f, g_kor_t, g_kor_f, g_knot, g_andV, g_orV, g_kandV_t, g_kandV_f, g_korV_t, g_korV_f, g_notV, g_kNotV, g_kNV, g_orT, g_kOrT, g_kOrT_t, g_kOrT_f, g_tru_bl, g_chain, g_ch1, g_ch2, g_ch3_t, g_ch3_f, g_if, g_kif_t, g_kif_f, g_nil, g_cons, g_cons1, g_cons2, g_lst, g_tup, g_allD_nil, g_allD_cons, kTup0, kTup1, kTup2, kTup3, kTup4, kLst0, kLst1, kLst2, kLst3, g_newF, g_newT, g_call, g_sl, g_sl0, g_sl1, g_sl2, g_noP, g_part, g_kPart, g_frz, g_app, g_seq, g_seq_next, g_seq_ret, g_seq_err, g_seq_brk, g_seq_cnt, g_skip, g_ret, g_kRet, g_drop, g_kDrop, g_ifS, g_kIfS_t, g_kIfS_f, g_asg, g_kAsg, g_kAsg2, g_kAsg3, g_for, g_kFor, g_lc, g_seqI, g_itemsL, g_itemsT, g_rng1, g_revR1, g_enum, g_kEnum, g_wipe, g_wipe_next, g_wipe_ret, g_wipe_err, g_addI, g_subI, g_ltI, g_leI, g_gtI, g_geI, g_eqI, g_neI, g_eqS, g_neS, g_eqB, g_neB, g_neg, g_intI, g_intB, g_lenT, g_lenL, g_isN, g_yes, g_truL, g_truI, g_isNon_tup, g_isNon_non, g_slT, g_slL, g_slS, g_listL, g_listT, g_tupleL, g_raise, g_raiseA, g_kRaise1, g_kRaise2, g_setF, g_kSetF, g_make, g_meth, g_kMeth2, g_fld, g_kFldD, g_tryA, g_tryA_next, g_tryA_ret, g_cast0, g_cast1, g_cast2, g_cast3, g_cast4, g_cast5, g_cast6, g_cast7, g_cast8, g_cast9, g_cast10, g_cast11, g_cast12, g_cast13, lk, List.set_cons_zero, List.set_cons_succ, Bool.not_true, Bool.not_false, decide_true, decide_false, Int.reduceEq, Int.reduceLT, Int.reduceLE, Int.reduceSub, Int.reduceAdd, Int.reduceNeg, Int.reduceToNat, Int.reduceNe, Nat.reduceAdd, Nat.reduceLT, Nat.reduceLeDiff, eq_self, if_true, if_false, str_eq, String.reduceEq, isTy, String.reduceBEq, Bool.true_or, Bool.false_or, Bool.or_true, Bool.or_false, Bool.and_true, Bool.true_and, Bool.and_false, Bool.false_and, fIsi, fIsi2, kindOf, List.set_set, List.length_cons, List.length_nil, wipeE, beq_self_eq_true]
              exact rest m h.2
theorem fault_ok (n : Nat) : FaultOk n := by
  induction n with
  | zero =>
    intro S l lv many met path k hl h0 h3 hp hn
    omega
  | succ n ih =>
    intro S l lv many met path k hl h0 h3 hp hn
    rw [show m_first_fault (n + 1) [.dat (.lst (dsOf l)), .dat (.int lv), .dat (.int many), .dat (tupI path), .dat (.int met)] S = ofOut (b_first_fault (m_first_fault n) [some (.dat (.lst (dsOf l))), some (.dat (.int lv)), some (.dat (.int many)), some (.dat (tupI path)), some (.dat (.int met)), none, none, none, none, none, none] S) from rfl]
    unfold b_first_fault
    have e := ff_out ih (S := S) (a := some (.dat (.lst (dsOf l)))) h0 h3 hp (by omega) l 0 met hl
    rw [g_cast0] at e
    simp (config := { implicitDefEqProofs := false }) only [e, g_bind_ok, g_bind_err, g_toS_ok, g_toS_err, g_var, g_c, g_op, g_op1, g_1, g_B, g_unB, g_test, g_and, g_or, g_not, g_kand_t, g_kand_f, g_kor_t, g_kor_f, g_knot, g_andV, g_orV, g_kandV_t, g_kandV_f, g_korV_t, g_korV_f, g_notV, g_kNotV, g_kNV, g_orT, g_kOrT, g_kOrT_t, g_kOrT_f, g_tru_bl, g_chain, g_ch1, g_ch2, g_ch3_t, g_ch3_f, g_if, g_kif_t, g_kif_f, g_nil, g_cons, g_cons1, g_cons2, g_lst, g_tup, g_allD_nil, g_allD_cons, kTup0, kTup1, kTup2, kTup3, kTup4, kLst0, kLst1, kLst2, kLst3, g_newF, g_newT, g_call, g_sl, g_sl0, g_sl1, g_sl2, g_noP, g_part, g_kPart, g_frz, g_app, g_seq, g_seq_next, g_seq_ret, g_seq_err, g_seq_brk, g_seq_cnt, g_skip, g_ret, g_kRet, g_drop, g_kDrop, g_ifS, g_kIfS_t, g_kIfS_f, g_asg, g_kAsg, g_kAsg2, g_kAsg3, g_for, g_kFor, g_lc, g_seqI, g_itemsL, g_itemsT, g_rng1, g_revR1, g_enum, g_kEnum, g_wipe, g_wipe_next, g_wipe_ret, g_wipe_err, g_addI, g_subI, g_ltI, g_leI, g_gtI, g_geI, g_eqI, g_neI, g_eqS, g_neS, g_eqB, g_neB, g_neg, g_intI, g_intB, g_lenT, g_lenL, g_isN, g_yes, g_truL, g_truI, g_isNon_tup, g_isNon_non, g_slT, g_slL, g_slS, g_listL, g_listT, g_tupleL, g_raise, g_raiseA, g_kRaise1, g_kRaise2, g_setF, g_kSetF, g_make, g_meth, g_kMeth2, g_fld, g_kFldD, g_tryA, g_tryA_next, g_tryA_ret, g_cast0, g_cast1, g_cast2, g_cast3, g_cast4, g_cast5, g_cast6, g_cast7, g_cast8, g_cast9, g_cast10, g_cast11, g_cast12, g_cast13, lk, List.set_cons_zero, List.set_cons_succ, Bool.not_true, Bool.not_false, decide_true, decide_false, Int.reduceEq, Int.reduceLT, Int.reduceLE, Int.reduceSub, Int.reduceAdd, Int.reduceNeg, Int.reduceToNat, Int.reduceNe, Nat.reduceAdd, Nat.reduceLT, Nat.reduceLeDiff, eq_self, if_true, if_false, str_eq, String.reduceEq, isTy, String.reduceBEq, Bool.true_or, Bool.false_or, Bool.or_true, Bool.or_false, Bool.and_true, Bool.true_and, Bool.and_false, Bool.false_and, fIsi, fIsi2, kindOf, List.set_set, List.length_cons, List.length_nil, wipeE, beq_self_eq_true]
    cases q : ffL lv path 0 l met with
    | fault p m => simp (config := { implicitDefEqProofs := false }) only [g_bind_ok, g_bind_err, g_toS_ok, g_toS_err, g_var, g_c, g_op, g_op1, g_1, g_B, g_unB, g_test, g_and, g_or, g_not, g_kand_t, g_kand_f, g_kor_t, g_kor_f, g_knot, g_andV, g_orV, g_kandV_t, g_kandV_f, g_korV_t, g_korV_f, g_notV, g_kNotV, g_kNV, g_orT, g_kOrT, g_kOrT_t, g_kOrT_f, g_tru_bl, g_chain, g_ch1, g_ch2, g_ch3_t, g_ch3_f, g_if, g_kif_t, g_kif_f, g_nil, g_cons, g_cons1, g_cons2, g_lst, g_tup, g_allD_nil, g_allD_cons, kTup0, kTup1, kTup2, kTup3, kTup4, kLst0, kLst1, kLst2, kLst3, g_newF, g_newT, g_call, g_sl, g_sl0, g_sl1, g_sl2, g_noP, g_part, g_kPart, g_frz, g_app, g_seq, g_seq_next, g_seq_ret, g_seq_err, g_seq_brk, g_seq_cnt, g_skip, g_ret, g_kRet, g_drop, g_kDrop, g_ifS, g_kIfS_t, g_kIfS_f, g_asg, g_kAsg, g_kAsg2, g_kAsg3, g_for, g_kFor, g_lc, g_seqI, g_itemsL, g_itemsT, g_rng1, g_revR1, g_enum, g_kEnum, g_wipe, g_wipe_next, g_wipe_ret, g_wipe_err, g_addI, g_subI, g_ltI, g_leI, g_gtI, g_geI, g_eqI, g_neI, g_eqS, g_neS, g_eqB, g_neB, g_neg, g_intI, g_intB, g_lenT, g_lenL, g_isN, g_yes, g_truL, g_truI, g_isNon_tup, g_isNon_non, g_slT, g_slL, g_slS, g_listL, g_listT, g_tupleL, g_raise, g_raiseA, g_kRaise1, g_kRaise2, g_setF, g_kSetF, g_make, g_meth, g_kMeth2, g_fld, g_kFldD, g_tryA, g_tryA_next, g_tryA_ret, g_cast0, g_cast1, g_cast2, g_cast3, g_cast4, g_cast5, g_cast6, g_cast7, g_cast8, g_cast9, g_cast10, g_cast11, g_cast12, g_cast13, lk, List.set_cons_zero, List.set_cons_succ, Bool.not_true, Bool.not_false, decide_true, decide_false, Int.reduceEq, Int.reduceLT, Int.reduceLE, Int.reduceSub, Int.reduceAdd, Int.reduceNeg, Int.reduceToNat, Int.reduceNe, Nat.reduceAdd, Nat.reduceLT, Nat.reduceLeDiff, eq_self, if_true, if_false, str_eq, String.reduceEq, isTy, String.reduceBEq, Bool.true_or, Bool.false_or, Bool.or_true, Bool.or_false, Bool.and_true, Bool.true_and, Bool.and_false, Bool.false_and, fIsi, fIsi2, kindOf, List.set_set, List.length_cons, List.length_nil, wipeE, beq_self_eq_true]; rfl
    | okk m => simp (config := { implicitDefEqProofs := false }) only [g_bind_ok, g_bind_err, g_toS_ok, g_toS_err, g_var, g_c, g_op, g_op1, g_1, g_B, g_unB, g_test, g_and, g_or, g_not, g_kand_t, g_kand_f, g_kor_t, g_kor_f, g_knot, g_andV, g_orV, g_kandV_t, g_kandV_f, g_korV_t, g_korV_f, g_notV, g_kNotV, g_kNV, g_orT, g_kOrT, g_kOrT_t, g_kOrT_f, g_tru_bl, g_chain, g_ch1, g_ch2, g_ch3_t, g_ch3_f, g_if, g_kif_t, g_kif_f, g_nil, g_cons, g_cons1, g_cons2, g_lst, g_tup, g_allD_nil, g_allD_cons, kTup0, kTup1, kTup2, kTup3, kTup4, kLst0, kLst1, kLst2, kLst3, g_newF, g_newT, g_call, g_sl, g_sl0, g_sl1, g_sl2, g_noP, g_part, g_kPart, g_frz, g_app, g_seq, g_seq_next, g_seq_ret, g_seq_err, g_seq_brk, g_seq_cnt, g_skip, g_ret, g_kRet, g_drop, g_kDrop, g_ifS, g_kIfS_t, g_kIfS_f, g_asg, g_kAsg, g_kAsg2, g_kAsg3, g_for, g_kFor, g_lc, g_seqI, g_itemsL, g_itemsT, g_rng1, g_revR1, g_enum, g_kEnum, g_wipe, g_wipe_next, g_wipe_ret, g_wipe_err, g_addI, g_subI, g_ltI, g_leI, g_gtI, g_geI, g_eqI, g_neI, g_eqS, g_neS, g_eqB, g_neB, g_neg, g_intI, g_intB, g_lenT, g_lenL, g_isN, g_yes, g_truL, g_truI, g_isNon_tup, g_isNon_non, g_slT, g_slL, g_slS, g_listL, g_listT, g_tupleL, g_raise, g_raiseA, g_kRaise1, g_kRaise2, g_setF, g_kSetF, g_make, g_meth, g_kMeth2, g_fld, g_kFldD, g_tryA, g_tryA_next, g_tryA_ret, g_cast0, g_cast1, g_cast2, g_cast3, g_cast4, g_cast5, g_cast6, g_cast7, g_cast8, g_cast9, g_cast10, g_cast11, g_cast12, g_cast13, lk, List.set_cons_zero, List.set_cons_succ, Bool.not_true, Bool.not_false, decide_true, decide_false, Int.reduceEq, Int.reduceLT, Int.reduceLE, Int.reduceSub, Int.reduceAdd, Int.reduceNeg, Int.reduceToNat, Int.reduceNe, Nat.reduceAdd, Nat.reduceLT, Nat.reduceLeDiff, eq_self, if_true, if_false, str_eq, String.reduceEq, isTy, String.reduceBEq, Bool.true_or, Bool.false_or, Bool.or_true, Bool.or_false, Bool.and_true, Bool.true_and, Bool.and_false, Bool.false_and, fIsi, fIsi2, kindOf, List.set_set, List.length_cons, List.length_nil, wipeE, beq_self_eq_true]; rfl
end PH

namespace PH
open PySem PySem.Spec PyProof.Rows L2
theorem lcGo_map {α : Type} {t : Tg} {e : FE} {ρ : Ev} {S : Sto} {f g : α → D} : ∀ {xs : List α}, (∀ x ∈ xs, ∃ ρ1, tgF t (.dat (f x)) ρ = some ρ1 ∧ e ρ1 S = .ok (.dat (g x)) S) → lcGo t mYes e ρ (xs.map f) S = .ok (xs.map g) S
  | [], _ => rfl
  | x :: xs, h => by
    obtain ⟨ρ1, h1, h2⟩ := h x (List.mem_cons_self ..)
    have ih := lcGo_map (xs := xs) fun y hy => h y (List.mem_cons_of_mem _ hy)
    rw [List.map_cons, lcGo]
    simp only [h1, g_yes, h2, if_true, ih, List.map_cons]
theorem kLc_map {α : Type} {cl : Bool} {t : Tg} {e : FE} {ρ : Ev} {S : Sto} {f g : α → D} {xs : List α} {vs : List Nat} (hl : xs.length ≤ sizeLine) (h : ∀ x ∈ xs, ∃ ρ1, tgF t (.dat (f x)) (wipeE ρ vs) = some ρ1 ∧ e ρ1 S = .ok (.dat (g x)) S) : kLc cl t mYes e ρ vs (xs.map f) S = newL cl (xs.map g) S := by
  unfold kLc
  rw [List.length_map, if_pos hl, lcGo_map h]
theorem dsOf_map : ∀ l : List Stt, dsOf l = l.map Stt.d
  | [] => rfl
  | s :: r => by rw [dsOf, dsOf_map r]; rfl
theorem blocks_ok {many : Int} {s : Stt} {k : Nat} (h : s.Ok many k) : ∀ b ∈ s.blocks, 0 < k ∧ OkL many b (k - 1) := by
  intro b hb
  cases s with
  | cmd c => cases hb
  | fin w => cases hb
  | bad => cases hb
  | keep x => simp [Stt.blocks] at hb; subst hb; exact h
  | again x => simp [Stt.blocks] at hb; subst hb; exact h
  | either x y => simp [Stt.blocks] at hb; rcases hb with rfl | rfl; exact ⟨h.1, h.2.1⟩; exact ⟨h.1, h.2.2⟩
  | call g f x y => simp [Stt.blocks] at hb; rcases hb with rfl | rfl; exact ⟨h.1.1, h.2.1⟩; exact ⟨h.1.1, h.2.2⟩
theorem OkL.mem {many : Int} : ∀ {l : List Stt} {k : Nat}, OkL many l k → ∀ s ∈ l, s.Ok many k
  | [], _, _, s, hs => by cases hs
  | x :: r, k, h, s, hs => by
    rcases List.mem_cons.mp hs with rfl | hs
    · exact h.1.1
    · exact OkL.mem h.2 s hs
theorem blocks_few {s : Stt} : s.blocks.length ≤ 2 := by cases s <;> simp [Stt.blocks]
def CopyOk (n : Nat) : Prop := (∀ {S : Sto} {many : Int} {s : Stt} {k : Nat}, s.Ok many k → 2 * k + 1 ≤ n → m_copied_statement n [.dat s.d] S = .ok (.dat s.d) S) ∧ ∀ {S : Sto} {many : Int} {l : List Stt} {k : Nat}, OkL many l k → 2 * k + 2 ≤ n → m_copied_block n [.dat (.lst (dsOf l))] S = .ok (.dat (.lst (dsOf l))) S
theorem copy_ok (n : Nat) : CopyOk n := by
  induction n with
  | zero => exact ⟨fun _ h => by omega, fun _ h => by omega⟩
  | succ n ih =>
    constructor
    · intro S many s k h hn
      rw [show m_copied_statement (n + 1) [.dat s.d] S = ofOut (b_copied_statement (m_copied_block n) [some (.dat s.d), none] S) from rfl]
      unfold b_copied_statement
      simp (config := { implicitDefEqProofs := false }) only [blocks_of, g_bind_ok, g_bind_err, g_toS_ok, g_toS_err, g_var, g_c, g_op, g_op1, g_1, g_B, g_unB, g_test, g_and, g_or, g_not, g_kand_t, g_kand_f, g_kor_t, g_kor_f, g_knot, g_andV, g_orV, g_kandV_t, g_kandV_f, g_korV_t, g_korV_f, g_notV, g_kNotV, g_kNV, g_orT, g_kOrT, g_kOrT_t, g_kOrT_f, g_tru_bl, g_chain, g_ch1, g_ch2, g_ch3_t, g_ch3_f, g_if, g_kif_t, g_kif_f, g_nil, g_cons, g_cons1, g_cons2, g_lst, g_tup, g_allD_nil, g_allD_cons, kTup0, kTup1, kTup2, kTup3, kTup4, kLst0, kLst1, kLst2, kLst3, g_newF, g_newT, g_call, g_sl, g_sl0, g_sl1, g_sl2, g_noP, g_part, g_kPart, g_frz, g_app, g_seq, g_seq_next, g_seq_ret, g_seq_err, g_seq_brk, g_seq_cnt, g_skip, g_ret, g_kRet, g_drop, g_kDrop, g_ifS, g_kIfS_t, g_kIfS_f, g_asg, g_kAsg, g_kAsg2, g_kAsg3, g_for, g_kFor, g_lc, g_seqI, g_itemsL, g_itemsT, g_rng1, g_revR1, g_enum, g_kEnum, g_wipe, g_wipe_next, g_wipe_ret, g_wipe_err, g_addI, g_subI, g_ltI, g_leI, g_gtI, g_geI, g_eqI, g_neI, g_eqS, g_neS, g_eqB, g_neB, g_neg, g_intI, g_intB, g_lenT, g_lenL, g_isN, g_yes, g_truL, g_truI, g_isNon_tup, g_isNon_non, g_slT, g_slL, g_slS, g_listL, g_listT, g_tupleL, g_raise, g_raiseA, g_kRaise1, g_kRaise2, g_setF, g_kSetF, g_make, g_meth, g_kMeth2, g_fld, g_kFldD, g_tryA, g_tryA_next, g_tryA_ret, g_cast0, g_cast1, g_cast2, g_cast3, g_cast4, g_cast5, g_cast6, g_cast7, g_cast8, g_cast9, g_cast10, g_cast11, g_cast12, g_cast13, lk, List.set_cons_zero, List.set_cons_succ, Bool.not_true, Bool.not_false, decide_true, decide_false, Int.reduceEq, Int.reduceLT, Int.reduceLE, Int.reduceSub, Int.reduceAdd, Int.reduceNeg, Int.reduceToNat, Int.reduceNe, Nat.reduceAdd, Nat.reduceLT, Nat.reduceLeDiff, eq_self, if_true, if_false, str_eq, String.reduceEq, isTy, String.reduceBEq, Bool.true_or, Bool.false_or, Bool.or_true, Bool.or_false, Bool.and_true, Bool.true_and, Bool.and_false, Bool.false_and, fIsi, fIsi2, kindOf, List.set_set, List.length_cons, List.length_nil, wipeE, beq_self_eq_true]
      rw [show bls s.blocks = s.blocks.map (fun b => .lst (dsOf b)) from rfl, kLc_map (g := fun b => .lst (dsOf b)) (sz (by have := blocks_few (s := s); omega)) fun b hb => ⟨_, rfl, ?_⟩]
      · simp (config := { implicitDefEqProofs := false }) only [show s.blocks.map (fun b => D.lst (dsOf b)) = bls s.blocks from rfl, with_blocks, g_bind_ok, g_bind_err, g_toS_ok, g_toS_err, g_var, g_c, g_op, g_op1, g_1, g_B, g_unB, g_test, g_and, g_or, g_not, g_kand_t, g_kand_f, g_kor_t, g_kor_f, g_knot, g_andV, g_orV, g_kandV_t, g_kandV_f, g_korV_t, g_korV_f, g_notV, g_kNotV, g_kNV, g_orT, g_kOrT, g_kOrT_t, g_kOrT_f, g_tru_bl, g_chain, g_ch1, g_ch2, g_ch3_t, g_ch3_f, g_if, g_kif_t, g_kif_f, g_nil, g_cons, g_cons1, g_cons2, g_lst, g_tup, g_allD_nil, g_allD_cons, kTup0, kTup1, kTup2, kTup3, kTup4, kLst0, kLst1, kLst2, kLst3, g_newF, g_newT, g_call, g_sl, g_sl0, g_sl1, g_sl2, g_noP, g_part, g_kPart, g_frz, g_app, g_seq, g_seq_next, g_seq_ret, g_seq_err, g_seq_brk, g_seq_cnt, g_skip, g_ret, g_kRet, g_drop, g_kDrop, g_ifS, g_kIfS_t, g_kIfS_f, g_asg, g_kAsg, g_kAsg2, g_kAsg3, g_for, g_kFor, g_lc, g_seqI, g_itemsL, g_itemsT, g_rng1, g_revR1, g_enum, g_kEnum, g_wipe, g_wipe_next, g_wipe_ret, g_wipe_err, g_addI, g_subI, g_ltI, g_leI, g_gtI, g_geI, g_eqI, g_neI, g_eqS, g_neS, g_eqB, g_neB, g_neg, g_intI, g_intB, g_lenT, g_lenL, g_isN, g_yes, g_truL, g_truI, g_isNon_tup, g_isNon_non, g_slT, g_slL, g_slS, g_listL, g_listT, g_tupleL, g_raise, g_raiseA, g_kRaise1, g_kRaise2, g_setF, g_kSetF, g_make, g_meth, g_kMeth2, g_fld, g_kFldD, g_tryA, g_tryA_next, g_tryA_ret, g_cast0, g_cast1, g_cast2, g_cast3, g_cast4, g_cast5, g_cast6, g_cast7, g_cast8, g_cast9, g_cast10, g_cast11, g_cast12, g_cast13, lk, List.set_cons_zero, List.set_cons_succ, Bool.not_true, Bool.not_false, decide_true, decide_false, Int.reduceEq, Int.reduceLT, Int.reduceLE, Int.reduceSub, Int.reduceAdd, Int.reduceNeg, Int.reduceToNat, Int.reduceNe, Nat.reduceAdd, Nat.reduceLT, Nat.reduceLeDiff, eq_self, if_true, if_false, str_eq, String.reduceEq, isTy, String.reduceBEq, Bool.true_or, Bool.false_or, Bool.or_true, Bool.or_false, Bool.and_true, Bool.true_and, Bool.and_false, Bool.false_and, fIsi, fIsi2, kindOf, List.set_set, List.length_cons, List.length_nil, wipeE, beq_self_eq_true]
        rfl
      · obtain ⟨h1, h2⟩ := blocks_ok h b hb
        simp (config := { implicitDefEqProofs := false }) only [ih.2 h2 (by omega), g_bind_ok, g_bind_err, g_toS_ok, g_toS_err, g_var, g_c, g_op, g_op1, g_1, g_B, g_unB, g_test, g_and, g_or, g_not, g_kand_t, g_kand_f, g_kor_t, g_kor_f, g_knot, g_andV, g_orV, g_kandV_t, g_kandV_f, g_korV_t, g_korV_f, g_notV, g_kNotV, g_kNV, g_orT, g_kOrT, g_kOrT_t, g_kOrT_f, g_tru_bl, g_chain, g_ch1, g_ch2, g_ch3_t, g_ch3_f, g_if, g_kif_t, g_kif_f, g_nil, g_cons, g_cons1, g_cons2, g_lst, g_tup, g_allD_nil, g_allD_cons, kTup0, kTup1, kTup2, kTup3, kTup4, kLst0, kLst1, kLst2, kLst3, g_newF, g_newT, g_call, g_sl, g_sl0, g_sl1, g_sl2, g_noP, g_part, g_kPart, g_frz, g_app, g_seq, g_seq_next, g_seq_ret, g_seq_err, g_seq_brk, g_seq_cnt, g_skip, g_ret, g_kRet, g_drop, g_kDrop, g_ifS, g_kIfS_t, g_kIfS_f, g_asg, g_kAsg, g_kAsg2, g_kAsg3, g_for, g_kFor, g_lc, g_seqI, g_itemsL, g_itemsT, g_rng1, g_revR1, g_enum, g_kEnum, g_wipe, g_wipe_next, g_wipe_ret, g_wipe_err, g_addI, g_subI, g_ltI, g_leI, g_gtI, g_geI, g_eqI, g_neI, g_eqS, g_neS, g_eqB, g_neB, g_neg, g_intI, g_intB, g_lenT, g_lenL, g_isN, g_yes, g_truL, g_truI, g_isNon_tup, g_isNon_non, g_slT, g_slL, g_slS, g_listL, g_listT, g_tupleL, g_raise, g_raiseA, g_kRaise1, g_kRaise2, g_setF, g_kSetF, g_make, g_meth, g_kMeth2, g_fld, g_kFldD, g_tryA, g_tryA_next, g_tryA_ret, g_cast0, g_cast1, g_cast2, g_cast3, g_cast4, g_cast5, g_cast6, g_cast7, g_cast8, g_cast9, g_cast10, g_cast11, g_cast12, g_cast13, lk, List.set_cons_zero, List.set_cons_succ, Bool.not_true, Bool.not_false, decide_true, decide_false, Int.reduceEq, Int.reduceLT, Int.reduceLE, Int.reduceSub, Int.reduceAdd, Int.reduceNeg, Int.reduceToNat, Int.reduceNe, Nat.reduceAdd, Nat.reduceLT, Nat.reduceLeDiff, eq_self, if_true, if_false, str_eq, String.reduceEq, isTy, String.reduceBEq, Bool.true_or, Bool.false_or, Bool.or_true, Bool.or_false, Bool.and_true, Bool.true_and, Bool.and_false, Bool.false_and, fIsi, fIsi2, kindOf, List.set_set, List.length_cons, List.length_nil, wipeE, beq_self_eq_true]
    · intro S many l k h hn
      rw [show m_copied_block (n + 1) [.dat (.lst (dsOf l))] S = ofOut (b_copied_block (m_copied_statement n) [some (.dat (.lst (dsOf l))), none] S) from rfl]
      unfold b_copied_block
      simp (config := { implicitDefEqProofs := false }) only [dsOf_map, g_bind_ok, g_bind_err, g_toS_ok, g_toS_err, g_var, g_c, g_op, g_op1, g_1, g_B, g_unB, g_test, g_and, g_or, g_not, g_kand_t, g_kand_f, g_kor_t, g_kor_f, g_knot, g_andV, g_orV, g_kandV_t, g_kandV_f, g_korV_t, g_korV_f, g_notV, g_kNotV, g_kNV, g_orT, g_kOrT, g_kOrT_t, g_kOrT_f, g_tru_bl, g_chain, g_ch1, g_ch2, g_ch3_t, g_ch3_f, g_if, g_kif_t, g_kif_f, g_nil, g_cons, g_cons1, g_cons2, g_lst, g_tup, g_allD_nil, g_allD_cons, kTup0, kTup1, kTup2, kTup3, kTup4, kLst0, kLst1, kLst2, kLst3, g_newF, g_newT, g_call, g_sl, g_sl0, g_sl1, g_sl2, g_noP, g_part, g_kPart, g_frz, g_app, g_seq, g_seq_next, g_seq_ret, g_seq_err, g_seq_brk, g_seq_cnt, g_skip, g_ret, g_kRet, g_drop, g_kDrop, g_ifS, g_kIfS_t, g_kIfS_f, g_asg, g_kAsg, g_kAsg2, g_kAsg3, g_for, g_kFor, g_lc, g_seqI, g_itemsL, g_itemsT, g_rng1, g_revR1, g_enum, g_kEnum, g_wipe, g_wipe_next, g_wipe_ret, g_wipe_err, g_addI, g_subI, g_ltI, g_leI, g_gtI, g_geI, g_eqI, g_neI, g_eqS, g_neS, g_eqB, g_neB, g_neg, g_intI, g_intB, g_lenT, g_lenL, g_isN, g_yes, g_truL, g_truI, g_isNon_tup, g_isNon_non, g_slT, g_slL, g_slS, g_listL, g_listT, g_tupleL, g_raise, g_raiseA, g_kRaise1, g_kRaise2, g_setF, g_kSetF, g_make, g_meth, g_kMeth2, g_fld, g_kFldD, g_tryA, g_tryA_next, g_tryA_ret, g_cast0, g_cast1, g_cast2, g_cast3, g_cast4, g_cast5, g_cast6, g_cast7, g_cast8, g_cast9, g_cast10, g_cast11, g_cast12, g_cast13, lk, List.set_cons_zero, List.set_cons_succ, Bool.not_true, Bool.not_false, decide_true, decide_false, Int.reduceEq, Int.reduceLT, Int.reduceLE, Int.reduceSub, Int.reduceAdd, Int.reduceNeg, Int.reduceToNat, Int.reduceNe, Nat.reduceAdd, Nat.reduceLT, Nat.reduceLeDiff, eq_self, if_true, if_false, str_eq, String.reduceEq, isTy, String.reduceBEq, Bool.true_or, Bool.false_or, Bool.or_true, Bool.or_false, Bool.and_true, Bool.true_and, Bool.and_false, Bool.false_and, fIsi, fIsi2, kindOf, List.set_set, List.length_cons, List.length_nil, wipeE, beq_self_eq_true]
      rw [kLc_map (g := Stt.d) (sz (by have := h.len; omega)) fun s hs => ⟨_, rfl, ?_⟩]
      · rfl
      · simp (config := { implicitDefEqProofs := false }) only [ih.1 (h.mem s hs) (by omega), g_bind_ok, g_bind_err, g_toS_ok, g_toS_err, g_var, g_c, g_op, g_op1, g_1, g_B, g_unB, g_test, g_and, g_or, g_not, g_kand_t, g_kand_f, g_kor_t, g_kor_f, g_knot, g_andV, g_orV, g_kandV_t, g_kandV_f, g_korV_t, g_korV_f, g_notV, g_kNotV, g_kNV, g_orT, g_kOrT, g_kOrT_t, g_kOrT_f, g_tru_bl, g_chain, g_ch1, g_ch2, g_ch3_t, g_ch3_f, g_if, g_kif_t, g_kif_f, g_nil, g_cons, g_cons1, g_cons2, g_lst, g_tup, g_allD_nil, g_allD_cons, kTup0, kTup1, kTup2, kTup3, kTup4, kLst0, kLst1, kLst2, kLst3, g_newF, g_newT, g_call, g_sl, g_sl0, g_sl1, g_sl2, g_noP, g_part, g_kPart, g_frz, g_app, g_seq, g_seq_next, g_seq_ret, g_seq_err, g_seq_brk, g_seq_cnt, g_skip, g_ret, g_kRet, g_drop, g_kDrop, g_ifS, g_kIfS_t, g_kIfS_f, g_asg, g_kAsg, g_kAsg2, g_kAsg3, g_for, g_kFor, g_lc, g_seqI, g_itemsL, g_itemsT, g_rng1, g_revR1, g_enum, g_kEnum, g_wipe, g_wipe_next, g_wipe_ret, g_wipe_err, g_addI, g_subI, g_ltI, g_leI, g_gtI, g_geI, g_eqI, g_neI, g_eqS, g_neS, g_eqB, g_neB, g_neg, g_intI, g_intB, g_lenT, g_lenL, g_isN, g_yes, g_truL, g_truI, g_isNon_tup, g_isNon_non, g_slT, g_slL, g_slS, g_listL, g_listT, g_tupleL, g_raise, g_raiseA, g_kRaise1, g_kRaise2, g_setF, g_kSetF, g_make, g_meth, g_kMeth2, g_fld, g_kFldD, g_tryA, g_tryA_next, g_tryA_ret, g_cast0, g_cast1, g_cast2, g_cast3, g_cast4, g_cast5, g_cast6, g_cast7, g_cast8, g_cast9, g_cast10, g_cast11, g_cast12, g_cast13, lk, List.set_cons_zero, List.set_cons_succ, Bool.not_true, Bool.not_false, decide_true, decide_false, Int.reduceEq, Int.reduceLT, Int.reduceLE, Int.reduceSub, Int.reduceAdd, Int.reduceNeg, Int.reduceToNat, Int.reduceNe, Nat.reduceAdd, Nat.reduceLT, Nat.reduceLeDiff, eq_self, if_true, if_false, str_eq, String.reduceEq, isTy, String.reduceBEq, Bool.true_or, Bool.false_or, Bool.or_true, Bool.or_false, Bool.and_true, Bool.true_and, Bool.and_false, Bool.false_and, fIsi, fIsi2, kindOf, List.set_set, List.length_cons, List.length_nil, wipeE, beq_self_eq_true]
theorem L_blocks {s : Stt} {S : Sto} : m_L_blocks [.dat s.d] S = .ok (.dat (.lst (bls s.blocks))) S := by
  rw [show m_L_blocks [.dat s.d] S = ofOut (b_L_blocks [some (.dat s.d), none] S) from rfl]
  unfold b_L_blocks
  cases s with
  | cmd c => cases c <;> (simp (config := { implicitDefEqProofs := false }) only [Stt.d, Cmd.d, ixT0, cut1, kLc, lcGo, tgF, sz, g_bind_ok, g_bind_err, g_toS_ok, g_toS_err, g_var, g_c, g_op, g_op1, g_1, g_B, g_unB, g_test, g_and, g_or, g_not, g_kand_t, g_kand_f, g_kor_t, g_kor_f, g_knot, g_andV, g_orV, g_kandV_t, g_kandV_f, g_korV_t, g_korV_f, g_notV, g_kNotV, g_kNV, g_orT, g_kOrT, g_kOrT_t, g_kOrT_f, g_tru_bl, g_chain, g_ch1, g_ch2, g_ch3_t, g_ch3_f, g_if, g_kif_t, g_kif_f, g_nil, g_cons, g_cons1, g_cons2, g_lst, g_tup, g_allD_nil, g_allD_cons, kTup0, kTup1, kTup2, kTup3, kTup4, kLst0, kLst1, kLst2, kLst3, g_newF, g_newT, g_call, g_sl, g_sl0, g_sl1, g_sl2, g_noP, g_part, g_kPart, g_frz, g_app, g_seq, g_seq_next, g_seq_ret, g_seq_err, g_seq_brk, g_seq_cnt, g_skip, g_ret, g_kRet, g_drop, g_kDrop, g_ifS, g_kIfS_t, g_kIfS_f, g_asg, g_kAsg, g_kAsg2, g_kAsg3, g_for, g_kFor, g_lc, g_seqI, g_itemsL, g_itemsT, g_rng1, g_revR1, g_enum, g_kEnum, g_wipe, g_wipe_next, g_wipe_ret, g_wipe_err, g_addI, g_subI, g_ltI, g_leI, g_gtI, g_geI, g_eqI, g_neI, g_eqS, g_neS, g_eqB, g_neB, g_neg, g_intI, g_intB, g_lenT, g_lenL, g_isN, g_yes, g_truL, g_truI, g_isNon_tup, g_isNon_non, g_slT, g_slL, g_slS, g_listL, g_listT, g_tupleL, g_raise, g_raiseA, g_kRaise1, g_kRaise2, g_setF, g_kSetF, g_make, g_meth, g_kMeth2, g_fld, g_kFldD, g_tryA, g_tryA_next, g_tryA_ret, g_cast0, g_cast1, g_cast2, g_cast3, g_cast4, g_cast5, g_cast6, g_cast7, g_cast8, g_cast9, g_cast10, g_cast11, g_cast12, g_cast13, lk, List.set_cons_zero, List.set_cons_succ, Bool.not_true, Bool.not_false, decide_true, decide_false, Int.reduceEq, Int.reduceLT, Int.reduceLE, Int.reduceSub, Int.reduceAdd, Int.reduceNeg, Int.reduceToNat, Int.reduceNe, Nat.reduceAdd, Nat.reduceLT, Nat.reduceLeDiff, eq_self, if_true, if_false, str_eq, String.reduceEq, isTy, String.reduceBEq, Bool.true_or, Bool.false_or, Bool.or_true, Bool.or_false, Bool.and_true, Bool.true_and, Bool.and_false, Bool.false_and, fIsi, fIsi2, kindOf, List.set_set, List.length_cons, List.length_nil, wipeE, beq_self_eq_true]; rfl)
  | fin w => simp (config := { implicitDefEqProofs := false }) only [Stt.d, ixT0, cut1, kLc, lcGo, tgF, sz, g_bind_ok, g_bind_err, g_toS_ok, g_toS_err, g_var, g_c, g_op, g_op1, g_1, g_B, g_unB, g_test, g_and, g_or, g_not, g_kand_t, g_kand_f, g_kor_t, g_kor_f, g_knot, g_andV, g_orV, g_kandV_t, g_kandV_f, g_korV_t, g_korV_f, g_notV, g_kNotV, g_kNV, g_orT, g_kOrT, g_kOrT_t, g_kOrT_f, g_tru_bl, g_chain, g_ch1, g_ch2, g_ch3_t, g_ch3_f, g_if, g_kif_t, g_kif_f, g_nil, g_cons, g_cons1, g_cons2, g_lst, g_tup, g_allD_nil, g_allD_cons, kTup0, kTup1, kTup2, kTup3, kTup4, kLst0, kLst1, kLst2, kLst3, g_newF, g_newT, g_call, g_sl, g_sl0, g_sl1, g_sl2, g_noP, g_part, g_kPart, g_frz, g_app, g_seq, g_seq_next, g_seq_ret, g_seq_err, g_seq_brk, g_seq_cnt, g_skip, g_ret, g_kRet, g_drop, g_kDrop, g_ifS, g_kIfS_t, g_kIfS_f, g_asg, g_kAsg, g_kAsg2, g_kAsg3, g_for, g_kFor, g_lc, g_seqI, g_itemsL, g_itemsT, g_rng1, g_revR1, g_enum, g_kEnum, g_wipe, g_wipe_next, g_wipe_ret, g_wipe_err, g_addI, g_subI, g_ltI, g_leI, g_gtI, g_geI, g_eqI, g_neI, g_eqS, g_neS, g_eqB, g_neB, g_neg, g_intI, g_intB, g_lenT, g_lenL, g_isN, g_yes, g_truL, g_truI, g_isNon_tup, g_isNon_non, g_slT, g_slL, g_slS, g_listL, g_listT, g_tupleL, g_raise, g_raiseA, g_kRaise1, g_kRaise2, g_setF, g_kSetF, g_make, g_meth, g_kMeth2, g_fld, g_kFldD, g_tryA, g_tryA_next, g_tryA_ret, g_cast0, g_cast1, g_cast2, g_cast3, g_cast4, g_cast5, g_cast6, g_cast7, g_cast8, g_cast9, g_cast10, g_cast11, g_cast12, g_cast13, lk, List.set_cons_zero, List.set_cons_succ, Bool.not_true, Bool.not_false, decide_true, decide_false, Int.reduceEq, Int.reduceLT, Int.reduceLE, Int.reduceSub, Int.reduceAdd, Int.reduceNeg, Int.reduceToNat, Int.reduceNe, Nat.reduceAdd, Nat.reduceLT, Nat.reduceLeDiff, eq_self, if_true, if_false, str_eq, String.reduceEq, isTy, String.reduceBEq, Bool.true_or, Bool.false_or, Bool.or_true, Bool.or_false, Bool.and_true, Bool.true_and, Bool.and_false, Bool.false_and, fIsi, fIsi2, kindOf, List.set_set, List.length_cons, List.length_nil, wipeE, beq_self_eq_true]; rfl
  | keep b => simp (config := { implicitDefEqProofs := false }) only [Stt.d, ixT0, cut1, kLc, lcGo, tgF, sz, g_bind_ok, g_bind_err, g_toS_ok, g_toS_err, g_var, g_c, g_op, g_op1, g_1, g_B, g_unB, g_test, g_and, g_or, g_not, g_kand_t, g_kand_f, g_kor_t, g_kor_f, g_knot, g_andV, g_orV, g_kandV_t, g_kandV_f, g_korV_t, g_korV_f, g_notV, g_kNotV, g_kNV, g_orT, g_kOrT, g_kOrT_t, g_kOrT_f, g_tru_bl, g_chain, g_ch1, g_ch2, g_ch3_t, g_ch3_f, g_if, g_kif_t, g_kif_f, g_nil, g_cons, g_cons1, g_cons2, g_lst, g_tup, g_allD_nil, g_allD_cons, kTup0, kTup1, kTup2, kTup3, kTup4, kLst0, kLst1, kLst2, kLst3, g_newF, g_newT, g_call, g_sl, g_sl0, g_sl1, g_sl2, g_noP, g_part, g_kPart, g_frz, g_app, g_seq, g_seq_next, g_seq_ret, g_seq_err, g_seq_brk, g_seq_cnt, g_skip, g_ret, g_kRet, g_drop, g_kDrop, g_ifS, g_kIfS_t, g_kIfS_f, g_asg, g_kAsg, g_kAsg2, g_kAsg3, g_for, g_kFor, g_lc, g_seqI, g_itemsL, g_itemsT, g_rng1, g_revR1, g_enum, g_kEnum, g_wipe, g_wipe_next, g_wipe_ret, g_wipe_err, g_addI, g_subI, g_ltI, g_leI, g_gtI, g_geI, g_eqI, g_neI, g_eqS, g_neS, g_eqB, g_neB, g_neg, g_intI, g_intB, g_lenT, g_lenL, g_isN, g_yes, g_truL, g_truI, g_isNon_tup, g_isNon_non, g_slT, g_slL, g_slS, g_listL, g_listT, g_tupleL, g_raise, g_raiseA, g_kRaise1, g_kRaise2, g_setF, g_kSetF, g_make, g_meth, g_kMeth2, g_fld, g_kFldD, g_tryA, g_tryA_next, g_tryA_ret, g_cast0, g_cast1, g_cast2, g_cast3, g_cast4, g_cast5, g_cast6, g_cast7, g_cast8, g_cast9, g_cast10, g_cast11, g_cast12, g_cast13, lk, List.set_cons_zero, List.set_cons_succ, Bool.not_true, Bool.not_false, decide_true, decide_false, Int.reduceEq, Int.reduceLT, Int.reduceLE, Int.reduceSub, Int.reduceAdd, Int.reduceNeg, Int.reduceToNat, Int.reduceNe, Nat.reduceAdd, Nat.reduceLT, Nat.reduceLeDiff, eq_self, if_true, if_false, str_eq, String.reduceEq, isTy, String.reduceBEq, Bool.true_or, Bool.false_or, Bool.or_true, Bool.or_false, Bool.and_true, Bool.true_and, Bool.and_false, Bool.false_and, fIsi, fIsi2, kindOf, List.set_set, List.length_cons, List.length_nil, wipeE, beq_self_eq_true]; rfl
  | again b => simp (config := { implicitDefEqProofs := false }) only [Stt.d, ixT0, cut1, kLc, lcGo, tgF, sz, g_bind_ok, g_bind_err, g_toS_ok, g_toS_err, g_var, g_c, g_op, g_op1, g_1, g_B, g_unB, g_test, g_and, g_or, g_not, g_kand_t, g_kand_f, g_kor_t, g_kor_f, g_knot, g_andV, g_orV, g_kandV_t, g_kandV_f, g_korV_t, g_korV_f, g_notV, g_kNotV, g_kNV, g_orT, g_kOrT, g_kOrT_t, g_kOrT_f, g_tru_bl, g_chain, g_ch1, g_ch2, g_ch3_t, g_ch3_f, g_if, g_kif_t, g_kif_f, g_nil, g_cons, g_cons1, g_cons2, g_lst, g_tup, g_allD_nil, g_allD_cons, kTup0, kTup1, kTup2, kTup3, kTup4, kLst0, kLst1, kLst2, kLst3, g_newF, g_newT, g_call, g_sl, g_sl0, g_sl1, g_sl2, g_noP, g_part, g_kPart, g_frz, g_app, g_seq, g_seq_next, g_seq_ret, g_seq_err, g_seq_brk, g_seq_cnt, g_skip, g_ret, g_kRet, g_drop, g_kDrop, g_ifS, g_kIfS_t, g_kIfS_f, g_asg, g_kAsg, g_kAsg2, g_kAsg3, g_for, g_kFor, g_lc, g_seqI, g_itemsL, g_itemsT, g_rng1, g_revR1, g_enum, g_kEnum, g_wipe, g_wipe_next, g_wipe_ret, g_wipe_err, g_addI, g_subI, g_ltI, g_leI, g_gtI, g_geI, g_eqI, g_neI, g_eqS, g_neS, g_eqB, g_neB, g_neg, g_intI, g_intB, g_lenT, g_lenL, g_isN, g_yes, g_truL, g_truI, g_isNon_tup, g_isNon_non, g_slT, g_slL, g_slS, g_listL, g_listT, g_tupleL, g_raise, g_raiseA, g_kRaise1, g_kRaise2, g_setF, g_kSetF, g_make, g_meth, g_kMeth2, g_fld, g_kFldD, g_tryA, g_tryA_next, g_tryA_ret, g_cast0, g_cast1, g_cast2, g_cast3, g_cast4, g_cast5, g_cast6, g_cast7, g_cast8, g_cast9, g_cast10, g_cast11, g_cast12, g_cast13, lk, List.set_cons_zero, List.set_cons_succ, Bool.not_true, Bool.not_false, decide_true, decide_false, Int.reduceEq, Int.reduceLT, Int.reduceLE, Int.reduceSub, Int.reduceAdd, Int.reduceNeg, Int.reduceToNat, Int.reduceNe, Nat.reduceAdd, Nat.reduceLT, Nat.reduceLeDiff, eq_self, if_true, if_false, str_eq, String.reduceEq, isTy, String.reduceBEq, Bool.true_or, Bool.false_or, Bool.or_true, Bool.or_false, Bool.and_true, Bool.true_and, Bool.and_false, Bool.false_and, fIsi, fIsi2, kindOf, List.set_set, List.length_cons, List.length_nil, wipeE, beq_self_eq_true]; rfl
  | either a b => simp (config := { implicitDefEqProofs := false }) only [Stt.d, ixT0, cut1, kLc, lcGo, tgF, sz, g_bind_ok, g_bind_err, g_toS_ok, g_toS_err, g_var, g_c, g_op, g_op1, g_1, g_B, g_unB, g_test, g_and, g_or, g_not, g_kand_t, g_kand_f, g_kor_t, g_kor_f, g_knot, g_andV, g_orV, g_kandV_t, g_kandV_f, g_korV_t, g_korV_f, g_notV, g_kNotV, g_kNV, g_orT, g_kOrT, g_kOrT_t, g_kOrT_f, g_tru_bl, g_chain, g_ch1, g_ch2, g_ch3_t, g_ch3_f, g_if, g_kif_t, g_kif_f, g_nil, g_cons, g_cons1, g_cons2, g_lst, g_tup, g_allD_nil, g_allD_cons, kTup0, kTup1, kTup2, kTup3, kTup4, kLst0, kLst1, kLst2, kLst3, g_newF, g_newT, g_call, g_sl, g_sl0, g_sl1, g_sl2, g_noP, g_part, g_kPart, g_frz, g_app, g_seq, g_seq_next, g_seq_ret, g_seq_err, g_seq_brk, g_seq_cnt, g_skip, g_ret, g_kRet, g_drop, g_kDrop, g_ifS, g_kIfS_t, g_kIfS_f, g_asg, g_kAsg, g_kAsg2, g_kAsg3, g_for, g_kFor, g_lc, g_seqI, g_itemsL, g_itemsT, g_rng1, g_revR1, g_enum, g_kEnum, g_wipe, g_wipe_next, g_wipe_ret, g_wipe_err, g_addI, g_subI, g_ltI, g_leI, g_gtI, g_geI, g_eqI, g_neI, g_eqS, g_neS, g_eqB, g_neB, g_neg, g_intI, g_intB, g_lenT, g_lenL, g_isN, g_yes, g_truL, g_truI, g_isNon_tup, g_isNon_non, g_slT, g_slL, g_slS, g_listL, g_listT, g_tupleL, g_raise, g_raiseA, g_kRaise1, g_kRaise2, g_setF, g_kSetF, g_make, g_meth, g_kMeth2, g_fld, g_kFldD, g_tryA, g_tryA_next, g_tryA_ret, g_cast0, g_cast1, g_cast2, g_cast3, g_cast4, g_cast5, g_cast6, g_cast7, g_cast8, g_cast9, g_cast10, g_cast11, g_cast12, g_cast13, lk, List.set_cons_zero, List.set_cons_succ, Bool.not_true, Bool.not_false, decide_true, decide_false, Int.reduceEq, Int.reduceLT, Int.reduceLE, Int.reduceSub, Int.reduceAdd, Int.reduceNeg, Int.reduceToNat, Int.reduceNe, Nat.reduceAdd, Nat.reduceLT, Nat.reduceLeDiff, eq_self, if_true, if_false, str_eq, String.reduceEq, isTy, String.reduceBEq, Bool.true_or, Bool.false_or, Bool.or_true, Bool.or_false, Bool.and_true, Bool.true_and, Bool.and_false, Bool.false_and, fIsi, fIsi2, kindOf, List.set_set, List.length_cons, List.length_nil, wipeE, beq_self_eq_true]; rfl
  | call g s a b => simp (config := { implicitDefEqProofs := false }) only [Stt.d, ixT0, ixT3, g_bind_ok, g_bind_err, g_toS_ok, g_toS_err, g_var, g_c, g_op, g_op1, g_1, g_B, g_unB, g_test, g_and, g_or, g_not, g_kand_t, g_kand_f, g_kor_t, g_kor_f, g_knot, g_andV, g_orV, g_kandV_t, g_kandV_f, g_korV_t, g_korV_f, g_notV, g_kNotV, g_kNV, g_orT, g_kOrT, g_kOrT_t, g_kOrT_f, g_tru_bl, g_chain, g_ch1, g_ch2, g_ch3_t, g_ch3_f, g_if, g_kif_t, g_kif_f, g_nil, g_cons, g_cons1, g_cons2, g_lst, g_tup, g_allD_nil, g_allD_cons, kTup0, kTup1, kTup2, kTup3, kTup4, kLst0, kLst1, kLst2, kLst3, g_newF, g_newT, g_call, g_sl, g_sl0, g_sl1, g_sl2, g_noP, g_part, g_kPart, g_frz, g_app, g_seq, g_seq_next, g_seq_ret, g_seq_err, g_seq_brk, g_seq_cnt, g_skip, g_ret, g_kRet, g_drop, g_kDrop, g_ifS, g_kIfS_t, g_kIfS_f, g_asg, g_kAsg, g_kAsg2, g_kAsg3, g_for, g_kFor, g_lc, g_seqI, g_itemsL, g_itemsT, g_rng1, g_revR1, g_enum, g_kEnum, g_wipe, g_wipe_next, g_wipe_ret, g_wipe_err, g_addI, g_subI, g_ltI, g_leI, g_gtI, g_geI, g_eqI, g_neI, g_eqS, g_neS, g_eqB, g_neB, g_neg, g_intI, g_intB, g_lenT, g_lenL, g_isN, g_yes, g_truL, g_truI, g_isNon_tup, g_isNon_non, g_slT, g_slL, g_slS, g_listL, g_listT, g_tupleL, g_raise, g_raiseA, g_kRaise1, g_kRaise2, g_setF, g_kSetF, g_make, g_meth, g_kMeth2, g_fld, g_kFldD, g_tryA, g_tryA_next, g_tryA_ret, g_cast0, g_cast1, g_cast2, g_cast3, g_cast4, g_cast5, g_cast6, g_cast7, g_cast8, g_cast9, g_cast10, g_cast11, g_cast12, g_cast13, lk, List.set_cons_zero, List.set_cons_succ, Bool.not_true, Bool.not_false, decide_true, decide_false, Int.reduceEq, Int.reduceLT, Int.reduceLE, Int.reduceSub, Int.reduceAdd, Int.reduceNeg, Int.reduceToNat, Int.reduceNe, Nat.reduceAdd, Nat.reduceLT, Nat.reduceLeDiff, eq_self, if_true, if_false, str_eq, String.reduceEq, isTy, String.reduceBEq, Bool.true_or, Bool.false_or, Bool.or_true, Bool.or_false, Bool.and_true, Bool.true_and, Bool.and_false, Bool.false_and, fIsi, fIsi2, kindOf, List.set_set, List.length_cons, List.length_nil, wipeE, beq_self_eq_true]; rfl
  | bad => simp (config := { implicitDefEqProofs := false }) only [Stt.d, ixT0, cut1, kLc, lcGo, tgF, sz, g_bind_ok, g_bind_err, g_toS_ok, g_toS_err, g_var, g_c, g_op, g_op1, g_1, g_B, g_unB, g_test, g_and, g_or, g_not, g_kand_t, g_kand_f, g_kor_t, g_kor_f, g_knot, g_andV, g_orV, g_kandV_t, g_kandV_f, g_korV_t, g_korV_f, g_notV, g_kNotV, g_kNV, g_orT, g_kOrT, g_kOrT_t, g_kOrT_f, g_tru_bl, g_chain, g_ch1, g_ch2, g_ch3_t, g_ch3_f, g_if, g_kif_t, g_kif_f, g_nil, g_cons, g_cons1, g_cons2, g_lst, g_tup, g_allD_nil, g_allD_cons, kTup0, kTup1, kTup2, kTup3, kTup4, kLst0, kLst1, kLst2, kLst3, g_newF, g_newT, g_call, g_sl, g_sl0, g_sl1, g_sl2, g_noP, g_part, g_kPart, g_frz, g_app, g_seq, g_seq_next, g_seq_ret, g_seq_err, g_seq_brk, g_seq_cnt, g_skip, g_ret, g_kRet, g_drop, g_kDrop, g_ifS, g_kIfS_t, g_kIfS_f, g_asg, g_kAsg, g_kAsg2, g_kAsg3, g_for, g_kFor, g_lc, g_seqI, g_itemsL, g_itemsT, g_rng1, g_revR1, g_enum, g_kEnum, g_wipe, g_wipe_next, g_wipe_ret, g_wipe_err, g_addI, g_subI, g_ltI, g_leI, g_gtI, g_geI, g_eqI, g_neI, g_eqS, g_neS, g_eqB, g_neB, g_neg, g_intI, g_intB, g_lenT, g_lenL, g_isN, g_yes, g_truL, g_truI, g_isNon_tup, g_isNon_non, g_slT, g_slL, g_slS, g_listL, g_listT, g_tupleL, g_raise, g_raiseA, g_kRaise1, g_kRaise2, g_setF, g_kSetF, g_make, g_meth, g_kMeth2, g_fld, g_kFldD, g_tryA, g_tryA_next, g_tryA_ret, g_cast0, g_cast1, g_cast2, g_cast3, g_cast4, g_cast5, g_cast6, g_cast7, g_cast8, g_cast9, g_cast10, g_cast11, g_cast12, g_cast13, lk, List.set_cons_zero, List.set_cons_succ, Bool.not_true, Bool.not_false, decide_true, decide_false, Int.reduceEq, Int.reduceLT, Int.reduceLE, Int.reduceSub, Int.reduceAdd, Int.reduceNeg, Int.reduceToNat, Int.reduceNe, Nat.reduceAdd, Nat.reduceLT, Nat.reduceLeDiff, eq_self, if_true, if_false, str_eq, String.reduceEq, isTy, String.reduceBEq, Bool.true_or, Bool.false_or, Bool.or_true, Bool.or_false, Bool.and_true, Bool.true_and, Bool.and_false, Bool.false_and, fIsi, fIsi2, kindOf, List.set_set, List.length_cons, List.length_nil, wipeE, beq_self_eq_true]; rfl
theorem cut_3 {a b c d : D} : cutD [a, b, c, d] none (some 3) = [a, b, c] := rfl
theorem L_with {s : Stt} {S : Sto} : m_L_with [.dat s.d, .dat (.lst (bls s.blocks))] S = .ok (.dat s.d) S := by
  rw [show m_L_with [.dat s.d, .dat (.lst (bls s.blocks))] S = ofOut (b_L_with [some (.dat s.d), some (.dat (.lst (bls s.blocks)))] S) from rfl]
  unfold b_L_with
  cases s with
  | cmd c => cases c <;> (simp (config := { implicitDefEqProofs := false }) only [Stt.d, Cmd.d, Stt.blocks, bls, List.map_nil, ixT0, g_bind_ok, g_bind_err, g_toS_ok, g_toS_err, g_var, g_c, g_op, g_op1, g_1, g_B, g_unB, g_test, g_and, g_or, g_not, g_kand_t, g_kand_f, g_kor_t, g_kor_f, g_knot, g_andV, g_orV, g_kandV_t, g_kandV_f, g_korV_t, g_korV_f, g_notV, g_kNotV, g_kNV, g_orT, g_kOrT, g_kOrT_t, g_kOrT_f, g_tru_bl, g_chain, g_ch1, g_ch2, g_ch3_t, g_ch3_f, g_if, g_kif_t, g_kif_f, g_nil, g_cons, g_cons1, g_cons2, g_lst, g_tup, g_allD_nil, g_allD_cons, kTup0, kTup1, kTup2, kTup3, kTup4, kLst0, kLst1, kLst2, kLst3, g_newF, g_newT, g_call, g_sl, g_sl0, g_sl1, g_sl2, g_noP, g_part, g_kPart, g_frz, g_app, g_seq, g_seq_next, g_seq_ret, g_seq_err, g_seq_brk, g_seq_cnt, g_skip, g_ret, g_kRet, g_drop, g_kDrop, g_ifS, g_kIfS_t, g_kIfS_f, g_asg, g_kAsg, g_kAsg2, g_kAsg3, g_for, g_kFor, g_lc, g_seqI, g_itemsL, g_itemsT, g_rng1, g_revR1, g_enum, g_kEnum, g_wipe, g_wipe_next, g_wipe_ret, g_wipe_err, g_addI, g_subI, g_ltI, g_leI, g_gtI, g_geI, g_eqI, g_neI, g_eqS, g_neS, g_eqB, g_neB, g_neg, g_intI, g_intB, g_lenT, g_lenL, g_isN, g_yes, g_truL, g_truI, g_isNon_tup, g_isNon_non, g_slT, g_slL, g_slS, g_listL, g_listT, g_tupleL, g_raise, g_raiseA, g_kRaise1, g_kRaise2, g_setF, g_kSetF, g_make, g_meth, g_kMeth2, g_fld, g_kFldD, g_tryA, g_tryA_next, g_tryA_ret, g_cast0, g_cast1, g_cast2, g_cast3, g_cast4, g_cast5, g_cast6, g_cast7, g_cast8, g_cast9, g_cast10, g_cast11, g_cast12, g_cast13, lk, List.set_cons_zero, List.set_cons_succ, Bool.not_true, Bool.not_false, decide_true, decide_false, Int.reduceEq, Int.reduceLT, Int.reduceLE, Int.reduceSub, Int.reduceAdd, Int.reduceNeg, Int.reduceToNat, Int.reduceNe, Nat.reduceAdd, Nat.reduceLT, Nat.reduceLeDiff, eq_self, if_true, if_false, str_eq, String.reduceEq, isTy, String.reduceBEq, Bool.true_or, Bool.false_or, Bool.or_true, Bool.or_false, Bool.and_true, Bool.true_and, Bool.and_false, Bool.false_and, fIsi, fIsi2, kindOf, List.set_set, List.length_cons, List.length_nil, wipeE, beq_self_eq_true]; rfl)
  | fin w => simp (config := { implicitDefEqProofs := false }) only [Stt.d, Stt.blocks, bls, List.map_nil, ixT0, g_bind_ok, g_bind_err, g_toS_ok, g_toS_err, g_var, g_c, g_op, g_op1, g_1, g_B, g_unB, g_test, g_and, g_or, g_not, g_kand_t, g_kand_f, g_kor_t, g_kor_f, g_knot, g_andV, g_orV, g_kandV_t, g_kandV_f, g_korV_t, g_korV_f, g_notV, g_kNotV, g_kNV, g_orT, g_kOrT, g_kOrT_t, g_kOrT_f, g_tru_bl, g_chain, g_ch1, g_ch2, g_ch3_t, g_ch3_f, g_if, g_kif_t, g_kif_f, g_nil, g_cons, g_cons1, g_cons2, g_lst, g_tup, g_allD_nil, g_allD_cons, kTup0, kTup1, kTup2, kTup3, kTup4, kLst0, kLst1, kLst2, kLst3, g_newF, g_newT, g_call, g_sl, g_sl0, g_sl1, g_sl2, g_noP, g_part, g_kPart, g_frz, g_app, g_seq, g_seq_next, g_seq_ret, g_seq_err, g_seq_brk, g_seq_cnt, g_skip, g_ret, g_kRet, g_drop, g_kDrop, g_ifS, g_kIfS_t, g_kIfS_f, g_asg, g_kAsg, g_kAsg2, g_kAsg3, g_for, g_kFor, g_lc, g_seqI, g_itemsL, g_itemsT, g_rng1, g_revR1, g_enum, g_kEnum, g_wipe, g_wipe_next, g_wipe_ret, g_wipe_err, g_addI, g_subI, g_ltI, g_leI, g_gtI, g_geI, g_eqI, g_neI, g_eqS, g_neS, g_eqB, g_neB, g_neg, g_intI, g_intB, g_lenT, g_lenL, g_isN, g_yes, g_truL, g_truI, g_isNon_tup, g_isNon_non, g_slT, g_slL, g_slS, g_listL, g_listT, g_tupleL, g_raise, g_raiseA, g_kRaise1, g_kRaise2, g_setF, g_kSetF, g_make, g_meth, g_kMeth2, g_fld, g_kFldD, g_tryA, g_tryA_next, g_tryA_ret, g_cast0, g_cast1, g_cast2, g_cast3, g_cast4, g_cast5, g_cast6, g_cast7, g_cast8, g_cast9, g_cast10, g_cast11, g_cast12, g_cast13, lk, List.set_cons_zero, List.set_cons_succ, Bool.not_true, Bool.not_false, decide_true, decide_false, Int.reduceEq, Int.reduceLT, Int.reduceLE, Int.reduceSub, Int.reduceAdd, Int.reduceNeg, Int.reduceToNat, Int.reduceNe, Nat.reduceAdd, Nat.reduceLT, Nat.reduceLeDiff, eq_self, if_true, if_false, str_eq, String.reduceEq, isTy, String.reduceBEq, Bool.true_or, Bool.false_or, Bool.or_true, Bool.or_false, Bool.and_true, Bool.true_and, Bool.and_false, Bool.false_and, fIsi, fIsi2, kindOf, List.set_set, List.length_cons, List.length_nil, wipeE, beq_self_eq_true]; rfl
  | keep b => simp (config := { implicitDefEqProofs := false }) only [Stt.d, Stt.blocks, bls, List.map_cons, List.map_nil, ixT0, g_bind_ok, g_bind_err, g_toS_ok, g_toS_err, g_var, g_c, g_op, g_op1, g_1, g_B, g_unB, g_test, g_and, g_or, g_not, g_kand_t, g_kand_f, g_kor_t, g_kor_f, g_knot, g_andV, g_orV, g_kandV_t, g_kandV_f, g_korV_t, g_korV_f, g_notV, g_kNotV, g_kNV, g_orT, g_kOrT, g_kOrT_t, g_kOrT_f, g_tru_bl, g_chain, g_ch1, g_ch2, g_ch3_t, g_ch3_f, g_if, g_kif_t, g_kif_f, g_nil, g_cons, g_cons1, g_cons2, g_lst, g_tup, g_allD_nil, g_allD_cons, kTup0, kTup1, kTup2, kTup3, kTup4, kLst0, kLst1, kLst2, kLst3, g_newF, g_newT, g_call, g_sl, g_sl0, g_sl1, g_sl2, g_noP, g_part, g_kPart, g_frz, g_app, g_seq, g_seq_next, g_seq_ret, g_seq_err, g_seq_brk, g_seq_cnt, g_skip, g_ret, g_kRet, g_drop, g_kDrop, g_ifS, g_kIfS_t, g_kIfS_f, g_asg, g_kAsg, g_kAsg2, g_kAsg3, g_for, g_kFor, g_lc, g_seqI, g_itemsL, g_itemsT, g_rng1, g_revR1, g_enum, g_kEnum, g_wipe, g_wipe_next, g_wipe_ret, g_wipe_err, g_addI, g_subI, g_ltI, g_leI, g_gtI, g_geI, g_eqI, g_neI, g_eqS, g_neS, g_eqB, g_neB, g_neg, g_intI, g_intB, g_lenT, g_lenL, g_isN, g_yes, g_truL, g_truI, g_isNon_tup, g_isNon_non, g_slT, g_slL, g_slS, g_listL, g_listT, g_tupleL, g_raise, g_raiseA, g_kRaise1, g_kRaise2, g_setF, g_kSetF, g_make, g_meth, g_kMeth2, g_fld, g_kFldD, g_tryA, g_tryA_next, g_tryA_ret, g_cast0, g_cast1, g_cast2, g_cast3, g_cast4, g_cast5, g_cast6, g_cast7, g_cast8, g_cast9, g_cast10, g_cast11, g_cast12, g_cast13, lk, List.set_cons_zero, List.set_cons_succ, Bool.not_true, Bool.not_false, decide_true, decide_false, Int.reduceEq, Int.reduceLT, Int.reduceLE, Int.reduceSub, Int.reduceAdd, Int.reduceNeg, Int.reduceToNat, Int.reduceNe, Nat.reduceAdd, Nat.reduceLT, Nat.reduceLeDiff, eq_self, if_true, if_false, str_eq, String.reduceEq, isTy, String.reduceBEq, Bool.true_or, Bool.false_or, Bool.or_true, Bool.or_false, Bool.and_true, Bool.true_and, Bool.and_false, Bool.false_and, fIsi, fIsi2, kindOf, List.set_set, List.length_cons, List.length_nil, wipeE, beq_self_eq_true]; rfl
  | again b => simp (config := { implicitDefEqProofs := false }) only [Stt.d, Stt.blocks, bls, List.map_cons, List.map_nil, ixT0, g_bind_ok, g_bind_err, g_toS_ok, g_toS_err, g_var, g_c, g_op, g_op1, g_1, g_B, g_unB, g_test, g_and, g_or, g_not, g_kand_t, g_kand_f, g_kor_t, g_kor_f, g_knot, g_andV, g_orV, g_kandV_t, g_kandV_f, g_korV_t, g_korV_f, g_notV, g_kNotV, g_kNV, g_orT, g_kOrT, g_kOrT_t, g_kOrT_f, g_tru_bl, g_chain, g_ch1, g_ch2, g_ch3_t, g_ch3_f, g_if, g_kif_t, g_kif_f, g_nil, g_cons, g_cons1, g_cons2, g_lst, g_tup, g_allD_nil, g_allD_cons, kTup0, kTup1, kTup2, kTup3, kTup4, kLst0, kLst1, kLst2, kLst3, g_newF, g_newT, g_call, g_sl, g_sl0, g_sl1, g_sl2, g_noP, g_part, g_kPart, g_frz, g_app, g_seq, g_seq_next, g_seq_ret, g_seq_err, g_seq_brk, g_seq_cnt, g_skip, g_ret, g_kRet, g_drop, g_kDrop, g_ifS, g_kIfS_t, g_kIfS_f, g_asg, g_kAsg, g_kAsg2, g_kAsg3, g_for, g_kFor, g_lc, g_seqI, g_itemsL, g_itemsT, g_rng1, g_revR1, g_enum, g_kEnum, g_wipe, g_wipe_next, g_wipe_ret, g_wipe_err, g_addI, g_subI, g_ltI, g_leI, g_gtI, g_geI, g_eqI, g_neI, g_eqS, g_neS, g_eqB, g_neB, g_neg, g_intI, g_intB, g_lenT, g_lenL, g_isN, g_yes, g_truL, g_truI, g_isNon_tup, g_isNon_non, g_slT, g_slL, g_slS, g_listL, g_listT, g_tupleL, g_raise, g_raiseA, g_kRaise1, g_kRaise2, g_setF, g_kSetF, g_make, g_meth, g_kMeth2, g_fld, g_kFldD, g_tryA, g_tryA_next, g_tryA_ret, g_cast0, g_cast1, g_cast2, g_cast3, g_cast4, g_cast5, g_cast6, g_cast7, g_cast8, g_cast9, g_cast10, g_cast11, g_cast12, g_cast13, lk, List.set_cons_zero, List.set_cons_succ, Bool.not_true, Bool.not_false, decide_true, decide_false, Int.reduceEq, Int.reduceLT, Int.reduceLE, Int.reduceSub, Int.reduceAdd, Int.reduceNeg, Int.reduceToNat, Int.reduceNe, Nat.reduceAdd, Nat.reduceLT, Nat.reduceLeDiff, eq_self, if_true, if_false, str_eq, String.reduceEq, isTy, String.reduceBEq, Bool.true_or, Bool.false_or, Bool.or_true, Bool.or_false, Bool.and_true, Bool.true_and, Bool.and_false, Bool.false_and, fIsi, fIsi2, kindOf, List.set_set, List.length_cons, List.length_nil, wipeE, beq_self_eq_true]; rfl
  | either a b => simp (config := { implicitDefEqProofs := false }) only [Stt.d, Stt.blocks, bls, List.map_cons, List.map_nil, ixT0, g_bind_ok, g_bind_err, g_toS_ok, g_toS_err, g_var, g_c, g_op, g_op1, g_1, g_B, g_unB, g_test, g_and, g_or, g_not, g_kand_t, g_kand_f, g_kor_t, g_kor_f, g_knot, g_andV, g_orV, g_kandV_t, g_kandV_f, g_korV_t, g_korV_f, g_notV, g_kNotV, g_kNV, g_orT, g_kOrT, g_kOrT_t, g_kOrT_f, g_tru_bl, g_chain, g_ch1, g_ch2, g_ch3_t, g_ch3_f, g_if, g_kif_t, g_kif_f, g_nil, g_cons, g_cons1, g_cons2, g_lst, g_tup, g_allD_nil, g_allD_cons, kTup0, kTup1, kTup2, kTup3, kTup4, kLst0, kLst1, kLst2, kLst3, g_newF, g_newT, g_call, g_sl, g_sl0, g_sl1, g_sl2, g_noP, g_part, g_kPart, g_frz, g_app, g_seq, g_seq_next, g_seq_ret, g_seq_err, g_seq_brk, g_seq_cnt, g_skip, g_ret, g_kRet, g_drop, g_kDrop, g_ifS, g_kIfS_t, g_kIfS_f, g_asg, g_kAsg, g_kAsg2, g_kAsg3, g_for, g_kFor, g_lc, g_seqI, g_itemsL, g_itemsT, g_rng1, g_revR1, g_enum, g_kEnum, g_wipe, g_wipe_next, g_wipe_ret, g_wipe_err, g_addI, g_subI, g_ltI, g_leI, g_gtI, g_geI, g_eqI, g_neI, g_eqS, g_neS, g_eqB, g_neB, g_neg, g_intI, g_intB, g_lenT, g_lenL, g_isN, g_yes, g_truL, g_truI, g_isNon_tup, g_isNon_non, g_slT, g_slL, g_slS, g_listL, g_listT, g_tupleL, g_raise, g_raiseA, g_kRaise1, g_kRaise2, g_setF, g_kSetF, g_make, g_meth, g_kMeth2, g_fld, g_kFldD, g_tryA, g_tryA_next, g_tryA_ret, g_cast0, g_cast1, g_cast2, g_cast3, g_cast4, g_cast5, g_cast6, g_cast7, g_cast8, g_cast9, g_cast10, g_cast11, g_cast12, g_cast13, lk, List.set_cons_zero, List.set_cons_succ, Bool.not_true, Bool.not_false, decide_true, decide_false, Int.reduceEq, Int.reduceLT, Int.reduceLE, Int.reduceSub, Int.reduceAdd, Int.reduceNeg, Int.reduceToNat, Int.reduceNe, Nat.reduceAdd, Nat.reduceLT, Nat.reduceLeDiff, eq_self, if_true, if_false, str_eq, String.reduceEq, isTy, String.reduceBEq, Bool.true_or, Bool.false_or, Bool.or_true, Bool.or_false, Bool.and_true, Bool.true_and, Bool.and_false, Bool.false_and, fIsi, fIsi2, kindOf, List.set_set, List.length_cons, List.length_nil, wipeE, beq_self_eq_true]; rfl
  | call g s a b => simp (config := { implicitDefEqProofs := false }) only [Stt.d, Stt.blocks, bls, List.map_cons, List.map_nil, ixT0, cut_3, g_bind_ok, g_bind_err, g_toS_ok, g_toS_err, g_var, g_c, g_op, g_op1, g_1, g_B, g_unB, g_test, g_and, g_or, g_not, g_kand_t, g_kand_f, g_kor_t, g_kor_f, g_knot, g_andV, g_orV, g_kandV_t, g_kandV_f, g_korV_t, g_korV_f, g_notV, g_kNotV, g_kNV, g_orT, g_kOrT, g_kOrT_t, g_kOrT_f, g_tru_bl, g_chain, g_ch1, g_ch2, g_ch3_t, g_ch3_f, g_if, g_kif_t, g_kif_f, g_nil, g_cons, g_cons1, g_cons2, g_lst, g_tup, g_allD_nil, g_allD_cons, kTup0, kTup1, kTup2, kTup3, kTup4, kLst0, kLst1, kLst2, kLst3, g_newF, g_newT, g_call, g_sl, g_sl0, g_sl1, g_sl2, g_noP, g_part, g_kPart, g_frz, g_app, g_seq, g_seq_next, g_seq_ret, g_seq_err, g_seq_brk, g_seq_cnt, g_skip, g_ret, g_kRet, g_drop, g_kDrop, g_ifS, g_kIfS_t, g_kIfS_f, g_asg, g_kAsg, g_kAsg2, g_kAsg3, g_for, g_kFor, g_lc, g_seqI, g_itemsL, g_itemsT, g_rng1, g_revR1, g_enum, g_kEnum, g_wipe, g_wipe_next, g_wipe_ret, g_wipe_err, g_addI, g_subI, g_ltI, g_leI, g_gtI, g_geI, g_eqI, g_neI, g_eqS, g_neS, g_eqB, g_neB, g_neg, g_intI, g_intB, g_lenT, g_lenL, g_isN, g_yes, g_truL, g_truI, g_isNon_tup, g_isNon_non, g_slT, g_slL, g_slS, g_listL, g_listT, g_tupleL, g_raise, g_raiseA, g_kRaise1, g_kRaise2, g_setF, g_kSetF, g_make, g_meth, g_kMeth2, g_fld, g_kFldD, g_tryA, g_tryA_next, g_tryA_ret, g_cast0, g_cast1, g_cast2, g_cast3, g_cast4, g_cast5, g_cast6, g_cast7, g_cast8, g_cast9, g_cast10, g_cast11, g_cast12, g_cast13, lk, List.set_cons_zero, List.set_cons_succ, Bool.not_true, Bool.not_false, decide_true, decide_false, Int.reduceEq, Int.reduceLT, Int.reduceLE, Int.reduceSub, Int.reduceAdd, Int.reduceNeg, Int.reduceToNat, Int.reduceNe, Nat.reduceAdd, Nat.reduceLT, Nat.reduceLeDiff, eq_self, if_true, if_false, str_eq, String.reduceEq, isTy, String.reduceBEq, Bool.true_or, Bool.false_or, Bool.or_true, Bool.or_false, Bool.and_true, Bool.true_and, Bool.and_false, Bool.false_and, fIsi, fIsi2, kindOf, List.set_set, List.length_cons, List.length_nil, wipeE, beq_self_eq_true]; rfl
  | bad => simp (config := { implicitDefEqProofs := false }) only [Stt.d, Stt.blocks, bls, List.map_nil, ixT0, g_bind_ok, g_bind_err, g_toS_ok, g_toS_err, g_var, g_c, g_op, g_op1, g_1, g_B, g_unB, g_test, g_and, g_or, g_not, g_kand_t, g_kand_f, g_kor_t, g_kor_f, g_knot, g_andV, g_orV, g_kandV_t, g_kandV_f, g_korV_t, g_korV_f, g_notV, g_kNotV, g_kNV, g_orT, g_kOrT, g_kOrT_t, g_kOrT_f, g_tru_bl, g_chain, g_ch1, g_ch2, g_ch3_t, g_ch3_f, g_if, g_kif_t, g_kif_f, g_nil, g_cons, g_cons1, g_cons2, g_lst, g_tup, g_allD_nil, g_allD_cons, kTup0, kTup1, kTup2, kTup3, kTup4, kLst0, kLst1, kLst2, kLst3, g_newF, g_newT, g_call, g_sl, g_sl0, g_sl1, g_sl2, g_noP, g_part, g_kPart, g_frz, g_app, g_seq, g_seq_next, g_seq_ret, g_seq_err, g_seq_brk, g_seq_cnt, g_skip, g_ret, g_kRet, g_drop, g_kDrop, g_ifS, g_kIfS_t, g_kIfS_f, g_asg, g_kAsg, g_kAsg2, g_kAsg3, g_for, g_kFor, g_lc, g_seqI, g_itemsL, g_itemsT, g_rng1, g_revR1, g_enum, g_kEnum, g_wipe, g_wipe_next, g_wipe_ret, g_wipe_err, g_addI, g_subI, g_ltI, g_leI, g_gtI, g_geI, g_eqI, g_neI, g_eqS, g_neS, g_eqB, g_neB, g_neg, g_intI, g_intB, g_lenT, g_lenL, g_isN, g_yes, g_truL, g_truI, g_isNon_tup, g_isNon_non, g_slT, g_slL, g_slS, g_listL, g_listT, g_tupleL, g_raise, g_raiseA, g_kRaise1, g_kRaise2, g_setF, g_kSetF, g_make, g_meth, g_kMeth2, g_fld, g_kFldD, g_tryA, g_tryA_next, g_tryA_ret, g_cast0, g_cast1, g_cast2, g_cast3, g_cast4, g_cast5, g_cast6, g_cast7, g_cast8, g_cast9, g_cast10, g_cast11, g_cast12, g_cast13, lk, List.set_cons_zero, List.set_cons_succ, Bool.not_true, Bool.not_false, decide_true, decide_false, Int.reduceEq, Int.reduceLT, Int.reduceLE, Int.reduceSub, Int.reduceAdd, Int.reduceNeg, Int.reduceToNat, Int.reduceNe, Nat.reduceAdd, Nat.reduceLT, Nat.reduceLeDiff, eq_self, if_true, if_false, str_eq, String.reduceEq, isTy, String.reduceBEq, Bool.true_or, Bool.false_or, Bool.or_true, Bool.or_false, Bool.and_true, Bool.true_and, Bool.and_false, Bool.false_and, fIsi, fIsi2, kindOf, List.set_set, List.length_cons, List.length_nil, wipeE, beq_self_eq_true]; rfl
theorem L_copy {many : Int} (n : Nat) : ∀ {S : Sto} {l : List Stt} {k : Nat}, OkL many l k → k + 1 ≤ n → m_L_copy n [.dat (.lst (dsOf l))] S = .ok (.dat (.lst (dsOf l))) S := by
  induction n with
  | zero => intro S l k h hn; omega
  | succ n ih =>
    intro S l k h hn
    rw [show m_L_copy (n + 1) [.dat (.lst (dsOf l))] S = ofOut (b_L_copy (m_L_copy n) [some (.dat (.lst (dsOf l))), none, none] S) from rfl]
    unfold b_L_copy
    simp (config := { implicitDefEqProofs := false }) only [dsOf_map, g_bind_ok, g_bind_err, g_toS_ok, g_toS_err, g_var, g_c, g_op, g_op1, g_1, g_B, g_unB, g_test, g_and, g_or, g_not, g_kand_t, g_kand_f, g_kor_t, g_kor_f, g_knot, g_andV, g_orV, g_kandV_t, g_kandV_f, g_korV_t, g_korV_f, g_notV, g_kNotV, g_kNV, g_orT, g_kOrT, g_kOrT_t, g_kOrT_f, g_tru_bl, g_chain, g_ch1, g_ch2, g_ch3_t, g_ch3_f, g_if, g_kif_t, g_kif_f, g_nil, g_cons, g_cons1, g_cons2, g_lst, g_tup, g_allD_nil, g_allD_cons, kTup0, kTup1, kTup2, kTup3, kTup4, kLst0, kLst1, kLst2, kLst3, g_newF, g_newT, g_call, g_sl, g_sl0, g_sl1, g_sl2, g_noP, g_part, g_kPart, g_frz, g_app, g_seq, g_seq_next, g_seq_ret, g_seq_err, g_seq_brk, g_seq_cnt, g_skip, g_ret, g_kRet, g_drop, g_kDrop, g_ifS, g_kIfS_t, g_kIfS_f, g_asg, g_kAsg, g_kAsg2, g_kAsg3, g_for, g_kFor, g_lc, g_seqI, g_itemsL, g_itemsT, g_rng1, g_revR1, g_enum, g_kEnum, g_wipe, g_wipe_next, g_wipe_ret, g_wipe_err, g_addI, g_subI, g_ltI, g_leI, g_gtI, g_geI, g_eqI, g_neI, g_eqS, g_neS, g_eqB, g_neB, g_neg, g_intI, g_intB, g_lenT, g_lenL, g_isN, g_yes, g_truL, g_truI, g_isNon_tup, g_isNon_non, g_slT, g_slL, g_slS, g_listL, g_listT, g_tupleL, g_raise, g_raiseA, g_kRaise1, g_kRaise2, g_setF, g_kSetF, g_make, g_meth, g_kMeth2, g_fld, g_kFldD, g_tryA, g_tryA_next, g_tryA_ret, g_cast0, g_cast1, g_cast2, g_cast3, g_cast4, g_cast5, g_cast6, g_cast7, g_cast8, g_cast9, g_cast10, g_cast11, g_cast12, g_cast13, lk, List.set_cons_zero, List.set_cons_succ, Bool.not_true, Bool.not_false, decide_true, decide_false, Int.reduceEq, Int.reduceLT, Int.reduceLE, Int.reduceSub, Int.reduceAdd, Int.reduceNeg, Int.reduceToNat, Int.reduceNe, Nat.reduceAdd, Nat.reduceLT, Nat.reduceLeDiff, eq_self, if_true, if_false, str_eq, String.reduceEq, isTy, String.reduceBEq, Bool.true_or, Bool.false_or, Bool.or_true, Bool.or_false, Bool.and_true, Bool.true_and, Bool.and_false, Bool.false_and, fIsi, fIsi2, kindOf, List.set_set, List.length_cons, List.length_nil, wipeE, beq_self_eq_true]
    rw [kLc_map (g := Stt.d) (sz (by have := h.len; omega)) fun s hs => ⟨_, rfl, ?_⟩]
    · rfl
    · unfold e_L_copy_1
      simp (config := { implicitDefEqProofs := false }) only [L_blocks, g_bind_ok, g_bind_err, g_toS_ok, g_toS_err, g_var, g_c, g_op, g_op1, g_1, g_B, g_unB, g_test, g_and, g_or, g_not, g_kand_t, g_kand_f, g_kor_t, g_kor_f, g_knot, g_andV, g_orV, g_kandV_t, g_kandV_f, g_korV_t, g_korV_f, g_notV, g_kNotV, g_kNV, g_orT, g_kOrT, g_kOrT_t, g_kOrT_f, g_tru_bl, g_chain, g_ch1, g_ch2, g_ch3_t, g_ch3_f, g_if, g_kif_t, g_kif_f, g_nil, g_cons, g_cons1, g_cons2, g_lst, g_tup, g_allD_nil, g_allD_cons, kTup0, kTup1, kTup2, kTup3, kTup4, kLst0, kLst1, kLst2, kLst3, g_newF, g_newT, g_call, g_sl, g_sl0, g_sl1, g_sl2, g_noP, g_part, g_kPart, g_frz, g_app, g_seq, g_seq_next, g_seq_ret, g_seq_err, g_seq_brk, g_seq_cnt, g_skip, g_ret, g_kRet, g_drop, g_kDrop, g_ifS, g_kIfS_t, g_kIfS_f, g_asg, g_kAsg, g_kAsg2, g_kAsg3, g_for, g_kFor, g_lc, g_seqI, g_itemsL, g_itemsT, g_rng1, g_revR1, g_enum, g_kEnum, g_wipe, g_wipe_next, g_wipe_ret, g_wipe_err, g_addI, g_subI, g_ltI, g_leI, g_gtI, g_geI, g_eqI, g_neI, g_eqS, g_neS, g_eqB, g_neB, g_neg, g_intI, g_intB, g_lenT, g_lenL, g_isN, g_yes, g_truL, g_truI, g_isNon_tup, g_isNon_non, g_slT, g_slL, g_slS, g_listL, g_listT, g_tupleL, g_raise, g_raiseA, g_kRaise1, g_kRaise2, g_setF, g_kSetF, g_make, g_meth, g_kMeth2, g_fld, g_kFldD, g_tryA, g_tryA_next, g_tryA_ret, g_cast0, g_cast1, g_cast2, g_cast3, g_cast4, g_cast5, g_cast6, g_cast7, g_cast8, g_cast9, g_cast10, g_cast11, g_cast12, g_cast13, lk, List.set_cons_zero, List.set_cons_succ, Bool.not_true, Bool.not_false, decide_true, decide_false, Int.reduceEq, Int.reduceLT, Int.reduceLE, Int.reduceSub, Int.reduceAdd, Int.reduceNeg, Int.reduceToNat, Int.reduceNe, Nat.reduceAdd, Nat.reduceLT, Nat.reduceLeDiff, eq_self, if_true, if_false, str_eq, String.reduceEq, isTy, String.reduceBEq, Bool.true_or, Bool.false_or, Bool.or_true, Bool.or_false, Bool.and_true, Bool.true_and, Bool.and_false, Bool.false_and, fIsi, fIsi2, kindOf, List.set_set, List.length_cons, List.length_nil, wipeE, beq_self_eq_true]
      rw [show bls s.blocks = s.blocks.map (fun b => .lst (dsOf b)) from rfl, kLc_map (g := fun b => .lst (dsOf b)) (sz (by have := blocks_few (s := s); omega)) fun b hb => ⟨_, rfl, ?_⟩]
      · simp (config := { implicitDefEqProofs := false }) only [show s.blocks.map (fun b => D.lst (dsOf b)) = bls s.blocks from rfl, L_with, g_bind_ok, g_bind_err, g_toS_ok, g_toS_err, g_var, g_c, g_op, g_op1, g_1, g_B, g_unB, g_test, g_and, g_or, g_not, g_kand_t, g_kand_f, g_kor_t, g_kor_f, g_knot, g_andV, g_orV, g_kandV_t, g_kandV_f, g_korV_t, g_korV_f, g_notV, g_kNotV, g_kNV, g_orT, g_kOrT, g_kOrT_t, g_kOrT_f, g_tru_bl, g_chain, g_ch1, g_ch2, g_ch3_t, g_ch3_f, g_if, g_kif_t, g_kif_f, g_nil, g_cons, g_cons1, g_cons2, g_lst, g_tup, g_allD_nil, g_allD_cons, kTup0, kTup1, kTup2, kTup3, kTup4, kLst0, kLst1, kLst2, kLst3, g_newF, g_newT, g_call, g_sl, g_sl0, g_sl1, g_sl2, g_noP, g_part, g_kPart, g_frz, g_app, g_seq, g_seq_next, g_seq_ret, g_seq_err, g_seq_brk, g_seq_cnt, g_skip, g_ret, g_kRet, g_drop, g_kDrop, g_ifS, g_kIfS_t, g_kIfS_f, g_asg, g_kAsg, g_kAsg2, g_kAsg3, g_for, g_kFor, g_lc, g_seqI, g_itemsL, g_itemsT, g_rng1, g_revR1, g_enum, g_kEnum, g_wipe, g_wipe_next, g_wipe_ret, g_wipe_err, g_addI, g_subI, g_ltI, g_leI, g_gtI, g_geI, g_eqI, g_neI, g_eqS, g_neS, g_eqB, g_neB, g_neg, g_intI, g_intB, g_lenT, g_lenL, g_isN, g_yes, g_truL, g_truI, g_isNon_tup, g_isNon_non, g_slT, g_slL, g_slS, g_listL, g_listT, g_tupleL, g_raise, g_raiseA, g_kRaise1, g_kRaise2, g_setF, g_kSetF, g_make, g_meth, g_kMeth2, g_fld, g_kFldD, g_tryA, g_tryA_next, g_tryA_ret, g_cast0, g_cast1, g_cast2, g_cast3, g_cast4, g_cast5, g_cast6, g_cast7, g_cast8, g_cast9, g_cast10, g_cast11, g_cast12, g_cast13, lk, List.set_cons_zero, List.set_cons_succ, Bool.not_true, Bool.not_false, decide_true, decide_false, Int.reduceEq, Int.reduceLT, Int.reduceLE, Int.reduceSub, Int.reduceAdd, Int.reduceNeg, Int.reduceToNat, Int.reduceNe, Nat.reduceAdd, Nat.reduceLT, Nat.reduceLeDiff, eq_self, if_true, if_false, str_eq, String.reduceEq, isTy, String.reduceBEq, Bool.true_or, Bool.false_or, Bool.or_true, Bool.or_false, Bool.and_true, Bool.true_and, Bool.and_false, Bool.false_and, fIsi, fIsi2, kindOf, List.set_set, List.length_cons, List.length_nil, wipeE, beq_self_eq_true]
      · obtain ⟨h1, h2⟩ := blocks_ok (h.mem s hs) b hb
        simp (config := { implicitDefEqProofs := false }) only [ih h2 (by omega), g_bind_ok, g_bind_err, g_toS_ok, g_toS_err, g_var, g_c, g_op, g_op1, g_1, g_B, g_unB, g_test, g_and, g_or, g_not, g_kand_t, g_kand_f, g_kor_t, g_kor_f, g_knot, g_andV, g_orV, g_kandV_t, g_kandV_f, g_korV_t, g_korV_f, g_notV, g_kNotV, g_kNV, g_orT, g_kOrT, g_kOrT_t, g_kOrT_f, g_tru_bl, g_chain, g_ch1, g_ch2, g_ch3_t, g_ch3_f, g_if, g_kif_t, g_kif_f, g_nil, g_cons, g_cons1, g_cons2, g_lst, g_tup, g_allD_nil, g_allD_cons, kTup0, kTup1, kTup2, kTup3, kTup4, kLst0, kLst1, kLst2, kLst3, g_newF, g_newT, g_call, g_sl, g_sl0, g_sl1, g_sl2, g_noP, g_part, g_kPart, g_frz, g_app, g_seq, g_seq_next, g_seq_ret, g_seq_err, g_seq_brk, g_seq_cnt, g_skip, g_ret, g_kRet, g_drop, g_kDrop, g_ifS, g_kIfS_t, g_kIfS_f, g_asg, g_kAsg, g_kAsg2, g_kAsg3, g_for, g_kFor, g_lc, g_seqI, g_itemsL, g_itemsT, g_rng1, g_revR1, g_enum, g_kEnum, g_wipe, g_wipe_next, g_wipe_ret, g_wipe_err, g_addI, g_subI, g_ltI, g_leI, g_gtI, g_geI, g_eqI, g_neI, g_eqS, g_neS, g_eqB, g_neB, g_neg, g_intI, g_intB, g_lenT, g_lenL, g_isN, g_yes, g_truL, g_truI, g_isNon_tup, g_isNon_non, g_slT, g_slL, g_slS, g_listL, g_listT, g_tupleL, g_raise, g_raiseA, g_kRaise1, g_kRaise2, g_setF, g_kSetF, g_make, g_meth, g_kMeth2, g_fld, g_kFldD, g_tryA, g_tryA_next, g_tryA_ret, g_cast0, g_cast1, g_cast2, g_cast3, g_cast4, g_cast5, g_cast6, g_cast7, g_cast8, g_cast9, g_cast10, g_cast11, g_cast12, g_cast13, lk, List.set_cons_zero, List.set_cons_succ, Bool.not_true, Bool.not_false, decide_true, decide_false, Int.reduceEq, Int.reduceLT, Int.reduceLE, Int.reduceSub, Int.reduceAdd, Int.reduceNeg, Int.reduceToNat, Int.reduceNe, Nat.reduceAdd, Nat.reduceLT, Nat.reduceLeDiff, eq_self, if_true, if_false, str_eq, String.reduceEq, isTy, String.reduceBEq, Bool.true_or, Bool.false_or, Bool.or_true, Bool.or_false, Bool.and_true, Bool.true_and, Bool.and_false, Bool.false_and, fIsi, fIsi2, kindOf, List.set_set, List.length_cons, List.length_nil, wipeE, beq_self_eq_true]
theorem L_copies {many : Int} {bs : List (List Stt)} {S : Sto} {k : Nat} (hb : ∀ b ∈ bs, OkL many b k) (hk : k ≤ 9) (hl : bs.length ≤ 10) : m_L_copies [.dat (.lst (bls bs))] S = .ok (.dat (.lst (bls bs))) S := by
  rw [show m_L_copies [.dat (.lst (bls bs))] S = ofOut (b_L_copies [some (.dat (.lst (bls bs))), none] S) from rfl]
  unfold b_L_copies
  simp (config := { implicitDefEqProofs := false }) only [g_bind_ok, g_bind_err, g_toS_ok, g_toS_err, g_var, g_c, g_op, g_op1, g_1, g_B, g_unB, g_test, g_and, g_or, g_not, g_kand_t, g_kand_f, g_kor_t, g_kor_f, g_knot, g_andV, g_orV, g_kandV_t, g_kandV_f, g_korV_t, g_korV_f, g_notV, g_kNotV, g_kNV, g_orT, g_kOrT, g_kOrT_t, g_kOrT_f, g_tru_bl, g_chain, g_ch1, g_ch2, g_ch3_t, g_ch3_f, g_if, g_kif_t, g_kif_f, g_nil, g_cons, g_cons1, g_cons2, g_lst, g_tup, g_allD_nil, g_allD_cons, kTup0, kTup1, kTup2, kTup3, kTup4, kLst0, kLst1, kLst2, kLst3, g_newF, g_newT, g_call, g_sl, g_sl0, g_sl1, g_sl2, g_noP, g_part, g_kPart, g_frz, g_app, g_seq, g_seq_next, g_seq_ret, g_seq_err, g_seq_brk, g_seq_cnt, g_skip, g_ret, g_kRet, g_drop, g_kDrop, g_ifS, g_kIfS_t, g_kIfS_f, g_asg, g_kAsg, g_kAsg2, g_kAsg3, g_for, g_kFor, g_lc, g_seqI, g_itemsL, g_itemsT, g_rng1, g_revR1, g_enum, g_kEnum, g_wipe, g_wipe_next, g_wipe_ret, g_wipe_err, g_addI, g_subI, g_ltI, g_leI, g_gtI, g_geI, g_eqI, g_neI, g_eqS, g_neS, g_eqB, g_neB, g_neg, g_intI, g_intB, g_lenT, g_lenL, g_isN, g_yes, g_truL, g_truI, g_isNon_tup, g_isNon_non, g_slT, g_slL, g_slS, g_listL, g_listT, g_tupleL, g_raise, g_raiseA, g_kRaise1, g_kRaise2, g_setF, g_kSetF, g_make, g_meth, g_kMeth2, g_fld, g_kFldD, g_tryA, g_tryA_next, g_tryA_ret, g_cast0, g_cast1, g_cast2, g_cast3, g_cast4, g_cast5, g_cast6, g_cast7, g_cast8, g_cast9, g_cast10, g_cast11, g_cast12, g_cast13, lk, List.set_cons_zero, List.set_cons_succ, Bool.not_true, Bool.not_false, decide_true, decide_false, Int.reduceEq, Int.reduceLT, Int.reduceLE, Int.reduceSub, Int.reduceAdd, Int.reduceNeg, Int.reduceToNat, Int.reduceNe, Nat.reduceAdd, Nat.reduceLT, Nat.reduceLeDiff, eq_self, if_true, if_false, str_eq, String.reduceEq, isTy, String.reduceBEq, Bool.true_or, Bool.false_or, Bool.or_true, Bool.or_false, Bool.and_true, Bool.true_and, Bool.and_false, Bool.false_and, fIsi, fIsi2, kindOf, List.set_set, List.length_cons, List.length_nil, wipeE, beq_self_eq_true]
  rw [show bls bs = bs.map (fun b => .lst (dsOf b)) from rfl, kLc_map (g := fun b => .lst (dsOf b)) (sz (by omega)) fun b hb' => ⟨_, rfl, ?_⟩]
  · rfl
  · simp (config := { implicitDefEqProofs := false }) only [L_copy 10 (hb b hb') (by omega), g_bind_ok, g_bind_err, g_toS_ok, g_toS_err, g_var, g_c, g_op, g_op1, g_1, g_B, g_unB, g_test, g_and, g_or, g_not, g_kand_t, g_kand_f, g_kor_t, g_kor_f, g_knot, g_andV, g_orV, g_kandV_t, g_kandV_f, g_korV_t, g_korV_f, g_notV, g_kNotV, g_kNV, g_orT, g_kOrT, g_kOrT_t, g_kOrT_f, g_tru_bl, g_chain, g_ch1, g_ch2, g_ch3_t, g_ch3_f, g_if, g_kif_t, g_kif_f, g_nil, g_cons, g_cons1, g_cons2, g_lst, g_tup, g_allD_nil, g_allD_cons, kTup0, kTup1, kTup2, kTup3, kTup4, kLst0, kLst1, kLst2, kLst3, g_newF, g_newT, g_call, g_sl, g_sl0, g_sl1, g_sl2, g_noP, g_part, g_kPart, g_frz, g_app, g_seq, g_seq_next, g_seq_ret, g_seq_err, g_seq_brk, g_seq_cnt, g_skip, g_ret, g_kRet, g_drop, g_kDrop, g_ifS, g_kIfS_t, g_kIfS_f, g_asg, g_kAsg, g_kAsg2, g_kAsg3, g_for, g_kFor, g_lc, g_seqI, g_itemsL, g_itemsT, g_rng1, g_revR1, g_enum, g_kEnum, g_wipe, g_wipe_next, g_wipe_ret, g_wipe_err, g_addI, g_subI, g_ltI, g_leI, g_gtI, g_geI, g_eqI, g_neI, g_eqS, g_neS, g_eqB, g_neB, g_neg, g_intI, g_intB, g_lenT, g_lenL, g_isN, g_yes, g_truL, g_truI, g_isNon_tup, g_isNon_non, g_slT, g_slL, g_slS, g_listL, g_listT, g_tupleL, g_raise, g_raiseA, g_kRaise1, g_kRaise2, g_setF, g_kSetF, g_make, g_meth, g_kMeth2, g_fld, g_kFldD, g_tryA, g_tryA_next, g_tryA_ret, g_cast0, g_cast1, g_cast2, g_cast3, g_cast4, g_cast5, g_cast6, g_cast7, g_cast8, g_cast9, g_cast10, g_cast11, g_cast12, g_cast13, lk, List.set_cons_zero, List.set_cons_succ, Bool.not_true, Bool.not_false, decide_true, decide_false, Int.reduceEq, Int.reduceLT, Int.reduceLE, Int.reduceSub, Int.reduceAdd, Int.reduceNeg, Int.reduceToNat, Int.reduceNe, Nat.reduceAdd, Nat.reduceLT, Nat.reduceLeDiff, eq_self, if_true, if_false, str_eq, String.reduceEq, isTy, String.reduceBEq, Bool.true_or, Bool.false_or, Bool.or_true, Bool.or_false, Bool.and_true, Bool.true_and, Bool.and_false, Bool.false_and, fIsi, fIsi2, kindOf, List.set_set, List.length_cons, List.length_nil, wipeE, beq_self_eq_true]
end PH

namespace PH
open PySem PySem.Spec PyProof.Rows L2
def bookF (p : Int) : List (List Stt) → Option (Int × List Int)
  | [] => none
  | b :: r => match ffL 0 [] 0 b 0 with
    | .fault q _ => some (p, q)
    | .okk _ => bookF (p + 1) r
def noBook (i : Int) (q : List Int) : Er := ⟨"NoBook", ["path", "procedure"], [tupI q, .int i]⟩
theorem init_loop {S : Sto} {many : Int} {k : Nat} {a : Option Vl} {bs0 : List D} (hm : many = (bs0.length : Int)) : ∀ (bs : List (List Stt)) (p : Nat), (∀ b ∈ bs, OkL many b k) →
    match bookF (p : Nat) bs with
    | none => loop (.tp [2, 3]) w_Book_init_1 (enumD p (bls bs)) [a, some (.dat (.lst bs0)), none, none, none, none] S = .next [a, some (.dat (.lst bs0)), none, none, none, none] S
    | some (i, q) => ∃ ρ', loop (.tp [2, 3]) w_Book_init_1 (enumD p (bls bs)) [a, some (.dat (.lst bs0)), none, none, none, none] S = .err (noBook i q) ρ' S
  | [], p, _ => rfl
  | b :: r, p, h => by
    have ih := init_loop (S := S) (k := k) (a := a) hm r (p + 1) fun b hb => h b (List.mem_cons_of_mem _ hb)
    have hb := h b (List.mem_cons_self ..)
    have e1 : m_first_fault 10 [.dat (.lst (dsOf b)), .dat (.int 0), .dat (.int (bs0.length : Int)), .dat (.tup []), .dat (.int 0)] S = .ok (.dat (ffL 0 [] 0 b 0).d) S := by
      rw [← hm]
      exact fault_ok 10 (path := []) hb (by omega) (by omega) (by simp) (by simp)
    have el : loop (.tp [2, 3]) w_Book_init_1 (enumD p (bls (b :: r))) [a, some (.dat (.lst bs0)), none, none, none, none] S = (match w_Book_init_1 [a, some (.dat (.lst bs0)), some (.dat (.int (p : Nat))), some (.dat (.lst (dsOf b))), none, none] S with
      | .next ρ2 S2 => loop (.tp [2, 3]) w_Book_init_1 (enumD (p + 1) (bls r)) ρ2 S2
      | .cnt ρ2 S2 => loop (.tp [2, 3]) w_Book_init_1 (enumD (p + 1) (bls r)) ρ2 S2
      | .brk ρ2 S2 => .next ρ2 S2
      | .ret d S2 => .ret d S2
      | .err e ρ2 S2 => .err e ρ2 S2
      | .stuck => .stuck) := rfl
    rw [el, w_Book_init_1]
    simp (config := { implicitDefEqProofs := false }) only [e1, g_bind_ok, g_bind_err, g_toS_ok, g_toS_err, g_var, g_c, g_op, g_op1, g_1, g_B, g_unB, g_test, g_and, g_or, g_not, g_kand_t, g_kand_f, g_kor_t, g_kor_f, g_knot, g_andV, g_orV, g_kandV_t, g_kandV_f, g_korV_t, g_korV_f, g_notV, g_kNotV, g_kNV, g_orT, g_kOrT, g_kOrT_t, g_kOrT_f, g_tru_bl, g_chain, g_ch1, g_ch2, g_ch3_t, g_ch3_f, g_if, g_kif_t, g_kif_f, g_nil, g_cons, g_cons1, g_cons2, g_lst, g_tup, g_allD_nil, g_allD_cons, kTup0, kTup1, kTup2, kTup3, kTup4, kLst0, kLst1, kLst2, kLst3, g_newF, g_newT, g_call, g_sl, g_sl0, g_sl1, g_sl2, g_noP, g_part, g_kPart, g_frz, g_app, g_seq, g_seq_next, g_seq_ret, g_seq_err, g_seq_brk, g_seq_cnt, g_skip, g_ret, g_kRet, g_drop, g_kDrop, g_ifS, g_kIfS_t, g_kIfS_f, g_asg, g_kAsg, g_kAsg2, g_kAsg3, g_for, g_kFor, g_lc, g_seqI, g_itemsL, g_itemsT, g_rng1, g_revR1, g_enum, g_kEnum, g_wipe, g_wipe_next, g_wipe_ret, g_wipe_err, g_addI, g_subI, g_ltI, g_leI, g_gtI, g_geI, g_eqI, g_neI, g_eqS, g_neS, g_eqB, g_neB, g_neg, g_intI, g_intB, g_lenT, g_lenL, g_isN, g_yes, g_truL, g_truI, g_isNon_tup, g_isNon_non, g_slT, g_slL, g_slS, g_listL, g_listT, g_tupleL, g_raise, g_raiseA, g_kRaise1, g_kRaise2, g_setF, g_kSetF, g_make, g_meth, g_kMeth2, g_fld, g_kFldD, g_tryA, g_tryA_next, g_tryA_ret, g_cast0, g_cast1, g_cast2, g_cast3, g_cast4, g_cast5, g_cast6, g_cast7, g_cast8, g_cast9, g_cast10, g_cast11, g_cast12, g_cast13, lk, List.set_cons_zero, List.set_cons_succ, Bool.not_true, Bool.not_false, decide_true, decide_false, Int.reduceEq, Int.reduceLT, Int.reduceLE, Int.reduceSub, Int.reduceAdd, Int.reduceNeg, Int.reduceToNat, Int.reduceNe, Nat.reduceAdd, Nat.reduceLT, Nat.reduceLeDiff, eq_self, if_true, if_false, str_eq, String.reduceEq, isTy, String.reduceBEq, Bool.true_or, Bool.false_or, Bool.or_true, Bool.or_false, Bool.and_true, Bool.true_and, Bool.and_false, Bool.false_and, fIsi, fIsi2, kindOf, List.set_set, List.length_cons, List.length_nil, wipeE, beq_self_eq_true]
    rw [bookF]
    cases q : ffL 0 [] 0 b 0 with
    | fault pp mm =>
      simp (config := { implicitDefEqProofs := false }) only [FR.d, g_isN, g_bind_ok, g_bind_err, g_toS_ok, g_toS_err, g_var, g_c, g_op, g_op1, g_1, g_B, g_unB, g_test, g_and, g_or, g_not, g_kand_t, g_kand_f, g_kor_t, g_kor_f, g_knot, g_andV, g_orV, g_kandV_t, g_kandV_f, g_korV_t, g_korV_f, g_notV, g_kNotV, g_kNV, g_orT, g_kOrT, g_kOrT_t, g_kOrT_f, g_tru_bl, g_chain, g_ch1, g_ch2, g_ch3_t, g_ch3_f, g_if, g_kif_t, g_kif_f, g_nil, g_cons, g_cons1, g_cons2, g_lst, g_tup, g_allD_nil, g_allD_cons, kTup0, kTup1, kTup2, kTup3, kTup4, kLst0, kLst1, kLst2, kLst3, g_newF, g_newT, g_call, g_sl, g_sl0, g_sl1, g_sl2, g_noP, g_part, g_kPart, g_frz, g_app, g_seq, g_seq_next, g_seq_ret, g_seq_err, g_seq_brk, g_seq_cnt, g_skip, g_ret, g_kRet, g_drop, g_kDrop, g_ifS, g_kIfS_t, g_kIfS_f, g_asg, g_kAsg, g_kAsg2, g_kAsg3, g_for, g_kFor, g_lc, g_seqI, g_itemsL, g_itemsT, g_rng1, g_revR1, g_enum, g_kEnum, g_wipe, g_wipe_next, g_wipe_ret, g_wipe_err, g_addI, g_subI, g_ltI, g_leI, g_gtI, g_geI, g_eqI, g_neI, g_eqS, g_neS, g_eqB, g_neB, g_neg, g_intI, g_intB, g_lenT, g_lenL, g_isN, g_yes, g_truL, g_truI, g_isNon_tup, g_isNon_non, g_slT, g_slL, g_slS, g_listL, g_listT, g_tupleL, g_raise, g_raiseA, g_kRaise1, g_kRaise2, g_setF, g_kSetF, g_make, g_meth, g_kMeth2, g_fld, g_kFldD, g_tryA, g_tryA_next, g_tryA_ret, g_cast0, g_cast1, g_cast2, g_cast3, g_cast4, g_cast5, g_cast6, g_cast7, g_cast8, g_cast9, g_cast10, g_cast11, g_cast12, g_cast13, lk, List.set_cons_zero, List.set_cons_succ, Bool.not_true, Bool.not_false, decide_true, decide_false, Int.reduceEq, Int.reduceLT, Int.reduceLE, Int.reduceSub, Int.reduceAdd, Int.reduceNeg, Int.reduceToNat, Int.reduceNe, Nat.reduceAdd, Nat.reduceLT, Nat.reduceLeDiff, eq_self, if_true, if_false, str_eq, String.reduceEq, isTy, String.reduceBEq, Bool.true_or, Bool.false_or, Bool.or_true, Bool.or_false, Bool.and_true, Bool.true_and, Bool.and_false, Bool.false_and, fIsi, fIsi2, kindOf, List.set_set, List.length_cons, List.length_nil, wipeE, beq_self_eq_true]
      exact ⟨_, rfl⟩
    | okk mm =>
      simp (config := { implicitDefEqProofs := false }) only [FR.d, g_isN, g_bind_ok, g_bind_err, g_toS_ok, g_toS_err, g_var, g_c, g_op, g_op1, g_1, g_B, g_unB, g_test, g_and, g_or, g_not, g_kand_t, g_kand_f, g_kor_t, g_kor_f, g_knot, g_andV, g_orV, g_kandV_t, g_kandV_f, g_korV_t, g_korV_f, g_notV, g_kNotV, g_kNV, g_orT, g_kOrT, g_kOrT_t, g_kOrT_f, g_tru_bl, g_chain, g_ch1, g_ch2, g_ch3_t, g_ch3_f, g_if, g_kif_t, g_kif_f, g_nil, g_cons, g_cons1, g_cons2, g_lst, g_tup, g_allD_nil, g_allD_cons, kTup0, kTup1, kTup2, kTup3, kTup4, kLst0, kLst1, kLst2, kLst3, g_newF, g_newT, g_call, g_sl, g_sl0, g_sl1, g_sl2, g_noP, g_part, g_kPart, g_frz, g_app, g_seq, g_seq_next, g_seq_ret, g_seq_err, g_seq_brk, g_seq_cnt, g_skip, g_ret, g_kRet, g_drop, g_kDrop, g_ifS, g_kIfS_t, g_kIfS_f, g_asg, g_kAsg, g_kAsg2, g_kAsg3, g_for, g_kFor, g_lc, g_seqI, g_itemsL, g_itemsT, g_rng1, g_revR1, g_enum, g_kEnum, g_wipe, g_wipe_next, g_wipe_ret, g_wipe_err, g_addI, g_subI, g_ltI, g_leI, g_gtI, g_geI, g_eqI, g_neI, g_eqS, g_neS, g_eqB, g_neB, g_neg, g_intI, g_intB, g_lenT, g_lenL, g_isN, g_yes, g_truL, g_truI, g_isNon_tup, g_isNon_non, g_slT, g_slL, g_slS, g_listL, g_listT, g_tupleL, g_raise, g_raiseA, g_kRaise1, g_kRaise2, g_setF, g_kSetF, g_make, g_meth, g_kMeth2, g_fld, g_kFldD, g_tryA, g_tryA_next, g_tryA_ret, g_cast0, g_cast1, g_cast2, g_cast3, g_cast4, g_cast5, g_cast6, g_cast7, g_cast8, g_cast9, g_cast10, g_cast11, g_cast12, g_cast13, lk, List.set_cons_zero, List.set_cons_succ, Bool.not_true, Bool.not_false, decide_true, decide_false, Int.reduceEq, Int.reduceLT, Int.reduceLE, Int.reduceSub, Int.reduceAdd, Int.reduceNeg, Int.reduceToNat, Int.reduceNe, Nat.reduceAdd, Nat.reduceLT, Nat.reduceLeDiff, eq_self, if_true, if_false, str_eq, String.reduceEq, isTy, String.reduceBEq, Bool.true_or, Bool.false_or, Bool.or_true, Bool.or_false, Bool.and_true, Bool.true_and, Bool.and_false, Bool.false_and, fIsi, fIsi2, kindOf, List.set_set, List.length_cons, List.length_nil, wipeE, beq_self_eq_true]
      rw [← w_Book_init_1]
      exact ih
def bookD (bs : List (List Stt)) : D := .ins "Book" ["own"] [.lst (bls bs)]
theorem lk_set {d : Vl} : ∀ {ρ : Ev} {i : Nat}, i < ρ.length → lk (ρ.set i (some d)) i = some d
  | [], i, h => by simp at h
  | x :: r, 0, h => rfl
  | x :: r, i + 1, h => lk_set (ρ := r) (by simpa using h)
theorem wipe1_len {ρ : Ev} {i : Nat} : (wipeE ρ [i]).length = ρ.length := by simp [wipeE]
theorem copied_bodies {cl : Bool} {S : Sto} {many : Int} {k i : Nat} {bs : List (List Stt)} {ρ : Ev} (hb : ∀ b ∈ bs, OkL many b k) (hk : k ≤ 9) (hl : bs.length ≤ 10) (h : i < ρ.length) : kLc cl (.nm i) mYes (mCall (m_copied_block 20) (mCons (mVar i) mNil)) ρ [i] (bls bs) S = newL cl (bls bs) S := by
  rw [show bls bs = bs.map (fun b => .lst (dsOf b)) from rfl, kLc_map (g := fun b => .lst (dsOf b)) (sz (by omega)) fun b hb' => ?_]
  have e2 := lk_set (d := .dat (.lst (dsOf b))) (ρ := wipeE ρ [i]) (i := i) (by rw [wipe1_len]; exact h)
  refine ⟨(wipeE ρ [i]).set i (some (.dat (.lst (dsOf b)))), rfl, ?_⟩
  simp (config := { implicitDefEqProofs := false }) only [g_call, g_cons, g_var, e2, g_bind_ok, g_cons1, g_nil, g_cons2]
  exact (copy_ok 20).2 (hb b hb') (by omega)
theorem init_ok {S : Sto} {many : Int} {k n : Nat} {bs : List (List Stt)} (hb : ∀ b ∈ bs, OkL many b k) (hk : k ≤ 9) (hm : many = (bs.length : Int)) (h1 : 1 ≤ bs.length) (h3 : bs.length ≤ 3) (hn : S[n]? = some (.ins "Book" [])) :
    m_Book_init [.cel n, .dat (.lst (bls bs))] S = match bookF 0 bs with
      | none => .ok (.dat .non) (S.set n (.ins "Book" [("own", .dat (.lst (bls bs)))]))
      | some (i, q) => .err (noBook i q) S := by
  rw [show m_Book_init [.cel n, .dat (.lst (bls bs))] S = ofOut (b_Book_init [some (.cel n), some (.dat (.lst (bls bs))), none, none, none, none] S) from rfl]
  unfold b_Book_init
  have hl : (bls bs).length = bs.length := by simp [bls]
  have e := init_loop (S := S) (a := some (.cel n)) (bs0 := bls bs) (by rw [hl]; exact hm) bs 0 hb
  rw [g_cast0] at e
  simp (config := { implicitDefEqProofs := false }) only [hl, decide_eq_true (show (1 : Int) ≤ (bs.length : Int) by omega), decide_eq_true (show (bs.length : Int) ≤ 3 by omega), g_bind_ok, g_bind_err, g_toS_ok, g_toS_err, g_var, g_c, g_op, g_op1, g_1, g_B, g_unB, g_test, g_and, g_or, g_not, g_kand_t, g_kand_f, g_kor_t, g_kor_f, g_knot, g_andV, g_orV, g_kandV_t, g_kandV_f, g_korV_t, g_korV_f, g_notV, g_kNotV, g_kNV, g_orT, g_kOrT, g_kOrT_t, g_kOrT_f, g_tru_bl, g_chain, g_ch1, g_ch2, g_ch3_t, g_ch3_f, g_if, g_kif_t, g_kif_f, g_nil, g_cons, g_cons1, g_cons2, g_lst, g_tup, g_allD_nil, g_allD_cons, kTup0, kTup1, kTup2, kTup3, kTup4, kLst0, kLst1, kLst2, kLst3, g_newF, g_newT, g_call, g_sl, g_sl0, g_sl1, g_sl2, g_noP, g_part, g_kPart, g_frz, g_app, g_seq, g_seq_next, g_seq_ret, g_seq_err, g_seq_brk, g_seq_cnt, g_skip, g_ret, g_kRet, g_drop, g_kDrop, g_ifS, g_kIfS_t, g_kIfS_f, g_asg, g_kAsg, g_kAsg2, g_kAsg3, g_for, g_kFor, g_lc, g_seqI, g_itemsL, g_itemsT, g_rng1, g_revR1, g_enum, g_kEnum, g_wipe, g_wipe_next, g_wipe_ret, g_wipe_err, g_addI, g_subI, g_ltI, g_leI, g_gtI, g_geI, g_eqI, g_neI, g_eqS, g_neS, g_eqB, g_neB, g_neg, g_intI, g_intB, g_lenT, g_lenL, g_isN, g_yes, g_truL, g_truI, g_isNon_tup, g_isNon_non, g_slT, g_slL, g_slS, g_listL, g_listT, g_tupleL, g_raise, g_raiseA, g_kRaise1, g_kRaise2, g_setF, g_kSetF, g_make, g_meth, g_kMeth2, g_fld, g_kFldD, g_tryA, g_tryA_next, g_tryA_ret, g_cast0, g_cast1, g_cast2, g_cast3, g_cast4, g_cast5, g_cast6, g_cast7, g_cast8, g_cast9, g_cast10, g_cast11, g_cast12, g_cast13, lk, List.set_cons_zero, List.set_cons_succ, Bool.not_true, Bool.not_false, decide_true, decide_false, Int.reduceEq, Int.reduceLT, Int.reduceLE, Int.reduceSub, Int.reduceAdd, Int.reduceNeg, Int.reduceToNat, Int.reduceNe, Nat.reduceAdd, Nat.reduceLT, Nat.reduceLeDiff, eq_self, if_true, if_false, str_eq, String.reduceEq, isTy, String.reduceBEq, Bool.true_or, Bool.false_or, Bool.or_true, Bool.or_false, Bool.and_true, Bool.true_and, Bool.and_false, Bool.false_and, fIsi, fIsi2, kindOf, List.set_set, List.length_cons, List.length_nil, wipeE, beq_self_eq_true]
  cases q : bookF 0 bs with
  | none =>
    rw [q] at e
    simp (config := { implicitDefEqProofs := false }) only [e, copied_bodies hb hk (show bs.length ≤ 10 by omega), g_kSetF2 hn (by simp), g_bind_ok, g_bind_err, g_toS_ok, g_toS_err, g_var, g_c, g_op, g_op1, g_1, g_B, g_unB, g_test, g_and, g_or, g_not, g_kand_t, g_kand_f, g_kor_t, g_kor_f, g_knot, g_andV, g_orV, g_kandV_t, g_kandV_f, g_korV_t, g_korV_f, g_notV, g_kNotV, g_kNV, g_orT, g_kOrT, g_kOrT_t, g_kOrT_f, g_tru_bl, g_chain, g_ch1, g_ch2, g_ch3_t, g_ch3_f, g_if, g_kif_t, g_kif_f, g_nil, g_cons, g_cons1, g_cons2, g_lst, g_tup, g_allD_nil, g_allD_cons, kTup0, kTup1, kTup2, kTup3, kTup4, kLst0, kLst1, kLst2, kLst3, g_newF, g_newT, g_call, g_sl, g_sl0, g_sl1, g_sl2, g_noP, g_part, g_kPart, g_frz, g_app, g_seq, g_seq_next, g_seq_ret, g_seq_err, g_seq_brk, g_seq_cnt, g_skip, g_ret, g_kRet, g_drop, g_kDrop, g_ifS, g_kIfS_t, g_kIfS_f, g_asg, g_kAsg, g_kAsg2, g_kAsg3, g_for, g_kFor, g_lc, g_seqI, g_itemsL, g_itemsT, g_rng1, g_revR1, g_enum, g_kEnum, g_wipe, g_wipe_next, g_wipe_ret, g_wipe_err, g_addI, g_subI, g_ltI, g_leI, g_gtI, g_geI, g_eqI, g_neI, g_eqS, g_neS, g_eqB, g_neB, g_neg, g_intI, g_intB, g_lenT, g_lenL, g_isN, g_yes, g_truL, g_truI, g_isNon_tup, g_isNon_non, g_slT, g_slL, g_slS, g_listL, g_listT, g_tupleL, g_raise, g_raiseA, g_kRaise1, g_kRaise2, g_setF, g_kSetF, g_make, g_meth, g_kMeth2, g_fld, g_kFldD, g_tryA, g_tryA_next, g_tryA_ret, g_cast0, g_cast1, g_cast2, g_cast3, g_cast4, g_cast5, g_cast6, g_cast7, g_cast8, g_cast9, g_cast10, g_cast11, g_cast12, g_cast13, lk, List.set_cons_zero, List.set_cons_succ, Bool.not_true, Bool.not_false, decide_true, decide_false, Int.reduceEq, Int.reduceLT, Int.reduceLE, Int.reduceSub, Int.reduceAdd, Int.reduceNeg, Int.reduceToNat, Int.reduceNe, Nat.reduceAdd, Nat.reduceLT, Nat.reduceLeDiff, eq_self, if_true, if_false, str_eq, String.reduceEq, isTy, String.reduceBEq, Bool.true_or, Bool.false_or, Bool.or_true, Bool.or_false, Bool.and_true, Bool.true_and, Bool.and_false, Bool.false_and, fIsi, fIsi2, kindOf, List.set_set, List.length_cons, List.length_nil, wipeE, beq_self_eq_true]
    rfl
  | some x =>
    obtain ⟨i, p⟩ := x
    rw [q] at e
    obtain ⟨ρ', e⟩ := e
    simp (config := { implicitDefEqProofs := false }) only [e, g_bind_ok, g_bind_err, g_toS_ok, g_toS_err, g_var, g_c, g_op, g_op1, g_1, g_B, g_unB, g_test, g_and, g_or, g_not, g_kand_t, g_kand_f, g_kor_t, g_kor_f, g_knot, g_andV, g_orV, g_kandV_t, g_kandV_f, g_korV_t, g_korV_f, g_notV, g_kNotV, g_kNV, g_orT, g_kOrT, g_kOrT_t, g_kOrT_f, g_tru_bl, g_chain, g_ch1, g_ch2, g_ch3_t, g_ch3_f, g_if, g_kif_t, g_kif_f, g_nil, g_cons, g_cons1, g_cons2, g_lst, g_tup, g_allD_nil, g_allD_cons, kTup0, kTup1, kTup2, kTup3, kTup4, kLst0, kLst1, kLst2, kLst3, g_newF, g_newT, g_call, g_sl, g_sl0, g_sl1, g_sl2, g_noP, g_part, g_kPart, g_frz, g_app, g_seq, g_seq_next, g_seq_ret, g_seq_err, g_seq_brk, g_seq_cnt, g_skip, g_ret, g_kRet, g_drop, g_kDrop, g_ifS, g_kIfS_t, g_kIfS_f, g_asg, g_kAsg, g_kAsg2, g_kAsg3, g_for, g_kFor, g_lc, g_seqI, g_itemsL, g_itemsT, g_rng1, g_revR1, g_enum, g_kEnum, g_wipe, g_wipe_next, g_wipe_ret, g_wipe_err, g_addI, g_subI, g_ltI, g_leI, g_gtI, g_geI, g_eqI, g_neI, g_eqS, g_neS, g_eqB, g_neB, g_neg, g_intI, g_intB, g_lenT, g_lenL, g_isN, g_yes, g_truL, g_truI, g_isNon_tup, g_isNon_non, g_slT, g_slL, g_slS, g_listL, g_listT, g_tupleL, g_raise, g_raiseA, g_kRaise1, g_kRaise2, g_setF, g_kSetF, g_make, g_meth, g_kMeth2, g_fld, g_kFldD, g_tryA, g_tryA_next, g_tryA_ret, g_cast0, g_cast1, g_cast2, g_cast3, g_cast4, g_cast5, g_cast6, g_cast7, g_cast8, g_cast9, g_cast10, g_cast11, g_cast12, g_cast13, lk, List.set_cons_zero, List.set_cons_succ, Bool.not_true, Bool.not_false, decide_true, decide_false, Int.reduceEq, Int.reduceLT, Int.reduceLE, Int.reduceSub, Int.reduceAdd, Int.reduceNeg, Int.reduceToNat, Int.reduceNe, Nat.reduceAdd, Nat.reduceLT, Nat.reduceLeDiff, eq_self, if_true, if_false, str_eq, String.reduceEq, isTy, String.reduceBEq, Bool.true_or, Bool.false_or, Bool.or_true, Bool.or_false, Bool.and_true, Bool.true_and, Bool.and_false, Bool.false_and, fIsi, fIsi2, kindOf, List.set_set, List.length_cons, List.length_nil, wipeE, beq_self_eq_true]
    rfl
theorem len_ok {S : Sto} {bs : List (List Stt)} (hl : bs.length ≤ 10) : fLenO "Book" m_Book_len (.dat (bookD bs)) S = .ok (.dat (.int (bs.length : Int))) S := by
  have e : m_Book_len [.dat (bookD bs)] S = .ok (.dat (.int (bs.length : Int))) S := by
    rw [show m_Book_len [.dat (bookD bs)] S = ofOut (b_Book_len [some (.dat (bookD bs))] S) from rfl]
    unfold b_Book_len bookD
    simp (config := { implicitDefEqProofs := false }) only [List.zip_cons_cons, List.lookup_cons, g_bind_ok, g_bind_err, g_toS_ok, g_toS_err, g_var, g_c, g_op, g_op1, g_1, g_B, g_unB, g_test, g_and, g_or, g_not, g_kand_t, g_kand_f, g_kor_t, g_kor_f, g_knot, g_andV, g_orV, g_kandV_t, g_kandV_f, g_korV_t, g_korV_f, g_notV, g_kNotV, g_kNV, g_orT, g_kOrT, g_kOrT_t, g_kOrT_f, g_tru_bl, g_chain, g_ch1, g_ch2, g_ch3_t, g_ch3_f, g_if, g_kif_t, g_kif_f, g_nil, g_cons, g_cons1, g_cons2, g_lst, g_tup, g_allD_nil, g_allD_cons, kTup0, kTup1, kTup2, kTup3, kTup4, kLst0, kLst1, kLst2, kLst3, g_newF, g_newT, g_call, g_sl, g_sl0, g_sl1, g_sl2, g_noP, g_part, g_kPart, g_frz, g_app, g_seq, g_seq_next, g_seq_ret, g_seq_err, g_seq_brk, g_seq_cnt, g_skip, g_ret, g_kRet, g_drop, g_kDrop, g_ifS, g_kIfS_t, g_kIfS_f, g_asg, g_kAsg, g_kAsg2, g_kAsg3, g_for, g_kFor, g_lc, g_seqI, g_itemsL, g_itemsT, g_rng1, g_revR1, g_enum, g_kEnum, g_wipe, g_wipe_next, g_wipe_ret, g_wipe_err, g_addI, g_subI, g_ltI, g_leI, g_gtI, g_geI, g_eqI, g_neI, g_eqS, g_neS, g_eqB, g_neB, g_neg, g_intI, g_intB, g_lenT, g_lenL, g_isN, g_yes, g_truL, g_truI, g_isNon_tup, g_isNon_non, g_slT, g_slL, g_slS, g_listL, g_listT, g_tupleL, g_raise, g_raiseA, g_kRaise1, g_kRaise2, g_setF, g_kSetF, g_make, g_meth, g_kMeth2, g_fld, g_kFldD, g_tryA, g_tryA_next, g_tryA_ret, g_cast0, g_cast1, g_cast2, g_cast3, g_cast4, g_cast5, g_cast6, g_cast7, g_cast8, g_cast9, g_cast10, g_cast11, g_cast12, g_cast13, lk, List.set_cons_zero, List.set_cons_succ, Bool.not_true, Bool.not_false, decide_true, decide_false, Int.reduceEq, Int.reduceLT, Int.reduceLE, Int.reduceSub, Int.reduceAdd, Int.reduceNeg, Int.reduceToNat, Int.reduceNe, Nat.reduceAdd, Nat.reduceLT, Nat.reduceLeDiff, eq_self, if_true, if_false, str_eq, String.reduceEq, isTy, String.reduceBEq, Bool.true_or, Bool.false_or, Bool.or_true, Bool.or_false, Bool.and_true, Bool.true_and, Bool.and_false, Bool.false_and, fIsi, fIsi2, kindOf, List.set_set, List.length_cons, List.length_nil, wipeE, beq_self_eq_true]
    simp [bls]
    rfl
  rw [fLenO, if_pos (by simp [isIns, bookD, str_eq]), e, lenR, if_pos (by omega)]
theorem bodies_ok {S : Sto} {many : Int} {k : Nat} {bs : List (List Stt)} (hb : ∀ b ∈ bs, OkL many b k) (hk : k ≤ 9) (hl : bs.length ≤ 10) : m_Book_bodies [.dat (bookD bs)] S = .ok (.dat (.lst (bls bs))) S := by
  rw [show m_Book_bodies [.dat (bookD bs)] S = ofOut (b_Book_bodies [some (.dat (bookD bs)), none] S) from rfl]
  unfold b_Book_bodies bookD
  simp (config := { implicitDefEqProofs := false }) only [List.zip_cons_cons, List.lookup_cons, copied_bodies hb hk hl, g_bind_ok, g_bind_err, g_toS_ok, g_toS_err, g_var, g_c, g_op, g_op1, g_1, g_B, g_unB, g_test, g_and, g_or, g_not, g_kand_t, g_kand_f, g_kor_t, g_kor_f, g_knot, g_andV, g_orV, g_kandV_t, g_kandV_f, g_korV_t, g_korV_f, g_notV, g_kNotV, g_kNV, g_orT, g_kOrT, g_kOrT_t, g_kOrT_f, g_tru_bl, g_chain, g_ch1, g_ch2, g_ch3_t, g_ch3_f, g_if, g_kif_t, g_kif_f, g_nil, g_cons, g_cons1, g_cons2, g_lst, g_tup, g_allD_nil, g_allD_cons, kTup0, kTup1, kTup2, kTup3, kTup4, kLst0, kLst1, kLst2, kLst3, g_newF, g_newT, g_call, g_sl, g_sl0, g_sl1, g_sl2, g_noP, g_part, g_kPart, g_frz, g_app, g_seq, g_seq_next, g_seq_ret, g_seq_err, g_seq_brk, g_seq_cnt, g_skip, g_ret, g_kRet, g_drop, g_kDrop, g_ifS, g_kIfS_t, g_kIfS_f, g_asg, g_kAsg, g_kAsg2, g_kAsg3, g_for, g_kFor, g_lc, g_seqI, g_itemsL, g_itemsT, g_rng1, g_revR1, g_enum, g_kEnum, g_wipe, g_wipe_next, g_wipe_ret, g_wipe_err, g_addI, g_subI, g_ltI, g_leI, g_gtI, g_geI, g_eqI, g_neI, g_eqS, g_neS, g_eqB, g_neB, g_neg, g_intI, g_intB, g_lenT, g_lenL, g_isN, g_yes, g_truL, g_truI, g_isNon_tup, g_isNon_non, g_slT, g_slL, g_slS, g_listL, g_listT, g_tupleL, g_raise, g_raiseA, g_kRaise1, g_kRaise2, g_setF, g_kSetF, g_make, g_meth, g_kMeth2, g_fld, g_kFldD, g_tryA, g_tryA_next, g_tryA_ret, g_cast0, g_cast1, g_cast2, g_cast3, g_cast4, g_cast5, g_cast6, g_cast7, g_cast8, g_cast9, g_cast10, g_cast11, g_cast12, g_cast13, lk, List.set_cons_zero, List.set_cons_succ, Bool.not_true, Bool.not_false, decide_true, decide_false, Int.reduceEq, Int.reduceLT, Int.reduceLE, Int.reduceSub, Int.reduceAdd, Int.reduceNeg, Int.reduceToNat, Int.reduceNe, Nat.reduceAdd, Nat.reduceLT, Nat.reduceLeDiff, eq_self, if_true, if_false, str_eq, String.reduceEq, isTy, String.reduceBEq, Bool.true_or, Bool.false_or, Bool.or_true, Bool.or_false, Bool.and_true, Bool.true_and, Bool.and_false, Bool.false_and, fIsi, fIsi2, kindOf, List.set_set, List.length_cons, List.length_nil, wipeE, beq_self_eq_true]
  rfl
/-- Book(bodies) -/
theorem make_ok {S : Sto} {many : Int} {k : Nat} {bs : List (List Stt)} (ls : LS S) (hb : ∀ b ∈ bs, OkL many b k) (hk : k ≤ 9) (hm : many = (bs.length : Int)) (h1 : 1 ≤ bs.length) (h3 : bs.length ≤ 3) :
    kMake false "Book" m_Book_init [.dat (.lst (bls bs))] S = match bookF 0 bs with
      | none => .ok (.dat (bookD bs)) S
      | some (i, q) => .err (noBook i q) S := by
  have t : ((S ++ [Cell.ins "Book" []]).take S.length) = S := by simp
  have ls' := ls.take (n := S.length) (m := S.length)
  rw [List.take_length] at ls'
  unfold kMake
  rw [init_ok hb hk hm h1 h3 (by simp)]
  cases q : bookF 0 bs with
  | none =>
    dsimp only [made]
    rw [List.set_append_right _ _ (Nat.le_refl _), Nat.sub_self]
    simp [allDF, bookD, ls']
  | some x =>
    obtain ⟨i, p⟩ := x
    dsimp only [made]
    rw [t, if_pos ls']
end PH

namespace PH
open PySem PySem.Spec PyProof PyProof.Rows L2
mutual
/-- the height -/
def D.ht : D → Nat
  | .lst xs => D.hts xs + 1
  | .tup xs => D.hts xs + 1
  | _ => 0
def D.hts : List D → Nat
  | [] => 0
  | x :: r => max (D.ht x) (D.hts r)
end
mutual
/-- no instances, no dicts; texts that may be compared -/
def D.Pl : D → Prop
  | .lst xs => xs.length ≤ 1000 ∧ D.Pls xs
  | .tup xs => xs.length ≤ 1000 ∧ D.Pls xs
  | .str x => PyData.strOk x = true
  | .ins _ _ _ => False
  | .dct => False
  | _ => True
def D.Pls : List D → Prop
  | [] => True
  | x :: r => D.Pl x ∧ D.Pls r
end
mutual
theorem pl_py : ∀ d : D, d.Pl → ∃ p, d.py = some p ∧ p.canLay0 = true ∧ p.depth = d.ht
  | .non, _ => ⟨_, rfl, rfl, rfl⟩
  | .bl b, _ => ⟨_, rfl, rfl, rfl⟩
  | .int i, _ => ⟨_, rfl, rfl, rfl⟩
  | .str x, h => ⟨_, rfl, h, rfl⟩
  | .lst xs, h => by
    obtain ⟨ps, e1, e2, e3⟩ := pls_py xs h.2
    refine ⟨.list ps, ?_, e2, ?_⟩
    · simp only [D.py, e1]
    · simp only [PyData.depth, D.ht, e3]
  | .tup xs, h => by
    obtain ⟨ps, e1, e2, e3⟩ := pls_py xs h.2
    refine ⟨.tuple ps, ?_, e2, ?_⟩
    · simp only [D.py, e1]
    · simp only [PyData.depth, D.ht, e3]
  | .ins _ _ _, h => h.elim
  | .dct, h => h.elim
theorem pls_py : ∀ ds : List D, D.Pls ds → ∃ ps, D.pys ds = some ps ∧ PyData.canLayAll0 ps = true ∧ PyData.depthAll ps = D.hts ds
  | [], _ => ⟨_, rfl, rfl, rfl⟩
  | d :: r, h => by
    obtain ⟨p, e1, e2, e3⟩ := pl_py d h.1
    obtain ⟨ps, f1, f2, f3⟩ := pls_py r h.2
    refine ⟨p :: ps, ?_, ?_, ?_⟩
    · simp only [D.pys, e1, f1]
    · simp only [PyData.canLayAll0, e2, f2, Bool.and_self]
    · simp only [PyData.depthAll, D.hts, e3, f3]
end
theorem pl_shaped {d : D} {p : PyData} (h : d.Pl) (hd : d.ht ≤ 64) (e : d.py = some p) : SeqAt.shaped p = true := by
  obtain ⟨p', e1, e2, e3⟩ := pl_py d h
  rw [e] at e1
  cases e1
  unfold SeqAt.shaped
  rw [e2, e3, decide_eq_true hd]
  rfl
theorem fEq_tup {xs ys : List D} {S : Sto} : fEq (.dat (.tup xs)) (.dat (.tup ys)) S = (match D.py (.tup xs), D.py (.tup ys) with
    | some p, some q => if shp p q = true then .ok (.dat (.bl (PyData.eqv p q))) S else .stuck
    | _, _ => .stuck) := rfl
theorem fNe_tup {xs ys : List D} {S : Sto} : fNe (.dat (.tup xs)) (.dat (.tup ys)) S = (match D.py (.tup xs), D.py (.tup ys) with
    | some p, some q => if shp p q = true then .ok (.dat (.bl (!PyData.eqv p q))) S else .stuck
    | _, _ => .stuck) := rfl
/-- a tuple with another word -/
theorem ne_bad {w : Str} {r : List D} {S : Sto} (h : (D.tup (.str w :: r)).Pl) (hd : (D.tup (.str w :: r)).ht ≤ 64) (hw : w ≠ Str.ofString "bad") : fEq (.dat (.tup (.str w :: r))) (.dat (.tup [.str "bad"])) S = .ok (.dat (.bl false)) S := by
  obtain ⟨ps, e1, _, _⟩ := pls_py r h.2.2
  have e : D.py (.tup (.str w :: r)) = some (.tuple (.str w :: ps)) := by simp only [D.py, D.pys, e1]
  have e2 : D.py (.tup [.str "bad"]) = some (.tuple [.str "bad"]) := rfl
  have e3 : (w == Str.ofString "bad") = false := beq_eq_false_iff_ne.mpr hw
  rw [fEq_tup, e, e2]
  dsimp only
  rw [if_pos (by unfold shp; rw [pl_shaped h hd e]; decide +kernel)]
  simp only [PyData.eqv, PyData.eqvAll, e3, Bool.false_and]
theorem eq_bad {S : Sto} : fEq (.dat (.tup [.str "bad"])) (.dat (.tup [.str "bad"])) S = .ok (.dat (.bl true)) S := by
  rw [fEq_tup]
  have e2 : D.py (.tup [.str "bad"]) = some (.tuple [.str "bad"]) := rfl
  rw [e2]
  dsimp only
  rw [if_pos (by decide +kernel)]
  simp [PyData.eqv, PyData.eqvAll]
mutual
theorem Stt.plain {many : Int} : ∀ (s : Stt) (k : Nat), s.Ok many k → s.d.Pl ∧ s.d.ht ≤ 3 * k + 1
  | .cmd c, k, h => by cases c <;> exact ⟨⟨by simp, by simp only [D.Pl, D.Pls, and_true]; decide +kernel⟩, by simp [Stt.d, Cmd.d, D.ht, D.hts]⟩
  | .fin w, k, h => ⟨⟨by simp, by simp only [D.Pl, D.Pls, and_true]; decide +kernel⟩, by simp [Stt.d, D.ht, D.hts]⟩
  | .bad, k, h => ⟨⟨by simp, by simp only [D.Pl, D.Pls, and_true]; decide +kernel⟩, by simp [Stt.d, D.ht, D.hts]⟩
  | .keep b, k, h => by
    obtain ⟨h1, h2⟩ := dsOf_plain b (k - 1) h.2
    have l1 := h.2.len
    have := h.1
    exact ⟨⟨by simp, by show PyData.strOk _ = true; decide +kernel, ⟨by rw [dsOf_len]; omega, h1⟩, trivial⟩, by simp [Stt.d, D.ht, D.hts]; omega⟩
  | .again b, k, h => by
    obtain ⟨h1, h2⟩ := dsOf_plain b (k - 1) h.2
    have l1 := h.2.len
    have := h.1
    exact ⟨⟨by simp, by show PyData.strOk _ = true; decide +kernel, ⟨by rw [dsOf_len]; omega, h1⟩, trivial⟩, by simp [Stt.d, D.ht, D.hts]; omega⟩
  | .either a b, k, h => by
    obtain ⟨h1, h2⟩ := dsOf_plain a (k - 1) h.2.1
    obtain ⟨h3, h4⟩ := dsOf_plain b (k - 1) h.2.2
    have l1 := h.2.1.len
    have l2 := h.2.2.len
    have := h.1
    exact ⟨⟨by simp, by show PyData.strOk _ = true; decide +kernel, ⟨by rw [dsOf_len]; omega, h1⟩, ⟨by rw [dsOf_len]; omega, h3⟩, trivial⟩, by simp [Stt.d, D.ht, D.hts]; omega⟩
  | .call g f a b, k, h => by
    obtain ⟨h1, h2⟩ := dsOf_plain a (k - 1) h.2.1
    obtain ⟨h3, h4⟩ := dsOf_plain b (k - 1) h.2.2
    have l1 := h.2.1.len
    have l2 := h.2.2.len
    have := h.1.1
    exact ⟨⟨by simp, by show PyData.strOk _ = true; decide +kernel, trivial, trivial, ⟨by simp, ⟨by rw [dsOf_len]; omega, h1⟩, ⟨by rw [dsOf_len]; omega, h3⟩, trivial⟩, trivial⟩, by simp [Stt.d, D.ht, D.hts]; omega⟩
theorem dsOf_plain {many : Int} : ∀ (l : List Stt) (k : Nat), OkL many l k → D.Pls (dsOf l) ∧ D.hts (dsOf l) ≤ 3 * k + 1
  | [], k, _ => ⟨trivial, by simp [dsOf, D.hts]⟩
  | s :: r, k, h => by
    obtain ⟨h1, h2⟩ := Stt.plain s k h.1.1
    obtain ⟨h3, h4⟩ := dsOf_plain r k h.2
    exact ⟨⟨h1, h3⟩, by simp [dsOf, D.hts]; omega⟩
end
def Stt.isBad : Stt → Bool
  | .bad => true
  | _ => false
theorem is_bad {many : Int} {s : Stt} {k : Nat} {S : Sto} (h : s.Ok many k) (hk : k ≤ 20) : fEq (.dat s.d) (.dat (.tup [.str "bad"])) S = .ok (.dat (.bl s.isBad)) S := by
  obtain ⟨h1, h2⟩ := Stt.plain s k h
  cases s with
  | bad => exact eq_bad
  | cmd c => cases c <;> exact ne_bad h1 (Nat.le_trans h2 (by omega)) (by decide)
  | fin w => exact ne_bad h1 (Nat.le_trans h2 (by omega)) (by decide)
  | keep b => exact ne_bad h1 (Nat.le_trans h2 (by omega)) (by decide)
  | again b => exact ne_bad h1 (Nat.le_trans h2 (by omega)) (by decide)
  | either a b => exact ne_bad h1 (Nat.le_trans h2 (by omega)) (by decide)
  | call g f a b => exact ne_bad h1 (Nat.le_trans h2 (by omega)) (by decide)
theorem ints_py : ∀ p : List Int, D.pys (p.map D.int) = some (p.map PyData.int)
  | [] => rfl
  | i :: r => by simp only [List.map_cons, D.pys, D.py, ints_py r]
theorem ints_pl : ∀ p : List Int, D.Pls (p.map D.int) ∧ D.hts (p.map D.int) = 0
  | [] => ⟨trivial, rfl⟩
  | i :: r => ⟨⟨trivial, (ints_pl r).1⟩, by simp [D.hts, D.ht, (ints_pl r).2]⟩
theorem path_ne {p : List Int} {S : Sto} (hp : p.length ≤ 100) : fNe (.dat (tupI p)) (.dat (.tup [])) S = .ok (.dat (.bl (!p.isEmpty))) S := by
  have e : D.py (tupI p) = some (.tuple (p.map PyData.int)) := by simp only [tupI, D.py, ints_py]
  have e2 : D.py (.tup []) = some (.tuple []) := rfl
  rw [fNe_tup, e, e2]
  dsimp only
  rw [if_pos (by unfold shp; rw [pl_shaped (d := tupI p) ⟨by simp; omega, (ints_pl p).1⟩ (by simp [tupI, D.ht, (ints_pl p).2]) e]; decide +kernel)]
  cases p with
  | nil => rfl
  | cons i r => simp [PyData.eqv, PyData.eqvAll]
theorem ht_mem : ∀ {xs : List D} {x : D}, x ∈ xs → x.ht ≤ D.hts xs
  | y :: r, x, h => by
    rcases List.mem_cons.mp h with rfl | h
    · simp [D.hts]; omega
    · have := ht_mem h; simp [D.hts]; omega
theorem pl_mem : ∀ {xs : List D} {x : D}, D.Pls xs → x ∈ xs → x.Pl
  | y :: r, x, hp, h => by
    rcases List.mem_cons.mp h with rfl | h
    · exact hp.1
    · exact pl_mem hp.2 h
theorem all_true {α : Type} {S : Sto} (xs : List α) : fAll (.dat (.lst (xs.map fun _ => D.bl true))) S = .ok (.dat (.bl true)) S := by
  have : ∀ xs : List α, allBl (xs.map fun _ => D.bl true) = some (xs.map fun _ => true) := fun xs => by
    induction xs with
    | nil => rfl
    | cons x r ih => simp only [List.map_cons, allBl, ih]
  simp only [fAll, seqL, this]
  congr 3
  simp
theorem fEq_non {S : Sto} : fEq (.dat .non) (.dat .non) S = .ok (.dat (.bl true)) S := by
  show (if shp .none .none = true then Res.ok (Vl.dat (D.bl (PyData.eqv .none .none))) S else .stuck) = _
  rw [if_pos (by decide +kernel)]
  rfl
theorem same_el {n : Nat} {xs : List D} {S : Sto} {f : FD} {i : Nat} {x y : D} (hx : xs[i]? = some x) (ex : fIx (.dat y) (.dat (.int (0 + (i : Int)))) S = .ok (.dat x) S) (h : f [.dat x, .dat x] S = .ok (.dat (.bl true)) S) : e_L_same_1 f [some (.dat y), some (.dat y), some (.dat (.int (0 + (i : Int))))] S = .ok (.dat (.bl true)) S := by
  unfold e_L_same_1
  simp (config := { implicitDefEqProofs := false }) only [ex, h, g_bind_ok, g_bind_err, g_toS_ok, g_toS_err, g_var, g_c, g_op, g_op1, g_1, g_B, g_unB, g_test, g_and, g_or, g_not, g_kand_t, g_kand_f, g_kor_t, g_kor_f, g_knot, g_andV, g_orV, g_kandV_t, g_kandV_f, g_korV_t, g_korV_f, g_notV, g_kNotV, g_kNV, g_orT, g_kOrT, g_kOrT_t, g_kOrT_f, g_tru_bl, g_chain, g_ch1, g_ch2, g_ch3_t, g_ch3_f, g_if, g_kif_t, g_kif_f, g_nil, g_cons, g_cons1, g_cons2, g_lst, g_tup, g_allD_nil, g_allD_cons, kTup0, kTup1, kTup2, kTup3, kTup4, kLst0, kLst1, kLst2, kLst3, g_newF, g_newT, g_call, g_sl, g_sl0, g_sl1, g_sl2, g_noP, g_part, g_kPart, g_frz, g_app, g_seq, g_seq_next, g_seq_ret, g_seq_err, g_seq_brk, g_seq_cnt, g_skip, g_ret, g_kRet, g_drop, g_kDrop, g_ifS, g_kIfS_t, g_kIfS_f, g_asg, g_kAsg, g_kAsg2, g_kAsg3, g_for, g_kFor, g_lc, g_seqI, g_itemsL, g_itemsT, g_rng1, g_revR1, g_enum, g_kEnum, g_wipe, g_wipe_next, g_wipe_ret, g_wipe_err, g_addI, g_subI, g_ltI, g_leI, g_gtI, g_geI, g_eqI, g_neI, g_eqS, g_neS, g_eqB, g_neB, g_neg, g_intI, g_intB, g_lenT, g_lenL, g_isN, g_yes, g_truL, g_truI, g_isNon_tup, g_isNon_non, g_slT, g_slL, g_slS, g_listL, g_listT, g_tupleL, g_raise, g_raiseA, g_kRaise1, g_kRaise2, g_setF, g_kSetF, g_make, g_meth, g_kMeth2, g_fld, g_kFldD, g_tryA, g_tryA_next, g_tryA_ret, g_cast0, g_cast1, g_cast2, g_cast3, g_cast4, g_cast5, g_cast6, g_cast7, g_cast8, g_cast9, g_cast10, g_cast11, g_cast12, g_cast13, lk, List.set_cons_zero, List.set_cons_succ, Bool.not_true, Bool.not_false, decide_true, decide_false, Int.reduceEq, Int.reduceLT, Int.reduceLE, Int.reduceSub, Int.reduceAdd, Int.reduceNeg, Int.reduceToNat, Int.reduceNe, Nat.reduceAdd, Nat.reduceLT, Nat.reduceLeDiff, eq_self, if_true, if_false, str_eq, String.reduceEq, isTy, String.reduceBEq, Bool.true_or, Bool.false_or, Bool.or_true, Bool.or_false, Bool.and_true, Bool.true_and, Bool.and_false, Bool.false_and, fIsi, fIsi2, kindOf, List.set_set, List.length_cons, List.length_nil, wipeE, beq_self_eq_true]
theorem same_ok (n : Nat) : ∀ {S : Sto} {d : D}, d.Pl → d.ht < n → m_L_same n [.dat d, .dat d] S = .ok (.dat (.bl true)) S := by
  induction n with
  | zero => intro S d _ h; omega
  | succ n ih =>
    intro S d hp hd
    rw [show m_L_same (n + 1) [.dat d, .dat d] S = ofOut (b_L_same (m_L_same n) [some (.dat d), some (.dat d), none] S) from rfl]
    unfold b_L_same
    cases d with
    | non => simp (config := { implicitDefEqProofs := false }) only [fEq_non, g_bind_ok, g_bind_err, g_toS_ok, g_toS_err, g_var, g_c, g_op, g_op1, g_1, g_B, g_unB, g_test, g_and, g_or, g_not, g_kand_t, g_kand_f, g_kor_t, g_kor_f, g_knot, g_andV, g_orV, g_kandV_t, g_kandV_f, g_korV_t, g_korV_f, g_notV, g_kNotV, g_kNV, g_orT, g_kOrT, g_kOrT_t, g_kOrT_f, g_tru_bl, g_chain, g_ch1, g_ch2, g_ch3_t, g_ch3_f, g_if, g_kif_t, g_kif_f, g_nil, g_cons, g_cons1, g_cons2, g_lst, g_tup, g_allD_nil, g_allD_cons, kTup0, kTup1, kTup2, kTup3, kTup4, kLst0, kLst1, kLst2, kLst3, g_newF, g_newT, g_call, g_sl, g_sl0, g_sl1, g_sl2, g_noP, g_part, g_kPart, g_frz, g_app, g_seq, g_seq_next, g_seq_ret, g_seq_err, g_seq_brk, g_seq_cnt, g_skip, g_ret, g_kRet, g_drop, g_kDrop, g_ifS, g_kIfS_t, g_kIfS_f, g_asg, g_kAsg, g_kAsg2, g_kAsg3, g_for, g_kFor, g_lc, g_seqI, g_itemsL, g_itemsT, g_rng1, g_revR1, g_enum, g_kEnum, g_wipe, g_wipe_next, g_wipe_ret, g_wipe_err, g_addI, g_subI, g_ltI, g_leI, g_gtI, g_geI, g_eqI, g_neI, g_eqS, g_neS, g_eqB, g_neB, g_neg, g_intI, g_intB, g_lenT, g_lenL, g_isN, g_yes, g_truL, g_truI, g_isNon_tup, g_isNon_non, g_slT, g_slL, g_slS, g_listL, g_listT, g_tupleL, g_raise, g_raiseA, g_kRaise1, g_kRaise2, g_setF, g_kSetF, g_make, g_meth, g_kMeth2, g_fld, g_kFldD, g_tryA, g_tryA_next, g_tryA_ret, g_cast0, g_cast1, g_cast2, g_cast3, g_cast4, g_cast5, g_cast6, g_cast7, g_cast8, g_cast9, g_cast10, g_cast11, g_cast12, g_cast13, lk, List.set_cons_zero, List.set_cons_succ, Bool.not_true, Bool.not_false, decide_true, decide_false, Int.reduceEq, Int.reduceLT, Int.reduceLE, Int.reduceSub, Int.reduceAdd, Int.reduceNeg, Int.reduceToNat, Int.reduceNe, Nat.reduceAdd, Nat.reduceLT, Nat.reduceLeDiff, eq_self, if_true, if_false, str_eq, String.reduceEq, isTy, String.reduceBEq, Bool.true_or, Bool.false_or, Bool.or_true, Bool.or_false, Bool.and_true, Bool.true_and, Bool.and_false, Bool.false_and, fIsi, fIsi2, kindOf, List.set_set, List.length_cons, List.length_nil, wipeE, beq_self_eq_true]; rfl
    | bl b => simp (config := { implicitDefEqProofs := false }) only [g_bind_ok, g_bind_err, g_toS_ok, g_toS_err, g_var, g_c, g_op, g_op1, g_1, g_B, g_unB, g_test, g_and, g_or, g_not, g_kand_t, g_kand_f, g_kor_t, g_kor_f, g_knot, g_andV, g_orV, g_kandV_t, g_kandV_f, g_korV_t, g_korV_f, g_notV, g_kNotV, g_kNV, g_orT, g_kOrT, g_kOrT_t, g_kOrT_f, g_tru_bl, g_chain, g_ch1, g_ch2, g_ch3_t, g_ch3_f, g_if, g_kif_t, g_kif_f, g_nil, g_cons, g_cons1, g_cons2, g_lst, g_tup, g_allD_nil, g_allD_cons, kTup0, kTup1, kTup2, kTup3, kTup4, kLst0, kLst1, kLst2, kLst3, g_newF, g_newT, g_call, g_sl, g_sl0, g_sl1, g_sl2, g_noP, g_part, g_kPart, g_frz, g_app, g_seq, g_seq_next, g_seq_ret, g_seq_err, g_seq_brk, g_seq_cnt, g_skip, g_ret, g_kRet, g_drop, g_kDrop, g_ifS, g_kIfS_t, g_kIfS_f, g_asg, g_kAsg, g_kAsg2, g_kAsg3, g_for, g_kFor, g_lc, g_seqI, g_itemsL, g_itemsT, g_rng1, g_revR1, g_enum, g_kEnum, g_wipe, g_wipe_next, g_wipe_ret, g_wipe_err, g_addI, g_subI, g_ltI, g_leI, g_gtI, g_geI, g_eqI, g_neI, g_eqS, g_neS, g_eqB, g_neB, g_neg, g_intI, g_intB, g_lenT, g_lenL, g_isN, g_yes, g_truL, g_truI, g_isNon_tup, g_isNon_non, g_slT, g_slL, g_slS, g_listL, g_listT, g_tupleL, g_raise, g_raiseA, g_kRaise1, g_kRaise2, g_setF, g_kSetF, g_make, g_meth, g_kMeth2, g_fld, g_kFldD, g_tryA, g_tryA_next, g_tryA_ret, g_cast0, g_cast1, g_cast2, g_cast3, g_cast4, g_cast5, g_cast6, g_cast7, g_cast8, g_cast9, g_cast10, g_cast11, g_cast12, g_cast13, lk, List.set_cons_zero, List.set_cons_succ, Bool.not_true, Bool.not_false, decide_true, decide_false, Int.reduceEq, Int.reduceLT, Int.reduceLE, Int.reduceSub, Int.reduceAdd, Int.reduceNeg, Int.reduceToNat, Int.reduceNe, Nat.reduceAdd, Nat.reduceLT, Nat.reduceLeDiff, eq_self, if_true, if_false, str_eq, String.reduceEq, isTy, String.reduceBEq, Bool.true_or, Bool.false_or, Bool.or_true, Bool.or_false, Bool.and_true, Bool.true_and, Bool.and_false, Bool.false_and, fIsi, fIsi2, kindOf, List.set_set, List.length_cons, List.length_nil, wipeE, beq_self_eq_true]; rfl
    | int i => simp (config := { implicitDefEqProofs := false }) only [g_bind_ok, g_bind_err, g_toS_ok, g_toS_err, g_var, g_c, g_op, g_op1, g_1, g_B, g_unB, g_test, g_and, g_or, g_not, g_kand_t, g_kand_f, g_kor_t, g_kor_f, g_knot, g_andV, g_orV, g_kandV_t, g_kandV_f, g_korV_t, g_korV_f, g_notV, g_kNotV, g_kNV, g_orT, g_kOrT, g_kOrT_t, g_kOrT_f, g_tru_bl, g_chain, g_ch1, g_ch2, g_ch3_t, g_ch3_f, g_if, g_kif_t, g_kif_f, g_nil, g_cons, g_cons1, g_cons2, g_lst, g_tup, g_allD_nil, g_allD_cons, kTup0, kTup1, kTup2, kTup3, kTup4, kLst0, kLst1, kLst2, kLst3, g_newF, g_newT, g_call, g_sl, g_sl0, g_sl1, g_sl2, g_noP, g_part, g_kPart, g_frz, g_app, g_seq, g_seq_next, g_seq_ret, g_seq_err, g_seq_brk, g_seq_cnt, g_skip, g_ret, g_kRet, g_drop, g_kDrop, g_ifS, g_kIfS_t, g_kIfS_f, g_asg, g_kAsg, g_kAsg2, g_kAsg3, g_for, g_kFor, g_lc, g_seqI, g_itemsL, g_itemsT, g_rng1, g_revR1, g_enum, g_kEnum, g_wipe, g_wipe_next, g_wipe_ret, g_wipe_err, g_addI, g_subI, g_ltI, g_leI, g_gtI, g_geI, g_eqI, g_neI, g_eqS, g_neS, g_eqB, g_neB, g_neg, g_intI, g_intB, g_lenT, g_lenL, g_isN, g_yes, g_truL, g_truI, g_isNon_tup, g_isNon_non, g_slT, g_slL, g_slS, g_listL, g_listT, g_tupleL, g_raise, g_raiseA, g_kRaise1, g_kRaise2, g_setF, g_kSetF, g_make, g_meth, g_kMeth2, g_fld, g_kFldD, g_tryA, g_tryA_next, g_tryA_ret, g_cast0, g_cast1, g_cast2, g_cast3, g_cast4, g_cast5, g_cast6, g_cast7, g_cast8, g_cast9, g_cast10, g_cast11, g_cast12, g_cast13, lk, List.set_cons_zero, List.set_cons_succ, Bool.not_true, Bool.not_false, decide_true, decide_false, Int.reduceEq, Int.reduceLT, Int.reduceLE, Int.reduceSub, Int.reduceAdd, Int.reduceNeg, Int.reduceToNat, Int.reduceNe, Nat.reduceAdd, Nat.reduceLT, Nat.reduceLeDiff, eq_self, if_true, if_false, str_eq, String.reduceEq, isTy, String.reduceBEq, Bool.true_or, Bool.false_or, Bool.or_true, Bool.or_false, Bool.and_true, Bool.true_and, Bool.and_false, Bool.false_and, fIsi, fIsi2, kindOf, List.set_set, List.length_cons, List.length_nil, wipeE, beq_self_eq_true]; rfl
    | str x => simp (config := { implicitDefEqProofs := false }) only [g_bind_ok, g_bind_err, g_toS_ok, g_toS_err, g_var, g_c, g_op, g_op1, g_1, g_B, g_unB, g_test, g_and, g_or, g_not, g_kand_t, g_kand_f, g_kor_t, g_kor_f, g_knot, g_andV, g_orV, g_kandV_t, g_kandV_f, g_korV_t, g_korV_f, g_notV, g_kNotV, g_kNV, g_orT, g_kOrT, g_kOrT_t, g_kOrT_f, g_tru_bl, g_chain, g_ch1, g_ch2, g_ch3_t, g_ch3_f, g_if, g_kif_t, g_kif_f, g_nil, g_cons, g_cons1, g_cons2, g_lst, g_tup, g_allD_nil, g_allD_cons, kTup0, kTup1, kTup2, kTup3, kTup4, kLst0, kLst1, kLst2, kLst3, g_newF, g_newT, g_call, g_sl, g_sl0, g_sl1, g_sl2, g_noP, g_part, g_kPart, g_frz, g_app, g_seq, g_seq_next, g_seq_ret, g_seq_err, g_seq_brk, g_seq_cnt, g_skip, g_ret, g_kRet, g_drop, g_kDrop, g_ifS, g_kIfS_t, g_kIfS_f, g_asg, g_kAsg, g_kAsg2, g_kAsg3, g_for, g_kFor, g_lc, g_seqI, g_itemsL, g_itemsT, g_rng1, g_revR1, g_enum, g_kEnum, g_wipe, g_wipe_next, g_wipe_ret, g_wipe_err, g_addI, g_subI, g_ltI, g_leI, g_gtI, g_geI, g_eqI, g_neI, g_eqS, g_neS, g_eqB, g_neB, g_neg, g_intI, g_intB, g_lenT, g_lenL, g_isN, g_yes, g_truL, g_truI, g_isNon_tup, g_isNon_non, g_slT, g_slL, g_slS, g_listL, g_listT, g_tupleL, g_raise, g_raiseA, g_kRaise1, g_kRaise2, g_setF, g_kSetF, g_make, g_meth, g_kMeth2, g_fld, g_kFldD, g_tryA, g_tryA_next, g_tryA_ret, g_cast0, g_cast1, g_cast2, g_cast3, g_cast4, g_cast5, g_cast6, g_cast7, g_cast8, g_cast9, g_cast10, g_cast11, g_cast12, g_cast13, lk, List.set_cons_zero, List.set_cons_succ, Bool.not_true, Bool.not_false, decide_true, decide_false, Int.reduceEq, Int.reduceLT, Int.reduceLE, Int.reduceSub, Int.reduceAdd, Int.reduceNeg, Int.reduceToNat, Int.reduceNe, Nat.reduceAdd, Nat.reduceLT, Nat.reduceLeDiff, eq_self, if_true, if_false, str_eq, String.reduceEq, isTy, String.reduceBEq, Bool.true_or, Bool.false_or, Bool.or_true, Bool.or_false, Bool.and_true, Bool.true_and, Bool.and_false, Bool.false_and, fIsi, fIsi2, kindOf, List.set_set, List.length_cons, List.length_nil, wipeE, beq_self_eq_true]; rfl
    | ins _ _ _ => exact hp.elim
    | dct => exact hp.elim
    | lst xs =>
      have hl := hp.1
      simp (config := { implicitDefEqProofs := false }) only [g_kRng1 (show -(2 ^ 62) ≤ (xs.length : Int) by omega) (show (xs.length : Int) < 2 ^ 62 by omega), rngD, Int.toNat_natCast, g_bind_ok, g_bind_err, g_toS_ok, g_toS_err, g_var, g_c, g_op, g_op1, g_1, g_B, g_unB, g_test, g_and, g_or, g_not, g_kand_t, g_kand_f, g_kor_t, g_kor_f, g_knot, g_andV, g_orV, g_kandV_t, g_kandV_f, g_korV_t, g_korV_f, g_notV, g_kNotV, g_kNV, g_orT, g_kOrT, g_kOrT_t, g_kOrT_f, g_tru_bl, g_chain, g_ch1, g_ch2, g_ch3_t, g_ch3_f, g_if, g_kif_t, g_kif_f, g_nil, g_cons, g_cons1, g_cons2, g_lst, g_tup, g_allD_nil, g_allD_cons, kTup0, kTup1, kTup2, kTup3, kTup4, kLst0, kLst1, kLst2, kLst3, g_newF, g_newT, g_call, g_sl, g_sl0, g_sl1, g_sl2, g_noP, g_part, g_kPart, g_frz, g_app, g_seq, g_seq_next, g_seq_ret, g_seq_err, g_seq_brk, g_seq_cnt, g_skip, g_ret, g_kRet, g_drop, g_kDrop, g_ifS, g_kIfS_t, g_kIfS_f, g_asg, g_kAsg, g_kAsg2, g_kAsg3, g_for, g_kFor, g_lc, g_seqI, g_itemsL, g_itemsT, g_rng1, g_revR1, g_enum, g_kEnum, g_wipe, g_wipe_next, g_wipe_ret, g_wipe_err, g_addI, g_subI, g_ltI, g_leI, g_gtI, g_geI, g_eqI, g_neI, g_eqS, g_neS, g_eqB, g_neB, g_neg, g_intI, g_intB, g_lenT, g_lenL, g_isN, g_yes, g_truL, g_truI, g_isNon_tup, g_isNon_non, g_slT, g_slL, g_slS, g_listL, g_listT, g_tupleL, g_raise, g_raiseA, g_kRaise1, g_kRaise2, g_setF, g_kSetF, g_make, g_meth, g_kMeth2, g_fld, g_kFldD, g_tryA, g_tryA_next, g_tryA_ret, g_cast0, g_cast1, g_cast2, g_cast3, g_cast4, g_cast5, g_cast6, g_cast7, g_cast8, g_cast9, g_cast10, g_cast11, g_cast12, g_cast13, lk, List.set_cons_zero, List.set_cons_succ, Bool.not_true, Bool.not_false, decide_true, decide_false, Int.reduceEq, Int.reduceLT, Int.reduceLE, Int.reduceSub, Int.reduceAdd, Int.reduceNeg, Int.reduceToNat, Int.reduceNe, Nat.reduceAdd, Nat.reduceLT, Nat.reduceLeDiff, eq_self, if_true, if_false, str_eq, String.reduceEq, isTy, String.reduceBEq, Bool.true_or, Bool.false_or, Bool.or_true, Bool.or_false, Bool.and_true, Bool.true_and, Bool.and_false, Bool.false_and, fIsi, fIsi2, kindOf, List.set_set, List.length_cons, List.length_nil, wipeE, beq_self_eq_true]
      rw [kLc_map (g := fun _ => D.bl true) (sz (by simp; omega)) fun i hi => ⟨_, rfl, ?_⟩]
      · simp (config := { implicitDefEqProofs := false }) only [g_bind_ok, g_bind_err, g_toS_ok, g_toS_err, g_var, g_c, g_op, g_op1, g_1, g_B, g_unB, g_test, g_and, g_or, g_not, g_kand_t, g_kand_f, g_kor_t, g_kor_f, g_knot, g_andV, g_orV, g_kandV_t, g_kandV_f, g_korV_t, g_korV_f, g_notV, g_kNotV, g_kNV, g_orT, g_kOrT, g_kOrT_t, g_kOrT_f, g_tru_bl, g_chain, g_ch1, g_ch2, g_ch3_t, g_ch3_f, g_if, g_kif_t, g_kif_f, g_nil, g_cons, g_cons1, g_cons2, g_lst, g_tup, g_allD_nil, g_allD_cons, kTup0, kTup1, kTup2, kTup3, kTup4, kLst0, kLst1, kLst2, kLst3, g_newF, g_newT, g_call, g_sl, g_sl0, g_sl1, g_sl2, g_noP, g_part, g_kPart, g_frz, g_app, g_seq, g_seq_next, g_seq_ret, g_seq_err, g_seq_brk, g_seq_cnt, g_skip, g_ret, g_kRet, g_drop, g_kDrop, g_ifS, g_kIfS_t, g_kIfS_f, g_asg, g_kAsg, g_kAsg2, g_kAsg3, g_for, g_kFor, g_lc, g_seqI, g_itemsL, g_itemsT, g_rng1, g_revR1, g_enum, g_kEnum, g_wipe, g_wipe_next, g_wipe_ret, g_wipe_err, g_addI, g_subI, g_ltI, g_leI, g_gtI, g_geI, g_eqI, g_neI, g_eqS, g_neS, g_eqB, g_neB, g_neg, g_intI, g_intB, g_lenT, g_lenL, g_isN, g_yes, g_truL, g_truI, g_isNon_tup, g_isNon_non, g_slT, g_slL, g_slS, g_listL, g_listT, g_tupleL, g_raise, g_raiseA, g_kRaise1, g_kRaise2, g_setF, g_kSetF, g_make, g_meth, g_kMeth2, g_fld, g_kFldD, g_tryA, g_tryA_next, g_tryA_ret, g_cast0, g_cast1, g_cast2, g_cast3, g_cast4, g_cast5, g_cast6, g_cast7, g_cast8, g_cast9, g_cast10, g_cast11, g_cast12, g_cast13, lk, List.set_cons_zero, List.set_cons_succ, Bool.not_true, Bool.not_false, decide_true, decide_false, Int.reduceEq, Int.reduceLT, Int.reduceLE, Int.reduceSub, Int.reduceAdd, Int.reduceNeg, Int.reduceToNat, Int.reduceNe, Nat.reduceAdd, Nat.reduceLT, Nat.reduceLeDiff, eq_self, if_true, if_false, str_eq, String.reduceEq, isTy, String.reduceBEq, Bool.true_or, Bool.false_or, Bool.or_true, Bool.or_false, Bool.and_true, Bool.true_and, Bool.and_false, Bool.false_and, fIsi, fIsi2, kindOf, List.set_set, List.length_cons, List.length_nil, wipeE, beq_self_eq_true]
        rw [all_true]
        rfl
      · have hi' : i < xs.length := List.mem_range.mp hi
        have hx : xs[i]? = some xs[i] := List.getElem?_eq_getElem hi'
        have hm : xs[i] ∈ xs := List.getElem_mem hi'
        have := ht_mem hm
        have hd' : D.hts xs + 1 < n + 1 := hd
        exact same_el (n := n) hx (g_ixL (by rw [atI_nat' (n := i) (by omega), hx])) (ih (pl_mem hp.2 hm) (by omega))
    | tup xs =>
      have hl := hp.1
      simp (config := { implicitDefEqProofs := false }) only [g_kRng1 (show -(2 ^ 62) ≤ (xs.length : Int) by omega) (show (xs.length : Int) < 2 ^ 62 by omega), rngD, Int.toNat_natCast, g_bind_ok, g_bind_err, g_toS_ok, g_toS_err, g_var, g_c, g_op, g_op1, g_1, g_B, g_unB, g_test, g_and, g_or, g_not, g_kand_t, g_kand_f, g_kor_t, g_kor_f, g_knot, g_andV, g_orV, g_kandV_t, g_kandV_f, g_korV_t, g_korV_f, g_notV, g_kNotV, g_kNV, g_orT, g_kOrT, g_kOrT_t, g_kOrT_f, g_tru_bl, g_chain, g_ch1, g_ch2, g_ch3_t, g_ch3_f, g_if, g_kif_t, g_kif_f, g_nil, g_cons, g_cons1, g_cons2, g_lst, g_tup, g_allD_nil, g_allD_cons, kTup0, kTup1, kTup2, kTup3, kTup4, kLst0, kLst1, kLst2, kLst3, g_newF, g_newT, g_call, g_sl, g_sl0, g_sl1, g_sl2, g_noP, g_part, g_kPart, g_frz, g_app, g_seq, g_seq_next, g_seq_ret, g_seq_err, g_seq_brk, g_seq_cnt, g_skip, g_ret, g_kRet, g_drop, g_kDrop, g_ifS, g_kIfS_t, g_kIfS_f, g_asg, g_kAsg, g_kAsg2, g_kAsg3, g_for, g_kFor, g_lc, g_seqI, g_itemsL, g_itemsT, g_rng1, g_revR1, g_enum, g_kEnum, g_wipe, g_wipe_next, g_wipe_ret, g_wipe_err, g_addI, g_subI, g_ltI, g_leI, g_gtI, g_geI, g_eqI, g_neI, g_eqS, g_neS, g_eqB, g_neB, g_neg, g_intI, g_intB, g_lenT, g_lenL, g_isN, g_yes, g_truL, g_truI, g_isNon_tup, g_isNon_non, g_slT, g_slL, g_slS, g_listL, g_listT, g_tupleL, g_raise, g_raiseA, g_kRaise1, g_kRaise2, g_setF, g_kSetF, g_make, g_meth, g_kMeth2, g_fld, g_kFldD, g_tryA, g_tryA_next, g_tryA_ret, g_cast0, g_cast1, g_cast2, g_cast3, g_cast4, g_cast5, g_cast6, g_cast7, g_cast8, g_cast9, g_cast10, g_cast11, g_cast12, g_cast13, lk, List.set_cons_zero, List.set_cons_succ, Bool.not_true, Bool.not_false, decide_true, decide_false, Int.reduceEq, Int.reduceLT, Int.reduceLE, Int.reduceSub, Int.reduceAdd, Int.reduceNeg, Int.reduceToNat, Int.reduceNe, Nat.reduceAdd, Nat.reduceLT, Nat.reduceLeDiff, eq_self, if_true, if_false, str_eq, String.reduceEq, isTy, String.reduceBEq, Bool.true_or, Bool.false_or, Bool.or_true, Bool.or_false, Bool.and_true, Bool.true_and, Bool.and_false, Bool.false_and, fIsi, fIsi2, kindOf, List.set_set, List.length_cons, List.length_nil, wipeE, beq_self_eq_true]
      rw [kLc_map (g := fun _ => D.bl true) (sz (by simp; omega)) fun i hi => ⟨_, rfl, ?_⟩]
      · simp (config := { implicitDefEqProofs := false }) only [g_bind_ok, g_bind_err, g_toS_ok, g_toS_err, g_var, g_c, g_op, g_op1, g_1, g_B, g_unB, g_test, g_and, g_or, g_not, g_kand_t, g_kand_f, g_kor_t, g_kor_f, g_knot, g_andV, g_orV, g_kandV_t, g_kandV_f, g_korV_t, g_korV_f, g_notV, g_kNotV, g_kNV, g_orT, g_kOrT, g_kOrT_t, g_kOrT_f, g_tru_bl, g_chain, g_ch1, g_ch2, g_ch3_t, g_ch3_f, g_if, g_kif_t, g_kif_f, g_nil, g_cons, g_cons1, g_cons2, g_lst, g_tup, g_allD_nil, g_allD_cons, kTup0, kTup1, kTup2, kTup3, kTup4, kLst0, kLst1, kLst2, kLst3, g_newF, g_newT, g_call, g_sl, g_sl0, g_sl1, g_sl2, g_noP, g_part, g_kPart, g_frz, g_app, g_seq, g_seq_next, g_seq_ret, g_seq_err, g_seq_brk, g_seq_cnt, g_skip, g_ret, g_kRet, g_drop, g_kDrop, g_ifS, g_kIfS_t, g_kIfS_f, g_asg, g_kAsg, g_kAsg2, g_kAsg3, g_for, g_kFor, g_lc, g_seqI, g_itemsL, g_itemsT, g_rng1, g_revR1, g_enum, g_kEnum, g_wipe, g_wipe_next, g_wipe_ret, g_wipe_err, g_addI, g_subI, g_ltI, g_leI, g_gtI, g_geI, g_eqI, g_neI, g_eqS, g_neS, g_eqB, g_neB, g_neg, g_intI, g_intB, g_lenT, g_lenL, g_isN, g_yes, g_truL, g_truI, g_isNon_tup, g_isNon_non, g_slT, g_slL, g_slS, g_listL, g_listT, g_tupleL, g_raise, g_raiseA, g_kRaise1, g_kRaise2, g_setF, g_kSetF, g_make, g_meth, g_kMeth2, g_fld, g_kFldD, g_tryA, g_tryA_next, g_tryA_ret, g_cast0, g_cast1, g_cast2, g_cast3, g_cast4, g_cast5, g_cast6, g_cast7, g_cast8, g_cast9, g_cast10, g_cast11, g_cast12, g_cast13, lk, List.set_cons_zero, List.set_cons_succ, Bool.not_true, Bool.not_false, decide_true, decide_false, Int.reduceEq, Int.reduceLT, Int.reduceLE, Int.reduceSub, Int.reduceAdd, Int.reduceNeg, Int.reduceToNat, Int.reduceNe, Nat.reduceAdd, Nat.reduceLT, Nat.reduceLeDiff, eq_self, if_true, if_false, str_eq, String.reduceEq, isTy, String.reduceBEq, Bool.true_or, Bool.false_or, Bool.or_true, Bool.or_false, Bool.and_true, Bool.true_and, Bool.and_false, Bool.false_and, fIsi, fIsi2, kindOf, List.set_set, List.length_cons, List.length_nil, wipeE, beq_self_eq_true]
        rw [all_true]
        rfl
      · have hi' : i < xs.length := List.mem_range.mp hi
        have hx : xs[i]? = some xs[i] := List.getElem?_eq_getElem hi'
        have hm : xs[i] ∈ xs := List.getElem_mem hi'
        have := ht_mem hm
        have hd' : D.hts xs + 1 < n + 1 := hd
        exact same_el (n := n) hx (g_ixT (by rw [atI_nat' (n := i) (by omega), hx])) (ih (pl_mem hp.2 hm) (by omega))
end PH

namespace PH
open PySem PySem.Spec PyProof PyProof.Rows L2
mutual
theorem ffS_path {many : Int} : ∀ (s : Stt) {lv met : Int} {here p : List Int} {m : Int} {k : Nat}, s.Ok many k → ffS lv here s met = .fault p m → here.length < p.length ∧ p.length ≤ here.length + 2 * k
  | .cmd c, lv, met, here, p, m, k, h, e => by cases e
  | .fin c, lv, met, here, p, m, k, h, e => by cases e
  | .bad, lv, met, here, p, m, k, h, e => by cases e
  | .keep b, lv, met, here, p, m, k, h, e => by
    have := ffL_path b h.2 (show ffL (lv + 1) (here ++ [0]) 0 b met = .fault p m from e)
    have := h.1
    simp at *
    omega
  | .again b, lv, met, here, p, m, k, h, e => by
    have := ffL_path b h.2 (show ffL (lv + 1) (here ++ [0]) 0 b met = .fault p m from e)
    have := h.1
    simp at *
    omega
  | .either x y, lv, met, here, p, m, k, h, e => by
    have e' : (ffL (lv + 1) (here ++ [0]) 0 x met).then (ffL (lv + 1) (here ++ [1]) 0 y) = .fault p m := e
    have hk := h.1
    cases q : ffL (lv + 1) (here ++ [0]) 0 x met with
    | fault p1 m1 =>
      rw [q] at e'
      cases e'
      have := ffL_path x h.2.1 q
      simp at *
      omega
    | okk m1 =>
      rw [q] at e'
      have := ffL_path y h.2.2 (show ffL (lv + 1) (here ++ [1]) 0 y m1 = .fault p m from e')
      simp at *
      omega
  | .call g f x y, lv, met, here, p, m, k, h, e => by
    have e' : (ffL (lv + 1) (here ++ [0]) 0 x met).then (ffL (lv + 1) (here ++ [1]) 0 y) = .fault p m := e
    have hk := h.1.1
    cases q : ffL (lv + 1) (here ++ [0]) 0 x met with
    | fault p1 m1 =>
      rw [q] at e'
      cases e'
      have := ffL_path x h.2.1 q
      simp at *
      omega
    | okk m1 =>
      rw [q] at e'
      have := ffL_path y h.2.2 (show ffL (lv + 1) (here ++ [1]) 0 y m1 = .fault p m from e')
      simp at *
      omega
theorem ffL_path {many : Int} : ∀ (l : List Stt) {lv at_ met : Int} {path p : List Int} {m : Int} {k : Nat}, OkL many l k → ffL lv path at_ l met = .fault p m → path.length < p.length ∧ p.length ≤ path.length + 2 * k + 1
  | [], lv, at_, met, path, p, m, k, h, e => by cases e
  | s :: r, lv, at_, met, path, p, m, k, h, e => by
    rw [ffL] at e
    split at e
    · cases e
      simp
    · cases q : ffS lv (path ++ [at_]) s (met + 1) with
      | fault p1 m1 =>
        rw [q] at e
        cases e
        have := ffS_path s h.1.1 q
        simp at *
        omega
      | okk m1 =>
        rw [q] at e
        have := ffL_path r h.2 (show ffL lv path (at_ + 1) r m1 = .fault p m from e)
        omega
end
theorem rng_cons {lo : Int} {n : Nat} : rngD lo (n + 1) = .int lo :: rngD (lo + 1) n := by
  unfold rngD
  rw [List.range_succ_eq_map, List.map_cons, List.map_map]
  congr 1
  · simp
  · apply List.map_congr_left
    intro k _
    simp only [Function.comp]
    congr 1
    omega
abbrev rm (S : Sto) (q : Nat) (m : Int) : Sto := S.set q (.lst [.int m])
theorem ix_rm {S : Sto} {q : Nat} {m : Int} (h : q < S.length) : fIx (.cel q) (.dat (.int 0)) (rm S q m) = .ok (.dat (.int m)) (rm S q m) := ixC_int (k := 0) (n := 0) (ks := [m]) (by simp [rm, h]) rfl rfl
theorem aug_rm {S : Sto} {q : Nat} {m w : Int} {g : Int → Int → Int} {o i e : FE} {ρ : Ev} (h : q < S.length) (ho : o ρ (rm S q m) = .ok (.cel q) (rm S q m)) (hi : i ρ (rm S q m) = .ok (.dat (.int 0)) (rm S q m)) (he : e ρ (rm S q m) = .ok (.dat (.int w)) (rm S q m)) : mAugI g o i e ρ (rm S q m) = .next ρ (rm S q (g m w)) := by
  rw [augI_int (k := 0) (n := 0) (ks := [m]) ho hi he (by simp [rm, h]) rfl rfl]
  simp [rm]
def lfD (r : FR) (S : Sto) (q : Nat) : Res Vl := match r with
  | .fault p m => .ok (.dat (tupI p)) (rm S q m)
  | .okk m => .ok (.dat (tupI [])) (rm S q m)
def LFaultOk (n : Nat) : Prop := ∀ {S : Sto} {q : Nat} {l : List Stt} {lv many met : Int} {path : List Int} {k : Nat}, OkL many l k → k ≤ 9 → q < S.length → 0 ≤ lv → lv ≤ 3 → path.length ≤ 2 * lv.toNat → 4 - lv.toNat ≤ n →
  m_L_fault n [.dat (.lst (dsOf l)), .dat (.int lv), .dat (tupI path), .cel q] (rm S q met) = lfD (ffL lv path 0 l met) S q
theorem tup_nil : D.tup [] = tupI [] := rfl
theorem lf_in {n : Nat} (ih : LFaultOk n) {S : Sto} {q : Nat} {s : Stt} {lv many met : Int} {path : List Int} {k : Nat} {a0 a2 a4 a6 : Option Vl} (h : s.Ok many k) (hk : k ≤ 9) (hq : q < S.length) (h0 : 0 ≤ lv) (h3 : lv < 3) (hp : path.length ≤ 2 * lv.toNat + 1) (hn : 4 - (lv + 1).toNat ≤ n) :
    loop (.nm 8) (w_L_fault_1 (m_L_fault n)) (rngD 0 s.blocks.length) [a0, some (.dat (.int lv)), a2, some (.cel q), a4, some (.dat (tupI path)), a6, some (.dat (.lst (bls s.blocks))), none, none] (rm S q met) =
      match ffS lv path s met with
      | .fault p m => .ret (.dat (tupI p)) (rm S q m)
      | .okk m => .next [a0, some (.dat (.int lv)), a2, some (.cel q), a4, some (.dat (tupI path)), a6, some (.dat (.lst (bls s.blocks))), none, none] (rm S q m) := by
  have one : ∀ {l : List Stt} {bs r : List D} {met : Int} {i : Int}, OkL many l (k - 1) → atI bs i = some (.lst (dsOf l)) → loop (.nm 8) (w_L_fault_1 (m_L_fault n)) (.int i :: r) [a0, some (.dat (.int lv)), a2, some (.cel q), a4, some (.dat (tupI path)), a6, some (.dat (.lst bs)), none, none] (rm S q met) =
      match ffL (lv + 1) (path ++ [i]) 0 l met with
      | .fault p m => .ret (.dat (tupI p)) (rm S q m)
      | .okk m => loop (.nm 8) (w_L_fault_1 (m_L_fault n)) r [a0, some (.dat (.int lv)), a2, some (.cel q), a4, some (.dat (tupI path)), a6, some (.dat (.lst bs)), none, none] (rm S q m) := fun {l bs r met i} hl hb => by
    have e := ih (met := met) (path := path ++ [i]) hl (by omega) hq (show 0 ≤ lv + 1 by omega) (by omega) (by simp; omega) hn
    rw [loop]
    simp only [tgF, putEv, List.length_cons, List.length_nil, if_true, List.set_cons_succ, List.set_cons_zero]
    rw [w_L_fault_1]
    simp (config := { implicitDefEqProofs := false }) only [add_path (show path.length ≤ 100 by omega), g_ixL hb, e, g_bind_ok, g_bind_err, g_toS_ok, g_toS_err, g_var, g_c, g_op, g_op1, g_1, g_B, g_unB, g_test, g_and, g_or, g_not, g_kand_t, g_kand_f, g_kor_t, g_kor_f, g_knot, g_andV, g_orV, g_kandV_t, g_kandV_f, g_korV_t, g_korV_f, g_notV, g_kNotV, g_kNV, g_orT, g_kOrT, g_kOrT_t, g_kOrT_f, g_tru_bl, g_chain, g_ch1, g_ch2, g_ch3_t, g_ch3_f, g_if, g_kif_t, g_kif_f, g_nil, g_cons, g_cons1, g_cons2, g_lst, g_tup, g_allD_nil, g_allD_cons, kTup0, kTup1, kTup2, kTup3, kTup4, kLst0, kLst1, kLst2, kLst3, g_newF, g_newT, g_call, g_sl, g_sl0, g_sl1, g_sl2, g_noP, g_part, g_kPart, g_frz, g_app, g_seq, g_seq_next, g_seq_ret, g_seq_err, g_seq_brk, g_seq_cnt, g_skip, g_ret, g_kRet, g_drop, g_kDrop, g_ifS, g_kIfS_t, g_kIfS_f, g_asg, g_kAsg, g_kAsg2, g_kAsg3, g_for, g_kFor, g_lc, g_seqI, g_itemsL, g_itemsT, g_rng1, g_revR1, g_enum, g_kEnum, g_wipe, g_wipe_next, g_wipe_ret, g_wipe_err, g_addI, g_subI, g_ltI, g_leI, g_gtI, g_geI, g_eqI, g_neI, g_eqS, g_neS, g_eqB, g_neB, g_neg, g_intI, g_intB, g_lenT, g_lenL, g_isN, g_yes, g_truL, g_truI, g_isNon_tup, g_isNon_non, g_slT, g_slL, g_slS, g_listL, g_listT, g_tupleL, g_raise, g_raiseA, g_kRaise1, g_kRaise2, g_setF, g_kSetF, g_make, g_meth, g_kMeth2, g_fld, g_kFldD, g_tryA, g_tryA_next, g_tryA_ret, g_cast0, g_cast1, g_cast2, g_cast3, g_cast4, g_cast5, g_cast6, g_cast7, g_cast8, g_cast9, g_cast10, g_cast11, g_cast12, g_cast13, lk, List.set_cons_zero, List.set_cons_succ, Bool.not_true, Bool.not_false, decide_true, decide_false, Int.reduceEq, Int.reduceLT, Int.reduceLE, Int.reduceSub, Int.reduceAdd, Int.reduceNeg, Int.reduceToNat, Int.reduceNe, Nat.reduceAdd, Nat.reduceLT, Nat.reduceLeDiff, eq_self, if_true, if_false, str_eq, String.reduceEq, isTy, String.reduceBEq, Bool.true_or, Bool.false_or, Bool.or_true, Bool.or_false, Bool.and_true, Bool.true_and, Bool.and_false, Bool.false_and, fIsi, fIsi2, kindOf, List.set_set, List.length_cons, List.length_nil, wipeE, beq_self_eq_true]
    cases q1 : ffL (lv + 1) (path ++ [i]) 0 l met with
    | fault p m =>
      have hh := ffL_path l hl q1
      simp only [List.length_append, List.length_cons, List.length_nil] at hh
      have he : p.isEmpty = false := by cases p with | nil => simp at hh | cons _ _ => rfl
      simp (config := { implicitDefEqProofs := false }) only [lfD, path_ne (show p.length ≤ 100 by omega), he, g_bind_ok, g_bind_err, g_toS_ok, g_toS_err, g_var, g_c, g_op, g_op1, g_1, g_B, g_unB, g_test, g_and, g_or, g_not, g_kand_t, g_kand_f, g_kor_t, g_kor_f, g_knot, g_andV, g_orV, g_kandV_t, g_kandV_f, g_korV_t, g_korV_f, g_notV, g_kNotV, g_kNV, g_orT, g_kOrT, g_kOrT_t, g_kOrT_f, g_tru_bl, g_chain, g_ch1, g_ch2, g_ch3_t, g_ch3_f, g_if, g_kif_t, g_kif_f, g_nil, g_cons, g_cons1, g_cons2, g_lst, g_tup, g_allD_nil, g_allD_cons, kTup0, kTup1, kTup2, kTup3, kTup4, kLst0, kLst1, kLst2, kLst3, g_newF, g_newT, g_call, g_sl, g_sl0, g_sl1, g_sl2, g_noP, g_part, g_kPart, g_frz, g_app, g_seq, g_seq_next, g_seq_ret, g_seq_err, g_seq_brk, g_seq_cnt, g_skip, g_ret, g_kRet, g_drop, g_kDrop, g_ifS, g_kIfS_t, g_kIfS_f, g_asg, g_kAsg, g_kAsg2, g_kAsg3, g_for, g_kFor, g_lc, g_seqI, g_itemsL, g_itemsT, g_rng1, g_revR1, g_enum, g_kEnum, g_wipe, g_wipe_next, g_wipe_ret, g_wipe_err, g_addI, g_subI, g_ltI, g_leI, g_gtI, g_geI, g_eqI, g_neI, g_eqS, g_neS, g_eqB, g_neB, g_neg, g_intI, g_intB, g_lenT, g_lenL, g_isN, g_yes, g_truL, g_truI, g_isNon_tup, g_isNon_non, g_slT, g_slL, g_slS, g_listL, g_listT, g_tupleL, g_raise, g_raiseA, g_kRaise1, g_kRaise2, g_setF, g_kSetF, g_make, g_meth, g_kMeth2, g_fld, g_kFldD, g_tryA, g_tryA_next, g_tryA_ret, g_cast0, g_cast1, g_cast2, g_cast3, g_cast4, g_cast5, g_cast6, g_cast7, g_cast8, g_cast9, g_cast10, g_cast11, g_cast12, g_cast13, lk, List.set_cons_zero, List.set_cons_succ, Bool.not_true, Bool.not_false, decide_true, decide_false, Int.reduceEq, Int.reduceLT, Int.reduceLE, Int.reduceSub, Int.reduceAdd, Int.reduceNeg, Int.reduceToNat, Int.reduceNe, Nat.reduceAdd, Nat.reduceLT, Nat.reduceLeDiff, eq_self, if_true, if_false, str_eq, String.reduceEq, isTy, String.reduceBEq, Bool.true_or, Bool.false_or, Bool.or_true, Bool.or_false, Bool.and_true, Bool.true_and, Bool.and_false, Bool.false_and, fIsi, fIsi2, kindOf, List.set_set, List.length_cons, List.length_nil, wipeE, beq_self_eq_true]
    | okk m =>
      have e0 : ∀ S, fNe (.dat (tupI [])) (.dat (.tup [])) S = .ok (.dat (.bl false)) S := fun S => path_ne (p := []) (by simp)
      simp (config := { implicitDefEqProofs := false }) only [lfD, e0, g_bind_ok, g_bind_err, g_toS_ok, g_toS_err, g_var, g_c, g_op, g_op1, g_1, g_B, g_unB, g_test, g_and, g_or, g_not, g_kand_t, g_kand_f, g_kor_t, g_kor_f, g_knot, g_andV, g_orV, g_kandV_t, g_kandV_f, g_korV_t, g_korV_f, g_notV, g_kNotV, g_kNV, g_orT, g_kOrT, g_kOrT_t, g_kOrT_f, g_tru_bl, g_chain, g_ch1, g_ch2, g_ch3_t, g_ch3_f, g_if, g_kif_t, g_kif_f, g_nil, g_cons, g_cons1, g_cons2, g_lst, g_tup, g_allD_nil, g_allD_cons, kTup0, kTup1, kTup2, kTup3, kTup4, kLst0, kLst1, kLst2, kLst3, g_newF, g_newT, g_call, g_sl, g_sl0, g_sl1, g_sl2, g_noP, g_part, g_kPart, g_frz, g_app, g_seq, g_seq_next, g_seq_ret, g_seq_err, g_seq_brk, g_seq_cnt, g_skip, g_ret, g_kRet, g_drop, g_kDrop, g_ifS, g_kIfS_t, g_kIfS_f, g_asg, g_kAsg, g_kAsg2, g_kAsg3, g_for, g_kFor, g_lc, g_seqI, g_itemsL, g_itemsT, g_rng1, g_revR1, g_enum, g_kEnum, g_wipe, g_wipe_next, g_wipe_ret, g_wipe_err, g_addI, g_subI, g_ltI, g_leI, g_gtI, g_geI, g_eqI, g_neI, g_eqS, g_neS, g_eqB, g_neB, g_neg, g_intI, g_intB, g_lenT, g_lenL, g_isN, g_yes, g_truL, g_truI, g_isNon_tup, g_isNon_non, g_slT, g_slL, g_slS, g_listL, g_listT, g_tupleL, g_raise, g_raiseA, g_kRaise1, g_kRaise2, g_setF, g_kSetF, g_make, g_meth, g_kMeth2, g_fld, g_kFldD, g_tryA, g_tryA_next, g_tryA_ret, g_cast0, g_cast1, g_cast2, g_cast3, g_cast4, g_cast5, g_cast6, g_cast7, g_cast8, g_cast9, g_cast10, g_cast11, g_cast12, g_cast13, lk, List.set_cons_zero, List.set_cons_succ, Bool.not_true, Bool.not_false, decide_true, decide_false, Int.reduceEq, Int.reduceLT, Int.reduceLE, Int.reduceSub, Int.reduceAdd, Int.reduceNeg, Int.reduceToNat, Int.reduceNe, Nat.reduceAdd, Nat.reduceLT, Nat.reduceLeDiff, eq_self, if_true, if_false, str_eq, String.reduceEq, isTy, String.reduceBEq, Bool.true_or, Bool.false_or, Bool.or_true, Bool.or_false, Bool.and_true, Bool.true_and, Bool.and_false, Bool.false_and, fIsi, fIsi2, kindOf, List.set_set, List.length_cons, List.length_nil, wipeE, beq_self_eq_true]
  cases s with
  | cmd c => rfl
  | fin w => rfl
  | bad => rfl
  | keep x =>
    simp only [Stt.blocks, bls, List.map_nil, List.map_cons, List.length_cons, List.length_nil, rng_cons, ffS]
    rw [one h.2 rfl]
    cases ffL (lv + 1) (path ++ [0]) 0 x met <;> rfl
  | again x =>
    simp only [Stt.blocks, bls, List.map_nil, List.map_cons, List.length_cons, List.length_nil, rng_cons, ffS]
    rw [one h.2 rfl]
    cases ffL (lv + 1) (path ++ [0]) 0 x met <;> rfl
  | either x y =>
    simp only [Stt.blocks, bls, List.map_nil, List.map_cons, List.length_cons, List.length_nil, rng_cons, ffS]
    rw [one h.2.1 rfl]
    cases ffL (lv + 1) (path ++ [0]) 0 x met with
    | fault p m => rfl
    | okk m =>
      simp only [FR.then_okk]
      rw [show (0 : Int) + 1 = 1 from rfl, one h.2.2 rfl]
      cases ffL (lv + 1) (path ++ [1]) 0 y m <;> rfl
  | call g f x y =>
    simp only [Stt.blocks, bls, List.map_nil, List.map_cons, List.length_cons, List.length_nil, rng_cons, ffS]
    rw [one h.2.1 rfl]
    cases ffL (lv + 1) (path ++ [0]) 0 x met with
    | fault p m => rfl
    | okk m =>
      simp only [FR.then_okk]
      rw [show (0 : Int) + 1 = 1 from rfl, one h.2.2 rfl]
      cases ffL (lv + 1) (path ++ [1]) 0 y m <;> rfl
/-- what is well formed, in the law's words -/
theorem wf_law {s : Stt} {lv : Int} : s.wf lv = !(s.isBad || (decide (lv = 3) && decide (0 < s.blocks.length))) := by
  cases s <;> simp [Stt.wf, Stt.isBad, Stt.blocks]
theorem bls_len {bs : List (List Stt)} : (bls bs).length = bs.length := by simp [bls]
theorem lf_out {n : Nat} (ih : LFaultOk n) {S : Sto} {q : Nat} {l0 : List Stt} {lv many : Int} {path : List Int} {k : Nat} (hk : k ≤ 9) (hq : q < S.length) (h0 : 0 ≤ lv) (h3 : lv ≤ 3) (hp : path.length ≤ 2 * lv.toNat) (hn : 4 - (lv + 1).toNat ≤ n) :
    ∀ (l : List Stt) (at_ : Nat) (met : Int), OkL many l k → (∀ j, l0[at_ + j]? = l[j]?) → loop (.nm 4) (w_L_fault_2 (m_L_fault n)) (rngD (at_ : Int) l.length) [some (.dat (.lst (dsOf l0))), some (.dat (.int lv)), some (.dat (tupI path)), some (.cel q), none, none, none, none, none, none] (rm S q met) =
      match ffL lv path (at_ : Nat) l met with
      | .fault p m => .ret (.dat (tupI p)) (rm S q m)
      | .okk m => .next [some (.dat (.lst (dsOf l0))), some (.dat (.int lv)), some (.dat (tupI path)), some (.cel q), none, none, none, none, none, none] (rm S q m)
  | [], at_, met, _, _ => rfl
  | s :: r, at_, met, h, hj => by
    have rest := lf_out ih (S := S) (many := many) (k := k) (l0 := l0) hk hq h0 h3 hp hn r (at_ + 1)
    have ha : atI (dsOf l0) (at_ : Int) = some s.d := by
      rw [atI_nat' (n := at_) rfl, dsOf_map, List.getElem?_map]
      have := hj 0
      rw [Nat.add_zero] at this
      rw [this]
      rfl
    rw [List.length_cons, rng_cons, loop]
    simp only [tgF, putEv, List.length_cons, List.length_nil, if_true, List.set_cons_succ, List.set_cons_zero]
    rw [w_L_fault_2]
    simp (config := { implicitDefEqProofs := false }) only [add_path (show path.length ≤ 100 by omega), g_ixL ha, L_blocks, g_bind_ok, g_bind_err, g_toS_ok, g_toS_err, g_var, g_c, g_op, g_op1, g_1, g_B, g_unB, g_test, g_and, g_or, g_not, g_kand_t, g_kand_f, g_kor_t, g_kor_f, g_knot, g_andV, g_orV, g_kandV_t, g_kandV_f, g_korV_t, g_korV_f, g_notV, g_kNotV, g_kNV, g_orT, g_kOrT, g_kOrT_t, g_kOrT_f, g_tru_bl, g_chain, g_ch1, g_ch2, g_ch3_t, g_ch3_f, g_if, g_kif_t, g_kif_f, g_nil, g_cons, g_cons1, g_cons2, g_lst, g_tup, g_allD_nil, g_allD_cons, kTup0, kTup1, kTup2, kTup3, kTup4, kLst0, kLst1, kLst2, kLst3, g_newF, g_newT, g_call, g_sl, g_sl0, g_sl1, g_sl2, g_noP, g_part, g_kPart, g_frz, g_app, g_seq, g_seq_next, g_seq_ret, g_seq_err, g_seq_brk, g_seq_cnt, g_skip, g_ret, g_kRet, g_drop, g_kDrop, g_ifS, g_kIfS_t, g_kIfS_f, g_asg, g_kAsg, g_kAsg2, g_kAsg3, g_for, g_kFor, g_lc, g_seqI, g_itemsL, g_itemsT, g_rng1, g_revR1, g_enum, g_kEnum, g_wipe, g_wipe_next, g_wipe_ret, g_wipe_err, g_addI, g_subI, g_ltI, g_leI, g_gtI, g_geI, g_eqI, g_neI, g_eqS, g_neS, g_eqB, g_neB, g_neg, g_intI, g_intB, g_lenT, g_lenL, g_isN, g_yes, g_truL, g_truI, g_isNon_tup, g_isNon_non, g_slT, g_slL, g_slS, g_listL, g_listT, g_tupleL, g_raise, g_raiseA, g_kRaise1, g_kRaise2, g_setF, g_kSetF, g_make, g_meth, g_kMeth2, g_fld, g_kFldD, g_tryA, g_tryA_next, g_tryA_ret, g_cast0, g_cast1, g_cast2, g_cast3, g_cast4, g_cast5, g_cast6, g_cast7, g_cast8, g_cast9, g_cast10, g_cast11, g_cast12, g_cast13, lk, List.set_cons_zero, List.set_cons_succ, Bool.not_true, Bool.not_false, decide_true, decide_false, Int.reduceEq, Int.reduceLT, Int.reduceLE, Int.reduceSub, Int.reduceAdd, Int.reduceNeg, Int.reduceToNat, Int.reduceNe, Nat.reduceAdd, Nat.reduceLT, Nat.reduceLeDiff, eq_self, if_true, if_false, str_eq, String.reduceEq, isTy, String.reduceBEq, Bool.true_or, Bool.false_or, Bool.or_true, Bool.or_false, Bool.and_true, Bool.true_and, Bool.and_false, Bool.false_and, fIsi, fIsi2, kindOf, List.set_set, List.length_cons, List.length_nil, wipeE, beq_self_eq_true]
    by_cases h8 : ((at_ : Nat) : Int) = 8
    · simp (config := { implicitDefEqProofs := false }) only [decide_eq_true h8, g_bind_ok, g_bind_err, g_toS_ok, g_toS_err, g_var, g_c, g_op, g_op1, g_1, g_B, g_unB, g_test, g_and, g_or, g_not, g_kand_t, g_kand_f, g_kor_t, g_kor_f, g_knot, g_andV, g_orV, g_kandV_t, g_kandV_f, g_korV_t, g_korV_f, g_notV, g_kNotV, g_kNV, g_orT, g_kOrT, g_kOrT_t, g_kOrT_f, g_tru_bl, g_chain, g_ch1, g_ch2, g_ch3_t, g_ch3_f, g_if, g_kif_t, g_kif_f, g_nil, g_cons, g_cons1, g_cons2, g_lst, g_tup, g_allD_nil, g_allD_cons, kTup0, kTup1, kTup2, kTup3, kTup4, kLst0, kLst1, kLst2, kLst3, g_newF, g_newT, g_call, g_sl, g_sl0, g_sl1, g_sl2, g_noP, g_part, g_kPart, g_frz, g_app, g_seq, g_seq_next, g_seq_ret, g_seq_err, g_seq_brk, g_seq_cnt, g_skip, g_ret, g_kRet, g_drop, g_kDrop, g_ifS, g_kIfS_t, g_kIfS_f, g_asg, g_kAsg, g_kAsg2, g_kAsg3, g_for, g_kFor, g_lc, g_seqI, g_itemsL, g_itemsT, g_rng1, g_revR1, g_enum, g_kEnum, g_wipe, g_wipe_next, g_wipe_ret, g_wipe_err, g_addI, g_subI, g_ltI, g_leI, g_gtI, g_geI, g_eqI, g_neI, g_eqS, g_neS, g_eqB, g_neB, g_neg, g_intI, g_intB, g_lenT, g_lenL, g_isN, g_yes, g_truL, g_truI, g_isNon_tup, g_isNon_non, g_slT, g_slL, g_slS, g_listL, g_listT, g_tupleL, g_raise, g_raiseA, g_kRaise1, g_kRaise2, g_setF, g_kSetF, g_make, g_meth, g_kMeth2, g_fld, g_kFldD, g_tryA, g_tryA_next, g_tryA_ret, g_cast0, g_cast1, g_cast2, g_cast3, g_cast4, g_cast5, g_cast6, g_cast7, g_cast8, g_cast9, g_cast10, g_cast11, g_cast12, g_cast13, lk, List.set_cons_zero, List.set_cons_succ, Bool.not_true, Bool.not_false, decide_true, decide_false, Int.reduceEq, Int.reduceLT, Int.reduceLE, Int.reduceSub, Int.reduceAdd, Int.reduceNeg, Int.reduceToNat, Int.reduceNe, Nat.reduceAdd, Nat.reduceLT, Nat.reduceLeDiff, eq_self, if_true, if_false, str_eq, String.reduceEq, isTy, String.reduceBEq, Bool.true_or, Bool.false_or, Bool.or_true, Bool.or_false, Bool.and_true, Bool.true_and, Bool.and_false, Bool.false_and, fIsi, fIsi2, kindOf, List.set_set, List.length_cons, List.length_nil, wipeE, beq_self_eq_true]
      unfold ffL
      rw [if_pos (.inl h8)]
    · simp (config := { implicitDefEqProofs := false }) only [decide_eq_false h8, ix_rm hq, g_bind_ok, g_bind_err, g_toS_ok, g_toS_err, g_var, g_c, g_op, g_op1, g_1, g_B, g_unB, g_test, g_and, g_or, g_not, g_kand_t, g_kand_f, g_kor_t, g_kor_f, g_knot, g_andV, g_orV, g_kandV_t, g_kandV_f, g_korV_t, g_korV_f, g_notV, g_kNotV, g_kNV, g_orT, g_kOrT, g_kOrT_t, g_kOrT_f, g_tru_bl, g_chain, g_ch1, g_ch2, g_ch3_t, g_ch3_f, g_if, g_kif_t, g_kif_f, g_nil, g_cons, g_cons1, g_cons2, g_lst, g_tup, g_allD_nil, g_allD_cons, kTup0, kTup1, kTup2, kTup3, kTup4, kLst0, kLst1, kLst2, kLst3, g_newF, g_newT, g_call, g_sl, g_sl0, g_sl1, g_sl2, g_noP, g_part, g_kPart, g_frz, g_app, g_seq, g_seq_next, g_seq_ret, g_seq_err, g_seq_brk, g_seq_cnt, g_skip, g_ret, g_kRet, g_drop, g_kDrop, g_ifS, g_kIfS_t, g_kIfS_f, g_asg, g_kAsg, g_kAsg2, g_kAsg3, g_for, g_kFor, g_lc, g_seqI, g_itemsL, g_itemsT, g_rng1, g_revR1, g_enum, g_kEnum, g_wipe, g_wipe_next, g_wipe_ret, g_wipe_err, g_addI, g_subI, g_ltI, g_leI, g_gtI, g_geI, g_eqI, g_neI, g_eqS, g_neS, g_eqB, g_neB, g_neg, g_intI, g_intB, g_lenT, g_lenL, g_isN, g_yes, g_truL, g_truI, g_isNon_tup, g_isNon_non, g_slT, g_slL, g_slS, g_listL, g_listT, g_tupleL, g_raise, g_raiseA, g_kRaise1, g_kRaise2, g_setF, g_kSetF, g_make, g_meth, g_kMeth2, g_fld, g_kFldD, g_tryA, g_tryA_next, g_tryA_ret, g_cast0, g_cast1, g_cast2, g_cast3, g_cast4, g_cast5, g_cast6, g_cast7, g_cast8, g_cast9, g_cast10, g_cast11, g_cast12, g_cast13, lk, List.set_cons_zero, List.set_cons_succ, Bool.not_true, Bool.not_false, decide_true, decide_false, Int.reduceEq, Int.reduceLT, Int.reduceLE, Int.reduceSub, Int.reduceAdd, Int.reduceNeg, Int.reduceToNat, Int.reduceNe, Nat.reduceAdd, Nat.reduceLT, Nat.reduceLeDiff, eq_self, if_true, if_false, str_eq, String.reduceEq, isTy, String.reduceBEq, Bool.true_or, Bool.false_or, Bool.or_true, Bool.or_false, Bool.and_true, Bool.true_and, Bool.and_false, Bool.false_and, fIsi, fIsi2, kindOf, List.set_set, List.length_cons, List.length_nil, wipeE, beq_self_eq_true]
      by_cases hm : met = 12
      · simp (config := { implicitDefEqProofs := false }) only [decide_eq_true hm, g_bind_ok, g_bind_err, g_toS_ok, g_toS_err, g_var, g_c, g_op, g_op1, g_1, g_B, g_unB, g_test, g_and, g_or, g_not, g_kand_t, g_kand_f, g_kor_t, g_kor_f, g_knot, g_andV, g_orV, g_kandV_t, g_kandV_f, g_korV_t, g_korV_f, g_notV, g_kNotV, g_kNV, g_orT, g_kOrT, g_kOrT_t, g_kOrT_f, g_tru_bl, g_chain, g_ch1, g_ch2, g_ch3_t, g_ch3_f, g_if, g_kif_t, g_kif_f, g_nil, g_cons, g_cons1, g_cons2, g_lst, g_tup, g_allD_nil, g_allD_cons, kTup0, kTup1, kTup2, kTup3, kTup4, kLst0, kLst1, kLst2, kLst3, g_newF, g_newT, g_call, g_sl, g_sl0, g_sl1, g_sl2, g_noP, g_part, g_kPart, g_frz, g_app, g_seq, g_seq_next, g_seq_ret, g_seq_err, g_seq_brk, g_seq_cnt, g_skip, g_ret, g_kRet, g_drop, g_kDrop, g_ifS, g_kIfS_t, g_kIfS_f, g_asg, g_kAsg, g_kAsg2, g_kAsg3, g_for, g_kFor, g_lc, g_seqI, g_itemsL, g_itemsT, g_rng1, g_revR1, g_enum, g_kEnum, g_wipe, g_wipe_next, g_wipe_ret, g_wipe_err, g_addI, g_subI, g_ltI, g_leI, g_gtI, g_geI, g_eqI, g_neI, g_eqS, g_neS, g_eqB, g_neB, g_neg, g_intI, g_intB, g_lenT, g_lenL, g_isN, g_yes, g_truL, g_truI, g_isNon_tup, g_isNon_non, g_slT, g_slL, g_slS, g_listL, g_listT, g_tupleL, g_raise, g_raiseA, g_kRaise1, g_kRaise2, g_setF, g_kSetF, g_make, g_meth, g_kMeth2, g_fld, g_kFldD, g_tryA, g_tryA_next, g_tryA_ret, g_cast0, g_cast1, g_cast2, g_cast3, g_cast4, g_cast5, g_cast6, g_cast7, g_cast8, g_cast9, g_cast10, g_cast11, g_cast12, g_cast13, lk, List.set_cons_zero, List.set_cons_succ, Bool.not_true, Bool.not_false, decide_true, decide_false, Int.reduceEq, Int.reduceLT, Int.reduceLE, Int.reduceSub, Int.reduceAdd, Int.reduceNeg, Int.reduceToNat, Int.reduceNe, Nat.reduceAdd, Nat.reduceLT, Nat.reduceLeDiff, eq_self, if_true, if_false, str_eq, String.reduceEq, isTy, String.reduceBEq, Bool.true_or, Bool.false_or, Bool.or_true, Bool.or_false, Bool.and_true, Bool.true_and, Bool.and_false, Bool.false_and, fIsi, fIsi2, kindOf, List.set_set, List.length_cons, List.length_nil, wipeE, beq_self_eq_true]
        unfold ffL
        rw [if_pos (.inr (.inl hm))]
      · simp (config := { implicitDefEqProofs := false }) only [decide_eq_false hm, is_bad h.1.1 (show k ≤ 20 by omega), g_bind_ok, g_bind_err, g_toS_ok, g_toS_err, g_var, g_c, g_op, g_op1, g_1, g_B, g_unB, g_test, g_and, g_or, g_not, g_kand_t, g_kand_f, g_kor_t, g_kor_f, g_knot, g_andV, g_orV, g_kandV_t, g_kandV_f, g_korV_t, g_korV_f, g_notV, g_kNotV, g_kNV, g_orT, g_kOrT, g_kOrT_t, g_kOrT_f, g_tru_bl, g_chain, g_ch1, g_ch2, g_ch3_t, g_ch3_f, g_if, g_kif_t, g_kif_f, g_nil, g_cons, g_cons1, g_cons2, g_lst, g_tup, g_allD_nil, g_allD_cons, kTup0, kTup1, kTup2, kTup3, kTup4, kLst0, kLst1, kLst2, kLst3, g_newF, g_newT, g_call, g_sl, g_sl0, g_sl1, g_sl2, g_noP, g_part, g_kPart, g_frz, g_app, g_seq, g_seq_next, g_seq_ret, g_seq_err, g_seq_brk, g_seq_cnt, g_skip, g_ret, g_kRet, g_drop, g_kDrop, g_ifS, g_kIfS_t, g_kIfS_f, g_asg, g_kAsg, g_kAsg2, g_kAsg3, g_for, g_kFor, g_lc, g_seqI, g_itemsL, g_itemsT, g_rng1, g_revR1, g_enum, g_kEnum, g_wipe, g_wipe_next, g_wipe_ret, g_wipe_err, g_addI, g_subI, g_ltI, g_leI, g_gtI, g_geI, g_eqI, g_neI, g_eqS, g_neS, g_eqB, g_neB, g_neg, g_intI, g_intB, g_lenT, g_lenL, g_isN, g_yes, g_truL, g_truI, g_isNon_tup, g_isNon_non, g_slT, g_slL, g_slS, g_listL, g_listT, g_tupleL, g_raise, g_raiseA, g_kRaise1, g_kRaise2, g_setF, g_kSetF, g_make, g_meth, g_kMeth2, g_fld, g_kFldD, g_tryA, g_tryA_next, g_tryA_ret, g_cast0, g_cast1, g_cast2, g_cast3, g_cast4, g_cast5, g_cast6, g_cast7, g_cast8, g_cast9, g_cast10, g_cast11, g_cast12, g_cast13, lk, List.set_cons_zero, List.set_cons_succ, Bool.not_true, Bool.not_false, decide_true, decide_false, Int.reduceEq, Int.reduceLT, Int.reduceLE, Int.reduceSub, Int.reduceAdd, Int.reduceNeg, Int.reduceToNat, Int.reduceNe, Nat.reduceAdd, Nat.reduceLT, Nat.reduceLeDiff, eq_self, if_true, if_false, str_eq, String.reduceEq, isTy, String.reduceBEq, Bool.true_or, Bool.false_or, Bool.or_true, Bool.or_false, Bool.and_true, Bool.true_and, Bool.and_false, Bool.false_and, fIsi, fIsi2, kindOf, List.set_set, List.length_cons, List.length_nil, wipeE, beq_self_eq_true]
        have hwl := wf_law (s := s) (lv := lv)
        have ea : ∀ x y z w : Option Vl, mAugI (fun x y => x + y) (mVar 3) (mC (.int 0)) (mC (.int 1)) [some (.dat (.lst (dsOf l0))), some (.dat (.int lv)), some (.dat (tupI path)), some (.cel q), x, y, z, w, none, none] (rm S q met) = .next [some (.dat (.lst (dsOf l0))), some (.dat (.int lv)), some (.dat (tupI path)), some (.cel q), x, y, z, w, none, none] (rm S q (met + 1)) := fun _ _ _ _ => aug_rm hq rfl rfl rfl
        cases hb : s.isBad with
        | true =>
          simp (config := { implicitDefEqProofs := false }) only [g_bind_ok, g_bind_err, g_toS_ok, g_toS_err, g_var, g_c, g_op, g_op1, g_1, g_B, g_unB, g_test, g_and, g_or, g_not, g_kand_t, g_kand_f, g_kor_t, g_kor_f, g_knot, g_andV, g_orV, g_kandV_t, g_kandV_f, g_korV_t, g_korV_f, g_notV, g_kNotV, g_kNV, g_orT, g_kOrT, g_kOrT_t, g_kOrT_f, g_tru_bl, g_chain, g_ch1, g_ch2, g_ch3_t, g_ch3_f, g_if, g_kif_t, g_kif_f, g_nil, g_cons, g_cons1, g_cons2, g_lst, g_tup, g_allD_nil, g_allD_cons, kTup0, kTup1, kTup2, kTup3, kTup4, kLst0, kLst1, kLst2, kLst3, g_newF, g_newT, g_call, g_sl, g_sl0, g_sl1, g_sl2, g_noP, g_part, g_kPart, g_frz, g_app, g_seq, g_seq_next, g_seq_ret, g_seq_err, g_seq_brk, g_seq_cnt, g_skip, g_ret, g_kRet, g_drop, g_kDrop, g_ifS, g_kIfS_t, g_kIfS_f, g_asg, g_kAsg, g_kAsg2, g_kAsg3, g_for, g_kFor, g_lc, g_seqI, g_itemsL, g_itemsT, g_rng1, g_revR1, g_enum, g_kEnum, g_wipe, g_wipe_next, g_wipe_ret, g_wipe_err, g_addI, g_subI, g_ltI, g_leI, g_gtI, g_geI, g_eqI, g_neI, g_eqS, g_neS, g_eqB, g_neB, g_neg, g_intI, g_intB, g_lenT, g_lenL, g_isN, g_yes, g_truL, g_truI, g_isNon_tup, g_isNon_non, g_slT, g_slL, g_slS, g_listL, g_listT, g_tupleL, g_raise, g_raiseA, g_kRaise1, g_kRaise2, g_setF, g_kSetF, g_make, g_meth, g_kMeth2, g_fld, g_kFldD, g_tryA, g_tryA_next, g_tryA_ret, g_cast0, g_cast1, g_cast2, g_cast3, g_cast4, g_cast5, g_cast6, g_cast7, g_cast8, g_cast9, g_cast10, g_cast11, g_cast12, g_cast13, lk, List.set_cons_zero, List.set_cons_succ, Bool.not_true, Bool.not_false, decide_true, decide_false, Int.reduceEq, Int.reduceLT, Int.reduceLE, Int.reduceSub, Int.reduceAdd, Int.reduceNeg, Int.reduceToNat, Int.reduceNe, Nat.reduceAdd, Nat.reduceLT, Nat.reduceLeDiff, eq_self, if_true, if_false, str_eq, String.reduceEq, isTy, String.reduceBEq, Bool.true_or, Bool.false_or, Bool.or_true, Bool.or_false, Bool.and_true, Bool.true_and, Bool.and_false, Bool.false_and, fIsi, fIsi2, kindOf, List.set_set, List.length_cons, List.length_nil, wipeE, beq_self_eq_true]
          unfold ffL
          rw [if_pos (.inr (.inr (by rw [hwl, hb]; rfl)))]
        | false =>
          rw [hb] at hwl
          have e2 : s.wf lv = true → ffL lv path ((at_ : Nat) : Int) (s :: r) met = (ffS lv (path ++ [((at_ : Nat) : Int)]) s (met + 1)).then (ffL lv path (((at_ + 1 : Nat) : Int)) r) := fun hw => by
            rw [ffL, if_neg (by rintro (h | h | h) <;> first | exact h8 h | exact hm h | (rw [hw] at h; cases h))]
            rfl
          have hj' : ∀ j, l0[at_ + 1 + j]? = r[j]? := fun j => by
            have := hj (j + 1)
            rw [show at_ + 1 + j = at_ + (j + 1) by omega, this]
            rfl
          have hf := blocks_few (s := s)
          by_cases h33 : lv = 3
          · by_cases hbl : (0 : Int) < (s.blocks.length : Int)
            · simp (config := { implicitDefEqProofs := false }) only [decide_eq_true h33, bls_len, decide_eq_true hbl, g_bind_ok, g_bind_err, g_toS_ok, g_toS_err, g_var, g_c, g_op, g_op1, g_1, g_B, g_unB, g_test, g_and, g_or, g_not, g_kand_t, g_kand_f, g_kor_t, g_kor_f, g_knot, g_andV, g_orV, g_kandV_t, g_kandV_f, g_korV_t, g_korV_f, g_notV, g_kNotV, g_kNV, g_orT, g_kOrT, g_kOrT_t, g_kOrT_f, g_tru_bl, g_chain, g_ch1, g_ch2, g_ch3_t, g_ch3_f, g_if, g_kif_t, g_kif_f, g_nil, g_cons, g_cons1, g_cons2, g_lst, g_tup, g_allD_nil, g_allD_cons, kTup0, kTup1, kTup2, kTup3, kTup4, kLst0, kLst1, kLst2, kLst3, g_newF, g_newT, g_call, g_sl, g_sl0, g_sl1, g_sl2, g_noP, g_part, g_kPart, g_frz, g_app, g_seq, g_seq_next, g_seq_ret, g_seq_err, g_seq_brk, g_seq_cnt, g_skip, g_ret, g_kRet, g_drop, g_kDrop, g_ifS, g_kIfS_t, g_kIfS_f, g_asg, g_kAsg, g_kAsg2, g_kAsg3, g_for, g_kFor, g_lc, g_seqI, g_itemsL, g_itemsT, g_rng1, g_revR1, g_enum, g_kEnum, g_wipe, g_wipe_next, g_wipe_ret, g_wipe_err, g_addI, g_subI, g_ltI, g_leI, g_gtI, g_geI, g_eqI, g_neI, g_eqS, g_neS, g_eqB, g_neB, g_neg, g_intI, g_intB, g_lenT, g_lenL, g_isN, g_yes, g_truL, g_truI, g_isNon_tup, g_isNon_non, g_slT, g_slL, g_slS, g_listL, g_listT, g_tupleL, g_raise, g_raiseA, g_kRaise1, g_kRaise2, g_setF, g_kSetF, g_make, g_meth, g_kMeth2, g_fld, g_kFldD, g_tryA, g_tryA_next, g_tryA_ret, g_cast0, g_cast1, g_cast2, g_cast3, g_cast4, g_cast5, g_cast6, g_cast7, g_cast8, g_cast9, g_cast10, g_cast11, g_cast12, g_cast13, lk, List.set_cons_zero, List.set_cons_succ, Bool.not_true, Bool.not_false, decide_true, decide_false, Int.reduceEq, Int.reduceLT, Int.reduceLE, Int.reduceSub, Int.reduceAdd, Int.reduceNeg, Int.reduceToNat, Int.reduceNe, Nat.reduceAdd, Nat.reduceLT, Nat.reduceLeDiff, eq_self, if_true, if_false, str_eq, String.reduceEq, isTy, String.reduceBEq, Bool.true_or, Bool.false_or, Bool.or_true, Bool.or_false, Bool.and_true, Bool.true_and, Bool.and_false, Bool.false_and, fIsi, fIsi2, kindOf, List.set_set, List.length_cons, List.length_nil, wipeE, beq_self_eq_true]
              unfold ffL
              rw [if_pos (.inr (.inr (by rw [hwl, decide_eq_true h33, decide_eq_true (show 0 < s.blocks.length by omega)]; rfl)))]
            · have hb0 : s.blocks = [] := List.eq_nil_of_length_eq_zero (by omega)
              have hw : s.wf lv = true := by rw [hwl, decide_eq_false (show ¬0 < s.blocks.length by omega)]; simp
              have ef : ffS lv (path ++ [((at_ : Nat) : Int)]) s (met + 1) = .okk (met + 1) := by cases s <;> first | rfl | cases hb0
              rw [e2 hw, ef]
              simp (config := { implicitDefEqProofs := false }) only [decide_eq_true h33, bls_len, decide_eq_false hbl, ea, g_kRng1 (show -(2 ^ 62) ≤ (s.blocks.length : Int) by omega) (show (s.blocks.length : Int) < 2 ^ 62 by omega), Int.toNat_natCast, FR.then_okk, g_bind_ok, g_bind_err, g_toS_ok, g_toS_err, g_var, g_c, g_op, g_op1, g_1, g_B, g_unB, g_test, g_and, g_or, g_not, g_kand_t, g_kand_f, g_kor_t, g_kor_f, g_knot, g_andV, g_orV, g_kandV_t, g_kandV_f, g_korV_t, g_korV_f, g_notV, g_kNotV, g_kNV, g_orT, g_kOrT, g_kOrT_t, g_kOrT_f, g_tru_bl, g_chain, g_ch1, g_ch2, g_ch3_t, g_ch3_f, g_if, g_kif_t, g_kif_f, g_nil, g_cons, g_cons1, g_cons2, g_lst, g_tup, g_allD_nil, g_allD_cons, kTup0, kTup1, kTup2, kTup3, kTup4, kLst0, kLst1, kLst2, kLst3, g_newF, g_newT, g_call, g_sl, g_sl0, g_sl1, g_sl2, g_noP, g_part, g_kPart, g_frz, g_app, g_seq, g_seq_next, g_seq_ret, g_seq_err, g_seq_brk, g_seq_cnt, g_skip, g_ret, g_kRet, g_drop, g_kDrop, g_ifS, g_kIfS_t, g_kIfS_f, g_asg, g_kAsg, g_kAsg2, g_kAsg3, g_for, g_kFor, g_lc, g_seqI, g_itemsL, g_itemsT, g_rng1, g_revR1, g_enum, g_kEnum, g_wipe, g_wipe_next, g_wipe_ret, g_wipe_err, g_addI, g_subI, g_ltI, g_leI, g_gtI, g_geI, g_eqI, g_neI, g_eqS, g_neS, g_eqB, g_neB, g_neg, g_intI, g_intB, g_lenT, g_lenL, g_isN, g_yes, g_truL, g_truI, g_isNon_tup, g_isNon_non, g_slT, g_slL, g_slS, g_listL, g_listT, g_tupleL, g_raise, g_raiseA, g_kRaise1, g_kRaise2, g_setF, g_kSetF, g_make, g_meth, g_kMeth2, g_fld, g_kFldD, g_tryA, g_tryA_next, g_tryA_ret, g_cast0, g_cast1, g_cast2, g_cast3, g_cast4, g_cast5, g_cast6, g_cast7, g_cast8, g_cast9, g_cast10, g_cast11, g_cast12, g_cast13, lk, List.set_cons_zero, List.set_cons_succ, Bool.not_true, Bool.not_false, decide_true, decide_false, Int.reduceEq, Int.reduceLT, Int.reduceLE, Int.reduceSub, Int.reduceAdd, Int.reduceNeg, Int.reduceToNat, Int.reduceNe, Nat.reduceAdd, Nat.reduceLT, Nat.reduceLeDiff, eq_self, if_true, if_false, str_eq, String.reduceEq, isTy, String.reduceBEq, Bool.true_or, Bool.false_or, Bool.or_true, Bool.or_false, Bool.and_true, Bool.true_and, Bool.and_false, Bool.false_and, fIsi, fIsi2, kindOf, List.set_set, List.length_cons, List.length_nil, wipeE, beq_self_eq_true]
              rw [hb0]
              simp (config := { implicitDefEqProofs := false }) only [show rngD 0 ([] : List (List Stt)).length = [] from rfl, loop, g_bind_ok, g_bind_err, g_toS_ok, g_toS_err, g_var, g_c, g_op, g_op1, g_1, g_B, g_unB, g_test, g_and, g_or, g_not, g_kand_t, g_kand_f, g_kor_t, g_kor_f, g_knot, g_andV, g_orV, g_kandV_t, g_kandV_f, g_korV_t, g_korV_f, g_notV, g_kNotV, g_kNV, g_orT, g_kOrT, g_kOrT_t, g_kOrT_f, g_tru_bl, g_chain, g_ch1, g_ch2, g_ch3_t, g_ch3_f, g_if, g_kif_t, g_kif_f, g_nil, g_cons, g_cons1, g_cons2, g_lst, g_tup, g_allD_nil, g_allD_cons, kTup0, kTup1, kTup2, kTup3, kTup4, kLst0, kLst1, kLst2, kLst3, g_newF, g_newT, g_call, g_sl, g_sl0, g_sl1, g_sl2, g_noP, g_part, g_kPart, g_frz, g_app, g_seq, g_seq_next, g_seq_ret, g_seq_err, g_seq_brk, g_seq_cnt, g_skip, g_ret, g_kRet, g_drop, g_kDrop, g_ifS, g_kIfS_t, g_kIfS_f, g_asg, g_kAsg, g_kAsg2, g_kAsg3, g_for, g_kFor, g_lc, g_seqI, g_itemsL, g_itemsT, g_rng1, g_revR1, g_enum, g_kEnum, g_wipe, g_wipe_next, g_wipe_ret, g_wipe_err, g_addI, g_subI, g_ltI, g_leI, g_gtI, g_geI, g_eqI, g_neI, g_eqS, g_neS, g_eqB, g_neB, g_neg, g_intI, g_intB, g_lenT, g_lenL, g_isN, g_yes, g_truL, g_truI, g_isNon_tup, g_isNon_non, g_slT, g_slL, g_slS, g_listL, g_listT, g_tupleL, g_raise, g_raiseA, g_kRaise1, g_kRaise2, g_setF, g_kSetF, g_make, g_meth, g_kMeth2, g_fld, g_kFldD, g_tryA, g_tryA_next, g_tryA_ret, g_cast0, g_cast1, g_cast2, g_cast3, g_cast4, g_cast5, g_cast6, g_cast7, g_cast8, g_cast9, g_cast10, g_cast11, g_cast12, g_cast13, lk, List.set_cons_zero, List.set_cons_succ, Bool.not_true, Bool.not_false, decide_true, decide_false, Int.reduceEq, Int.reduceLT, Int.reduceLE, Int.reduceSub, Int.reduceAdd, Int.reduceNeg, Int.reduceToNat, Int.reduceNe, Nat.reduceAdd, Nat.reduceLT, Nat.reduceLeDiff, eq_self, if_true, if_false, str_eq, String.reduceEq, isTy, String.reduceBEq, Bool.true_or, Bool.false_or, Bool.or_true, Bool.or_false, Bool.and_true, Bool.true_and, Bool.and_false, Bool.false_and, fIsi, fIsi2, kindOf, List.set_set, List.length_cons, List.length_nil, wipeE, beq_self_eq_true]
              exact rest (met + 1) h.2 hj'
          · have hw : s.wf lv = true := by rw [hwl, decide_eq_false h33]; simp
            rw [e2 hw]
            simp (config := { implicitDefEqProofs := false }) only [decide_eq_false h33, bls_len, ea, g_kRng1 (show -(2 ^ 62) ≤ (s.blocks.length : Int) by omega) (show (s.blocks.length : Int) < 2 ^ 62 by omega), Int.toNat_natCast, g_bind_ok, g_bind_err, g_toS_ok, g_toS_err, g_var, g_c, g_op, g_op1, g_1, g_B, g_unB, g_test, g_and, g_or, g_not, g_kand_t, g_kand_f, g_kor_t, g_kor_f, g_knot, g_andV, g_orV, g_kandV_t, g_kandV_f, g_korV_t, g_korV_f, g_notV, g_kNotV, g_kNV, g_orT, g_kOrT, g_kOrT_t, g_kOrT_f, g_tru_bl, g_chain, g_ch1, g_ch2, g_ch3_t, g_ch3_f, g_if, g_kif_t, g_kif_f, g_nil, g_cons, g_cons1, g_cons2, g_lst, g_tup, g_allD_nil, g_allD_cons, kTup0, kTup1, kTup2, kTup3, kTup4, kLst0, kLst1, kLst2, kLst3, g_newF, g_newT, g_call, g_sl, g_sl0, g_sl1, g_sl2, g_noP, g_part, g_kPart, g_frz, g_app, g_seq, g_seq_next, g_seq_ret, g_seq_err, g_seq_brk, g_seq_cnt, g_skip, g_ret, g_kRet, g_drop, g_kDrop, g_ifS, g_kIfS_t, g_kIfS_f, g_asg, g_kAsg, g_kAsg2, g_kAsg3, g_for, g_kFor, g_lc, g_seqI, g_itemsL, g_itemsT, g_rng1, g_revR1, g_enum, g_kEnum, g_wipe, g_wipe_next, g_wipe_ret, g_wipe_err, g_addI, g_subI, g_ltI, g_leI, g_gtI, g_geI, g_eqI, g_neI, g_eqS, g_neS, g_eqB, g_neB, g_neg, g_intI, g_intB, g_lenT, g_lenL, g_isN, g_yes, g_truL, g_truI, g_isNon_tup, g_isNon_non, g_slT, g_slL, g_slS, g_listL, g_listT, g_tupleL, g_raise, g_raiseA, g_kRaise1, g_kRaise2, g_setF, g_kSetF, g_make, g_meth, g_kMeth2, g_fld, g_kFldD, g_tryA, g_tryA_next, g_tryA_ret, g_cast0, g_cast1, g_cast2, g_cast3, g_cast4, g_cast5, g_cast6, g_cast7, g_cast8, g_cast9, g_cast10, g_cast11, g_cast12, g_cast13, lk, List.set_cons_zero, List.set_cons_succ, Bool.not_true, Bool.not_false, decide_true, decide_false, Int.reduceEq, Int.reduceLT, Int.reduceLE, Int.reduceSub, Int.reduceAdd, Int.reduceNeg, Int.reduceToNat, Int.reduceNe, Nat.reduceAdd, Nat.reduceLT, Nat.reduceLeDiff, eq_self, if_true, if_false, str_eq, String.reduceEq, isTy, String.reduceBEq, Bool.true_or, Bool.false_or, Bool.or_true, Bool.or_false, Bool.and_true, Bool.true_and, Bool.and_false, Bool.false_and, fIsi, fIsi2, kindOf, List.set_set, List.length_cons, List.length_nil, wipeE, beq_self_eq_true]
            rw [lf_in ih h.1.1 hk hq h0 (by omega) (by simp; omega) hn]
            cases q1 : ffS lv (path ++ [((at_ : Nat) : Int)]) s (met + 1) with
            | fault p m => simp (config := { implicitDefEqProofs := false }) only [FR.then_fault, g_bind_ok, g_bind_err, g_toS_ok, g_toS_err, g_var, g_c, g_op, g_op1, g_1, g_B, g_unB, g_test, g_and, g_or, g_not, g_kand_t, g_kand_f, g_kor_t, g_kor_f, g_knot, g_andV, g_orV, g_kandV_t, g_kandV_f, g_korV_t, g_korV_f, g_notV, g_kNotV, g_kNV, g_orT, g_kOrT, g_kOrT_t, g_kOrT_f, g_tru_bl, g_chain, g_ch1, g_ch2, g_ch3_t, g_ch3_f, g_if, g_kif_t, g_kif_f, g_nil, g_cons, g_cons1, g_cons2, g_lst, g_tup, g_allD_nil, g_allD_cons, kTup0, kTup1, kTup2, kTup3, kTup4, kLst0, kLst1, kLst2, kLst3, g_newF, g_newT, g_call, g_sl, g_sl0, g_sl1, g_sl2, g_noP, g_part, g_kPart, g_frz, g_app, g_seq, g_seq_next, g_seq_ret, g_seq_err, g_seq_brk, g_seq_cnt, g_skip, g_ret, g_kRet, g_drop, g_kDrop, g_ifS, g_kIfS_t, g_kIfS_f, g_asg, g_kAsg, g_kAsg2, g_kAsg3, g_for, g_kFor, g_lc, g_seqI, g_itemsL, g_itemsT, g_rng1, g_revR1, g_enum, g_kEnum, g_wipe, g_wipe_next, g_wipe_ret, g_wipe_err, g_addI, g_subI, g_ltI, g_leI, g_gtI, g_geI, g_eqI, g_neI, g_eqS, g_neS, g_eqB, g_neB, g_neg, g_intI, g_intB, g_lenT, g_lenL, g_isN, g_yes, g_truL, g_truI, g_isNon_tup, g_isNon_non, g_slT, g_slL, g_slS, g_listL, g_listT, g_tupleL, g_raise, g_raiseA, g_kRaise1, g_kRaise2, g_setF, g_kSetF, g_make, g_meth, g_kMeth2, g_fld, g_kFldD, g_tryA, g_tryA_next, g_tryA_ret, g_cast0, g_cast1, g_cast2, g_cast3, g_cast4, g_cast5, g_cast6, g_cast7, g_cast8, g_cast9, g_cast10, g_cast11, g_cast12, g_cast13, lk, List.set_cons_zero, List.set_cons_succ, Bool.not_true, Bool.not_false, decide_true, decide_false, Int.reduceEq, Int.reduceLT, Int.reduceLE, Int.reduceSub, Int.reduceAdd, Int.reduceNeg, Int.reduceToNat, Int.reduceNe, Nat.reduceAdd, Nat.reduceLT, Nat.reduceLeDiff, eq_self, if_true, if_false, str_eq, String.reduceEq, isTy, String.reduceBEq, Bool.true_or, Bool.false_or, Bool.or_true, Bool.or_false, Bool.and_true, Bool.true_and, Bool.and_false, Bool.false_and, fIsi, fIsi2, kindOf, List.set_set, List.length_cons, List.length_nil, wipeE, beq_self_eq_true]
            | okk m =>
              simp (config := { implicitDefEqProofs := false }) only [FR.then_okk, g_bind_ok, g_bind_err, g_toS_ok, g_toS_err, g_var, g_c, g_op, g_op1, g_1, g_B, g_unB, g_test, g_and, g_or, g_not, g_kand_t, g_kand_f, g_kor_t, g_kor_f, g_knot, g_andV, g_orV, g_kandV_t, g_kandV_f, g_korV_t, g_korV_f, g_notV, g_kNotV, g_kNV, g_orT, g_kOrT, g_kOrT_t, g_kOrT_f, g_tru_bl, g_chain, g_ch1, g_ch2, g_ch3_t, g_ch3_f, g_if, g_kif_t, g_kif_f, g_nil, g_cons, g_cons1, g_cons2, g_lst, g_tup, g_allD_nil, g_allD_cons, kTup0, kTup1, kTup2, kTup3, kTup4, kLst0, kLst1, kLst2, kLst3, g_newF, g_newT, g_call, g_sl, g_sl0, g_sl1, g_sl2, g_noP, g_part, g_kPart, g_frz, g_app, g_seq, g_seq_next, g_seq_ret, g_seq_err, g_seq_brk, g_seq_cnt, g_skip, g_ret, g_kRet, g_drop, g_kDrop, g_ifS, g_kIfS_t, g_kIfS_f, g_asg, g_kAsg, g_kAsg2, g_kAsg3, g_for, g_kFor, g_lc, g_seqI, g_itemsL, g_itemsT, g_rng1, g_revR1, g_enum, g_kEnum, g_wipe, g_wipe_next, g_wipe_ret, g_wipe_err, g_addI, g_subI, g_ltI, g_leI, g_gtI, g_geI, g_eqI, g_neI, g_eqS, g_neS, g_eqB, g_neB, g_neg, g_intI, g_intB, g_lenT, g_lenL, g_isN, g_yes, g_truL, g_truI, g_isNon_tup, g_isNon_non, g_slT, g_slL, g_slS, g_listL, g_listT, g_tupleL, g_raise, g_raiseA, g_kRaise1, g_kRaise2, g_setF, g_kSetF, g_make, g_meth, g_kMeth2, g_fld, g_kFldD, g_tryA, g_tryA_next, g_tryA_ret, g_cast0, g_cast1, g_cast2, g_cast3, g_cast4, g_cast5, g_cast6, g_cast7, g_cast8, g_cast9, g_cast10, g_cast11, g_cast12, g_cast13, lk, List.set_cons_zero, List.set_cons_succ, Bool.not_true, Bool.not_false, decide_true, decide_false, Int.reduceEq, Int.reduceLT, Int.reduceLE, Int.reduceSub, Int.reduceAdd, Int.reduceNeg, Int.reduceToNat, Int.reduceNe, Nat.reduceAdd, Nat.reduceLT, Nat.reduceLeDiff, eq_self, if_true, if_false, str_eq, String.reduceEq, isTy, String.reduceBEq, Bool.true_or, Bool.false_or, Bool.or_true, Bool.or_false, Bool.and_true, Bool.true_and, Bool.and_false, Bool.false_and, fIsi, fIsi2, kindOf, List.set_set, List.length_cons, List.length_nil, wipeE, beq_self_eq_true]
              exact rest m h.2 hj'
theorem L_fault (n : Nat) : LFaultOk n := by
  induction n with
  | zero =>
    intro S q l lv many met path k hl hk hq h0 h3 hp hn
    omega
  | succ n ih =>
    intro S q l lv many met path k hl hk hq h0 h3 hp hn
    rw [show m_L_fault (n + 1) [.dat (.lst (dsOf l)), .dat (.int lv), .dat (tupI path), .cel q] (rm S q met) = ofOut (b_L_fault (m_L_fault n) [some (.dat (.lst (dsOf l))), some (.dat (.int lv)), some (.dat (tupI path)), some (.cel q), none, none, none, none, none, none] (rm S q met)) from rfl]
    unfold b_L_fault
    have hlen := hl.len
    have e := lf_out ih (S := S) (l0 := l) (path := path) hk hq h0 h3 hp (by omega) l 0 met hl (by simp)
    rw [g_cast0] at e
    simp (config := { implicitDefEqProofs := false }) only [dsOf_len, g_kRng1 (show -(2 ^ 62) ≤ (l.length : Int) by omega) (show (l.length : Int) < 2 ^ 62 by omega), Int.toNat_natCast, e, g_bind_ok, g_bind_err, g_toS_ok, g_toS_err, g_var, g_c, g_op, g_op1, g_1, g_B, g_unB, g_test, g_and, g_or, g_not, g_kand_t, g_kand_f, g_kor_t, g_kor_f, g_knot, g_andV, g_orV, g_kandV_t, g_kandV_f, g_korV_t, g_korV_f, g_notV, g_kNotV, g_kNV, g_orT, g_kOrT, g_kOrT_t, g_kOrT_f, g_tru_bl, g_chain, g_ch1, g_ch2, g_ch3_t, g_ch3_f, g_if, g_kif_t, g_kif_f, g_nil, g_cons, g_cons1, g_cons2, g_lst, g_tup, g_allD_nil, g_allD_cons, kTup0, kTup1, kTup2, kTup3, kTup4, kLst0, kLst1, kLst2, kLst3, g_newF, g_newT, g_call, g_sl, g_sl0, g_sl1, g_sl2, g_noP, g_part, g_kPart, g_frz, g_app, g_seq, g_seq_next, g_seq_ret, g_seq_err, g_seq_brk, g_seq_cnt, g_skip, g_ret, g_kRet, g_drop, g_kDrop, g_ifS, g_kIfS_t, g_kIfS_f, g_asg, g_kAsg, g_kAsg2, g_kAsg3, g_for, g_kFor, g_lc, g_seqI, g_itemsL, g_itemsT, g_rng1, g_revR1, g_enum, g_kEnum, g_wipe, g_wipe_next, g_wipe_ret, g_wipe_err, g_addI, g_subI, g_ltI, g_leI, g_gtI, g_geI, g_eqI, g_neI, g_eqS, g_neS, g_eqB, g_neB, g_neg, g_intI, g_intB, g_lenT, g_lenL, g_isN, g_yes, g_truL, g_truI, g_isNon_tup, g_isNon_non, g_slT, g_slL, g_slS, g_listL, g_listT, g_tupleL, g_raise, g_raiseA, g_kRaise1, g_kRaise2, g_setF, g_kSetF, g_make, g_meth, g_kMeth2, g_fld, g_kFldD, g_tryA, g_tryA_next, g_tryA_ret, g_cast0, g_cast1, g_cast2, g_cast3, g_cast4, g_cast5, g_cast6, g_cast7, g_cast8, g_cast9, g_cast10, g_cast11, g_cast12, g_cast13, lk, List.set_cons_zero, List.set_cons_succ, Bool.not_true, Bool.not_false, decide_true, decide_false, Int.reduceEq, Int.reduceLT, Int.reduceLE, Int.reduceSub, Int.reduceAdd, Int.reduceNeg, Int.reduceToNat, Int.reduceNe, Nat.reduceAdd, Nat.reduceLT, Nat.reduceLeDiff, eq_self, if_true, if_false, str_eq, String.reduceEq, isTy, String.reduceBEq, Bool.true_or, Bool.false_or, Bool.or_true, Bool.or_false, Bool.and_true, Bool.true_and, Bool.and_false, Bool.false_and, fIsi, fIsi2, kindOf, List.set_set, List.length_cons, List.length_nil, wipeE, beq_self_eq_true]
    cases q : ffL lv path 0 l met with
    | fault p m => simp (config := { implicitDefEqProofs := false }) only [g_bind_ok, g_bind_err, g_toS_ok, g_toS_err, g_var, g_c, g_op, g_op1, g_1, g_B, g_unB, g_test, g_and, g_or, g_not, g_kand_t, g_kand_f, g_kor_t, g_kor_f, g_knot, g_andV, g_orV, g_kandV_t, g_kandV_f, g_korV_t, g_korV_f, g_notV, g_kNotV, g_kNV, g_orT, g_kOrT, g_kOrT_t, g_kOrT_f, g_tru_bl, g_chain, g_ch1, g_ch2, g_ch3_t, g_ch3_f, g_if, g_kif_t, g_kif_f, g_nil, g_cons, g_cons1, g_cons2, g_lst, g_tup, g_allD_nil, g_allD_cons, kTup0, kTup1, kTup2, kTup3, kTup4, kLst0, kLst1, kLst2, kLst3, g_newF, g_newT, g_call, g_sl, g_sl0, g_sl1, g_sl2, g_noP, g_part, g_kPart, g_frz, g_app, g_seq, g_seq_next, g_seq_ret, g_seq_err, g_seq_brk, g_seq_cnt, g_skip, g_ret, g_kRet, g_drop, g_kDrop, g_ifS, g_kIfS_t, g_kIfS_f, g_asg, g_kAsg, g_kAsg2, g_kAsg3, g_for, g_kFor, g_lc, g_seqI, g_itemsL, g_itemsT, g_rng1, g_revR1, g_enum, g_kEnum, g_wipe, g_wipe_next, g_wipe_ret, g_wipe_err, g_addI, g_subI, g_ltI, g_leI, g_gtI, g_geI, g_eqI, g_neI, g_eqS, g_neS, g_eqB, g_neB, g_neg, g_intI, g_intB, g_lenT, g_lenL, g_isN, g_yes, g_truL, g_truI, g_isNon_tup, g_isNon_non, g_slT, g_slL, g_slS, g_listL, g_listT, g_tupleL, g_raise, g_raiseA, g_kRaise1, g_kRaise2, g_setF, g_kSetF, g_make, g_meth, g_kMeth2, g_fld, g_kFldD, g_tryA, g_tryA_next, g_tryA_ret, g_cast0, g_cast1, g_cast2, g_cast3, g_cast4, g_cast5, g_cast6, g_cast7, g_cast8, g_cast9, g_cast10, g_cast11, g_cast12, g_cast13, lk, List.set_cons_zero, List.set_cons_succ, Bool.not_true, Bool.not_false, decide_true, decide_false, Int.reduceEq, Int.reduceLT, Int.reduceLE, Int.reduceSub, Int.reduceAdd, Int.reduceNeg, Int.reduceToNat, Int.reduceNe, Nat.reduceAdd, Nat.reduceLT, Nat.reduceLeDiff, eq_self, if_true, if_false, str_eq, String.reduceEq, isTy, String.reduceBEq, Bool.true_or, Bool.false_or, Bool.or_true, Bool.or_false, Bool.and_true, Bool.true_and, Bool.and_false, Bool.false_and, fIsi, fIsi2, kindOf, List.set_set, List.length_cons, List.length_nil, wipeE, beq_self_eq_true]; rfl
    | okk m => simp (config := { implicitDefEqProofs := false }) only [g_bind_ok, g_bind_err, g_toS_ok, g_toS_err, g_var, g_c, g_op, g_op1, g_1, g_B, g_unB, g_test, g_and, g_or, g_not, g_kand_t, g_kand_f, g_kor_t, g_kor_f, g_knot, g_andV, g_orV, g_kandV_t, g_kandV_f, g_korV_t, g_korV_f, g_notV, g_kNotV, g_kNV, g_orT, g_kOrT, g_kOrT_t, g_kOrT_f, g_tru_bl, g_chain, g_ch1, g_ch2, g_ch3_t, g_ch3_f, g_if, g_kif_t, g_kif_f, g_nil, g_cons, g_cons1, g_cons2, g_lst, g_tup, g_allD_nil, g_allD_cons, kTup0, kTup1, kTup2, kTup3, kTup4, kLst0, kLst1, kLst2, kLst3, g_newF, g_newT, g_call, g_sl, g_sl0, g_sl1, g_sl2, g_noP, g_part, g_kPart, g_frz, g_app, g_seq, g_seq_next, g_seq_ret, g_seq_err, g_seq_brk, g_seq_cnt, g_skip, g_ret, g_kRet, g_drop, g_kDrop, g_ifS, g_kIfS_t, g_kIfS_f, g_asg, g_kAsg, g_kAsg2, g_kAsg3, g_for, g_kFor, g_lc, g_seqI, g_itemsL, g_itemsT, g_rng1, g_revR1, g_enum, g_kEnum, g_wipe, g_wipe_next, g_wipe_ret, g_wipe_err, g_addI, g_subI, g_ltI, g_leI, g_gtI, g_geI, g_eqI, g_neI, g_eqS, g_neS, g_eqB, g_neB, g_neg, g_intI, g_intB, g_lenT, g_lenL, g_isN, g_yes, g_truL, g_truI, g_isNon_tup, g_isNon_non, g_slT, g_slL, g_slS, g_listL, g_listT, g_tupleL, g_raise, g_raiseA, g_kRaise1, g_kRaise2, g_setF, g_kSetF, g_make, g_meth, g_kMeth2, g_fld, g_kFldD, g_tryA, g_tryA_next, g_tryA_ret, g_cast0, g_cast1, g_cast2, g_cast3, g_cast4, g_cast5, g_cast6, g_cast7, g_cast8, g_cast9, g_cast10, g_cast11, g_cast12, g_cast13, lk, List.set_cons_zero, List.set_cons_succ, Bool.not_true, Bool.not_false, decide_true, decide_false, Int.reduceEq, Int.reduceLT, Int.reduceLE, Int.reduceSub, Int.reduceAdd, Int.reduceNeg, Int.reduceToNat, Int.reduceNe, Nat.reduceAdd, Nat.reduceLT, Nat.reduceLeDiff, eq_self, if_true, if_false, str_eq, String.reduceEq, isTy, String.reduceBEq, Bool.true_or, Bool.false_or, Bool.or_true, Bool.or_false, Bool.and_true, Bool.true_and, Bool.and_false, Bool.false_and, fIsi, fIsi2, kindOf, List.set_set, List.length_cons, List.length_nil, wipeE, beq_self_eq_true]; rfl
end PH

namespace PH
open PySem PySem.Spec PyProof PyProof.Rows L2
theorem cut_ints {ns : List Int} {lo hi : Option Int} : ∃ ms : List Int, cutD (ns.map D.int) lo hi = ms.map D.int ∧ ms.length ≤ ns.length := by
  refine ⟨(ns.drop (HT.sIx (ns.map D.int).length 0 lo)).take (HT.sIx (ns.map D.int).length (ns.map D.int).length hi - HT.sIx (ns.map D.int).length 0 lo), ?_, ?_⟩
  · simp only [cutD, List.map_take, List.map_drop]
  · simp; omega
theorem pool_ok {ns : List Int} {S : Sto} (hn : ns.length ≤ 63) : ∃ ks : List Int, m_L_pool [.scr ns] S = .ok (.cel S.length) (S ++ [PL ks]) ∧ 2 ≤ ks.length := by
  obtain ⟨ms, e, hl⟩ := cut_ints (ns := ns) (lo := none) (hi := some 63)
  rw [show m_L_pool [.scr ns] S = ofOut (b_L_pool [some (.scr ns), none] S) from rfl]
  unfold b_L_pool
  simp (config := { implicitDefEqProofs := false }) only [e, g_bind_ok, g_bind_err, g_toS_ok, g_toS_err, g_var, g_c, g_op, g_op1, g_1, g_B, g_unB, g_test, g_and, g_or, g_not, g_kand_t, g_kand_f, g_kor_t, g_kor_f, g_knot, g_andV, g_orV, g_kandV_t, g_kandV_f, g_korV_t, g_korV_f, g_notV, g_kNotV, g_kNV, g_orT, g_kOrT, g_kOrT_t, g_kOrT_f, g_tru_bl, g_chain, g_ch1, g_ch2, g_ch3_t, g_ch3_f, g_if, g_kif_t, g_kif_f, g_nil, g_cons, g_cons1, g_cons2, g_lst, g_tup, g_allD_nil, g_allD_cons, kTup0, kTup1, kTup2, kTup3, kTup4, kLst0, kLst1, kLst2, kLst3, g_newF, g_newT, g_call, g_sl, g_sl0, g_sl1, g_sl2, g_noP, g_part, g_kPart, g_frz, g_app, g_seq, g_seq_next, g_seq_ret, g_seq_err, g_seq_brk, g_seq_cnt, g_skip, g_ret, g_kRet, g_drop, g_kDrop, g_ifS, g_kIfS_t, g_kIfS_f, g_asg, g_kAsg, g_kAsg2, g_kAsg3, g_for, g_kFor, g_lc, g_seqI, g_itemsL, g_itemsT, g_rng1, g_revR1, g_enum, g_kEnum, g_wipe, g_wipe_next, g_wipe_ret, g_wipe_err, g_addI, g_subI, g_ltI, g_leI, g_gtI, g_geI, g_eqI, g_neI, g_eqS, g_neS, g_eqB, g_neB, g_neg, g_intI, g_intB, g_lenT, g_lenL, g_isN, g_yes, g_truL, g_truI, g_isNon_tup, g_isNon_non, g_slT, g_slL, g_slS, g_listL, g_listT, g_tupleL, g_raise, g_raiseA, g_kRaise1, g_kRaise2, g_setF, g_kSetF, g_make, g_meth, g_kMeth2, g_fld, g_kFldD, g_tryA, g_tryA_next, g_tryA_ret, g_cast0, g_cast1, g_cast2, g_cast3, g_cast4, g_cast5, g_cast6, g_cast7, g_cast8, g_cast9, g_cast10, g_cast11, g_cast12, g_cast13, lk, List.set_cons_zero, List.set_cons_succ, Bool.not_true, Bool.not_false, decide_true, decide_false, Int.reduceEq, Int.reduceLT, Int.reduceLE, Int.reduceSub, Int.reduceAdd, Int.reduceNeg, Int.reduceToNat, Int.reduceNe, Nat.reduceAdd, Nat.reduceLT, Nat.reduceLeDiff, eq_self, if_true, if_false, str_eq, String.reduceEq, isTy, String.reduceBEq, Bool.true_or, Bool.false_or, Bool.or_true, Bool.or_false, Bool.and_true, Bool.true_and, Bool.and_false, Bool.false_and, fIsi, fIsi2, kindOf, List.set_set, List.length_cons, List.length_nil, wipeE, beq_self_eq_true]
  rw [kLc_map (g := D.int) (sz (by omega)) fun i hi => ⟨_, rfl, ?_⟩]
  · cases ms with
    | nil => 
      refine ⟨[0, 0], ?_, by simp⟩
      simp (config := { implicitDefEqProofs := false }) only [List.map_nil, List.isEmpty_nil, g_addL (show [D.int 0].length + [D.int 0].length ≤ sizeLine from sz (by simp)), g_bind_ok, g_bind_err, g_toS_ok, g_toS_err, g_var, g_c, g_op, g_op1, g_1, g_B, g_unB, g_test, g_and, g_or, g_not, g_kand_t, g_kand_f, g_kor_t, g_kor_f, g_knot, g_andV, g_orV, g_kandV_t, g_kandV_f, g_korV_t, g_korV_f, g_notV, g_kNotV, g_kNV, g_orT, g_kOrT, g_kOrT_t, g_kOrT_f, g_tru_bl, g_chain, g_ch1, g_ch2, g_ch3_t, g_ch3_f, g_if, g_kif_t, g_kif_f, g_nil, g_cons, g_cons1, g_cons2, g_lst, g_tup, g_allD_nil, g_allD_cons, kTup0, kTup1, kTup2, kTup3, kTup4, kLst0, kLst1, kLst2, kLst3, g_newF, g_newT, g_call, g_sl, g_sl0, g_sl1, g_sl2, g_noP, g_part, g_kPart, g_frz, g_app, g_seq, g_seq_next, g_seq_ret, g_seq_err, g_seq_brk, g_seq_cnt, g_skip, g_ret, g_kRet, g_drop, g_kDrop, g_ifS, g_kIfS_t, g_kIfS_f, g_asg, g_kAsg, g_kAsg2, g_kAsg3, g_for, g_kFor, g_lc, g_seqI, g_itemsL, g_itemsT, g_rng1, g_revR1, g_enum, g_kEnum, g_wipe, g_wipe_next, g_wipe_ret, g_wipe_err, g_addI, g_subI, g_ltI, g_leI, g_gtI, g_geI, g_eqI, g_neI, g_eqS, g_neS, g_eqB, g_neB, g_neg, g_intI, g_intB, g_lenT, g_lenL, g_isN, g_yes, g_truL, g_truI, g_isNon_tup, g_isNon_non, g_slT, g_slL, g_slS, g_listL, g_listT, g_tupleL, g_raise, g_raiseA, g_kRaise1, g_kRaise2, g_setF, g_kSetF, g_make, g_meth, g_kMeth2, g_fld, g_kFldD, g_tryA, g_tryA_next, g_tryA_ret, g_cast0, g_cast1, g_cast2, g_cast3, g_cast4, g_cast5, g_cast6, g_cast7, g_cast8, g_cast9, g_cast10, g_cast11, g_cast12, g_cast13, lk, List.set_cons_zero, List.set_cons_succ, Bool.not_true, Bool.not_false, decide_true, decide_false, Int.reduceEq, Int.reduceLT, Int.reduceLE, Int.reduceSub, Int.reduceAdd, Int.reduceNeg, Int.reduceToNat, Int.reduceNe, Nat.reduceAdd, Nat.reduceLT, Nat.reduceLeDiff, eq_self, if_true, if_false, str_eq, String.reduceEq, isTy, String.reduceBEq, Bool.true_or, Bool.false_or, Bool.or_true, Bool.or_false, Bool.and_true, Bool.true_and, Bool.and_false, Bool.false_and, fIsi, fIsi2, kindOf, List.set_set, List.length_cons, List.length_nil, wipeE, beq_self_eq_true]
      rfl
    | cons i r => 
      refine ⟨0 :: i :: r, ?_, by simp⟩
      simp (config := { implicitDefEqProofs := false }) only [List.map_cons, List.isEmpty_cons, g_addL (show [D.int 0].length + (D.int i :: r.map D.int).length ≤ sizeLine from sz (by simp at *; omega)), g_bind_ok, g_bind_err, g_toS_ok, g_toS_err, g_var, g_c, g_op, g_op1, g_1, g_B, g_unB, g_test, g_and, g_or, g_not, g_kand_t, g_kand_f, g_kor_t, g_kor_f, g_knot, g_andV, g_orV, g_kandV_t, g_kandV_f, g_korV_t, g_korV_f, g_notV, g_kNotV, g_kNV, g_orT, g_kOrT, g_kOrT_t, g_kOrT_f, g_tru_bl, g_chain, g_ch1, g_ch2, g_ch3_t, g_ch3_f, g_if, g_kif_t, g_kif_f, g_nil, g_cons, g_cons1, g_cons2, g_lst, g_tup, g_allD_nil, g_allD_cons, kTup0, kTup1, kTup2, kTup3, kTup4, kLst0, kLst1, kLst2, kLst3, g_newF, g_newT, g_call, g_sl, g_sl0, g_sl1, g_sl2, g_noP, g_part, g_kPart, g_frz, g_app, g_seq, g_seq_next, g_seq_ret, g_seq_err, g_seq_brk, g_seq_cnt, g_skip, g_ret, g_kRet, g_drop, g_kDrop, g_ifS, g_kIfS_t, g_kIfS_f, g_asg, g_kAsg, g_kAsg2, g_kAsg3, g_for, g_kFor, g_lc, g_seqI, g_itemsL, g_itemsT, g_rng1, g_revR1, g_enum, g_kEnum, g_wipe, g_wipe_next, g_wipe_ret, g_wipe_err, g_addI, g_subI, g_ltI, g_leI, g_gtI, g_geI, g_eqI, g_neI, g_eqS, g_neS, g_eqB, g_neB, g_neg, g_intI, g_intB, g_lenT, g_lenL, g_isN, g_yes, g_truL, g_truI, g_isNon_tup, g_isNon_non, g_slT, g_slL, g_slS, g_listL, g_listT, g_tupleL, g_raise, g_raiseA, g_kRaise1, g_kRaise2, g_setF, g_kSetF, g_make, g_meth, g_kMeth2, g_fld, g_kFldD, g_tryA, g_tryA_next, g_tryA_ret, g_cast0, g_cast1, g_cast2, g_cast3, g_cast4, g_cast5, g_cast6, g_cast7, g_cast8, g_cast9, g_cast10, g_cast11, g_cast12, g_cast13, lk, List.set_cons_zero, List.set_cons_succ, Bool.not_true, Bool.not_false, decide_true, decide_false, Int.reduceEq, Int.reduceLT, Int.reduceLE, Int.reduceSub, Int.reduceAdd, Int.reduceNeg, Int.reduceToNat, Int.reduceNe, Nat.reduceAdd, Nat.reduceLT, Nat.reduceLeDiff, eq_self, if_true, if_false, str_eq, String.reduceEq, isTy, String.reduceBEq, Bool.true_or, Bool.false_or, Bool.or_true, Bool.or_false, Bool.and_true, Bool.true_and, Bool.and_false, Bool.false_and, fIsi, fIsi2, kindOf, List.set_set, List.length_cons, List.length_nil, wipeE, beq_self_eq_true]
      rfl
  · simp (config := { implicitDefEqProofs := false }) only [g_bind_ok, g_bind_err, g_toS_ok, g_toS_err, g_var, g_c, g_op, g_op1, g_1, g_B, g_unB, g_test, g_and, g_or, g_not, g_kand_t, g_kand_f, g_kor_t, g_kor_f, g_knot, g_andV, g_orV, g_kandV_t, g_kandV_f, g_korV_t, g_korV_f, g_notV, g_kNotV, g_kNV, g_orT, g_kOrT, g_kOrT_t, g_kOrT_f, g_tru_bl, g_chain, g_ch1, g_ch2, g_ch3_t, g_ch3_f, g_if, g_kif_t, g_kif_f, g_nil, g_cons, g_cons1, g_cons2, g_lst, g_tup, g_allD_nil, g_allD_cons, kTup0, kTup1, kTup2, kTup3, kTup4, kLst0, kLst1, kLst2, kLst3, g_newF, g_newT, g_call, g_sl, g_sl0, g_sl1, g_sl2, g_noP, g_part, g_kPart, g_frz, g_app, g_seq, g_seq_next, g_seq_ret, g_seq_err, g_seq_brk, g_seq_cnt, g_skip, g_ret, g_kRet, g_drop, g_kDrop, g_ifS, g_kIfS_t, g_kIfS_f, g_asg, g_kAsg, g_kAsg2, g_kAsg3, g_for, g_kFor, g_lc, g_seqI, g_itemsL, g_itemsT, g_rng1, g_revR1, g_enum, g_kEnum, g_wipe, g_wipe_next, g_wipe_ret, g_wipe_err, g_addI, g_subI, g_ltI, g_leI, g_gtI, g_geI, g_eqI, g_neI, g_eqS, g_neS, g_eqB, g_neB, g_neg, g_intI, g_intB, g_lenT, g_lenL, g_isN, g_yes, g_truL, g_truI, g_isNon_tup, g_isNon_non, g_slT, g_slL, g_slS, g_listL, g_listT, g_tupleL, g_raise, g_raiseA, g_kRaise1, g_kRaise2, g_setF, g_kSetF, g_make, g_meth, g_kMeth2, g_fld, g_kFldD, g_tryA, g_tryA_next, g_tryA_ret, g_cast0, g_cast1, g_cast2, g_cast3, g_cast4, g_cast5, g_cast6, g_cast7, g_cast8, g_cast9, g_cast10, g_cast11, g_cast12, g_cast13, lk, List.set_cons_zero, List.set_cons_succ, Bool.not_true, Bool.not_false, decide_true, decide_false, Int.reduceEq, Int.reduceLT, Int.reduceLE, Int.reduceSub, Int.reduceAdd, Int.reduceNeg, Int.reduceToNat, Int.reduceNe, Nat.reduceAdd, Nat.reduceLT, Nat.reduceLeDiff, eq_self, if_true, if_false, str_eq, String.reduceEq, isTy, String.reduceBEq, Bool.true_or, Bool.false_or, Bool.or_true, Bool.or_false, Bool.and_true, Bool.true_and, Bool.and_false, Bool.false_and, fIsi, fIsi2, kindOf, List.set_set, List.length_cons, List.length_nil, wipeE, beq_self_eq_true]
def told (bs : List (List Stt)) : D := match bookF 0 bs with
  | none => .tup [.str "told", .int (bs.length : Int), .lst (bls bs)]
  | some (i, q) => .tup [.str "NoBook", .int i, tupI q]
theorem L_made {S : Sto} {many : Int} {k : Nat} {bs : List (List Stt)} (ls : LS S) (hb : ∀ b ∈ bs, OkL many b k) (hk : k ≤ 9) (hm : many = (bs.length : Int)) (h1 : 1 ≤ bs.length) (h3 : bs.length ≤ 3) :
    m_L_made [.dat (.lst (bls bs))] S = .ok (.dat (told bs)) S := by
  rw [show m_L_made [.dat (.lst (bls bs))] S = ofOut (b_L_made [some (.dat (.lst (bls bs))), none, none] S) from rfl]
  unfold b_L_made
  simp (config := { implicitDefEqProofs := false }) only [make_ok ls hb hk hm h1 h3, g_bind_ok, g_bind_err, g_toS_ok, g_toS_err, g_var, g_c, g_op, g_op1, g_1, g_B, g_unB, g_test, g_and, g_or, g_not, g_kand_t, g_kand_f, g_kor_t, g_kor_f, g_knot, g_andV, g_orV, g_kandV_t, g_kandV_f, g_korV_t, g_korV_f, g_notV, g_kNotV, g_kNV, g_orT, g_kOrT, g_kOrT_t, g_kOrT_f, g_tru_bl, g_chain, g_ch1, g_ch2, g_ch3_t, g_ch3_f, g_if, g_kif_t, g_kif_f, g_nil, g_cons, g_cons1, g_cons2, g_lst, g_tup, g_allD_nil, g_allD_cons, kTup0, kTup1, kTup2, kTup3, kTup4, kLst0, kLst1, kLst2, kLst3, g_newF, g_newT, g_call, g_sl, g_sl0, g_sl1, g_sl2, g_noP, g_part, g_kPart, g_frz, g_app, g_seq, g_seq_next, g_seq_ret, g_seq_err, g_seq_brk, g_seq_cnt, g_skip, g_ret, g_kRet, g_drop, g_kDrop, g_ifS, g_kIfS_t, g_kIfS_f, g_asg, g_kAsg, g_kAsg2, g_kAsg3, g_for, g_kFor, g_lc, g_seqI, g_itemsL, g_itemsT, g_rng1, g_revR1, g_enum, g_kEnum, g_wipe, g_wipe_next, g_wipe_ret, g_wipe_err, g_addI, g_subI, g_ltI, g_leI, g_gtI, g_geI, g_eqI, g_neI, g_eqS, g_neS, g_eqB, g_neB, g_neg, g_intI, g_intB, g_lenT, g_lenL, g_isN, g_yes, g_truL, g_truI, g_isNon_tup, g_isNon_non, g_slT, g_slL, g_slS, g_listL, g_listT, g_tupleL, g_raise, g_raiseA, g_kRaise1, g_kRaise2, g_setF, g_kSetF, g_make, g_meth, g_kMeth2, g_fld, g_kFldD, g_tryA, g_tryA_next, g_tryA_ret, g_cast0, g_cast1, g_cast2, g_cast3, g_cast4, g_cast5, g_cast6, g_cast7, g_cast8, g_cast9, g_cast10, g_cast11, g_cast12, g_cast13, lk, List.set_cons_zero, List.set_cons_succ, Bool.not_true, Bool.not_false, decide_true, decide_false, Int.reduceEq, Int.reduceLT, Int.reduceLE, Int.reduceSub, Int.reduceAdd, Int.reduceNeg, Int.reduceToNat, Int.reduceNe, Nat.reduceAdd, Nat.reduceLT, Nat.reduceLeDiff, eq_self, if_true, if_false, str_eq, String.reduceEq, isTy, String.reduceBEq, Bool.true_or, Bool.false_or, Bool.or_true, Bool.or_false, Bool.and_true, Bool.true_and, Bool.and_false, Bool.false_and, fIsi, fIsi2, kindOf, List.set_set, List.length_cons, List.length_nil, wipeE, beq_self_eq_true]
  cases q : bookF 0 bs with
  | none =>
    have hi : isIns S "Book" "bodies" (.dat (bookD bs)) = true := rfl
    simp (config := { implicitDefEqProofs := false }) only [len_ok (show bs.length ≤ 10 by omega), g_kMeth hi, bodies_ok hb hk (show bs.length ≤ 10 by omega), told, q, g_bind_ok, g_bind_err, g_toS_ok, g_toS_err, g_var, g_c, g_op, g_op1, g_1, g_B, g_unB, g_test, g_and, g_or, g_not, g_kand_t, g_kand_f, g_kor_t, g_kor_f, g_knot, g_andV, g_orV, g_kandV_t, g_kandV_f, g_korV_t, g_korV_f, g_notV, g_kNotV, g_kNV, g_orT, g_kOrT, g_kOrT_t, g_kOrT_f, g_tru_bl, g_chain, g_ch1, g_ch2, g_ch3_t, g_ch3_f, g_if, g_kif_t, g_kif_f, g_nil, g_cons, g_cons1, g_cons2, g_lst, g_tup, g_allD_nil, g_allD_cons, kTup0, kTup1, kTup2, kTup3, kTup4, kLst0, kLst1, kLst2, kLst3, g_newF, g_newT, g_call, g_sl, g_sl0, g_sl1, g_sl2, g_noP, g_part, g_kPart, g_frz, g_app, g_seq, g_seq_next, g_seq_ret, g_seq_err, g_seq_brk, g_seq_cnt, g_skip, g_ret, g_kRet, g_drop, g_kDrop, g_ifS, g_kIfS_t, g_kIfS_f, g_asg, g_kAsg, g_kAsg2, g_kAsg3, g_for, g_kFor, g_lc, g_seqI, g_itemsL, g_itemsT, g_rng1, g_revR1, g_enum, g_kEnum, g_wipe, g_wipe_next, g_wipe_ret, g_wipe_err, g_addI, g_subI, g_ltI, g_leI, g_gtI, g_geI, g_eqI, g_neI, g_eqS, g_neS, g_eqB, g_neB, g_neg, g_intI, g_intB, g_lenT, g_lenL, g_isN, g_yes, g_truL, g_truI, g_isNon_tup, g_isNon_non, g_slT, g_slL, g_slS, g_listL, g_listT, g_tupleL, g_raise, g_raiseA, g_kRaise1, g_kRaise2, g_setF, g_kSetF, g_make, g_meth, g_kMeth2, g_fld, g_kFldD, g_tryA, g_tryA_next, g_tryA_ret, g_cast0, g_cast1, g_cast2, g_cast3, g_cast4, g_cast5, g_cast6, g_cast7, g_cast8, g_cast9, g_cast10, g_cast11, g_cast12, g_cast13, lk, List.set_cons_zero, List.set_cons_succ, Bool.not_true, Bool.not_false, decide_true, decide_false, Int.reduceEq, Int.reduceLT, Int.reduceLE, Int.reduceSub, Int.reduceAdd, Int.reduceNeg, Int.reduceToNat, Int.reduceNe, Nat.reduceAdd, Nat.reduceLT, Nat.reduceLeDiff, eq_self, if_true, if_false, str_eq, String.reduceEq, isTy, String.reduceBEq, Bool.true_or, Bool.false_or, Bool.or_true, Bool.or_false, Bool.and_true, Bool.true_and, Bool.and_false, Bool.false_and, fIsi, fIsi2, kindOf, List.set_set, List.length_cons, List.length_nil, wipeE, beq_self_eq_true]
    rfl
  | some x =>
    obtain ⟨i, p⟩ := x
    simp (config := { implicitDefEqProofs := false }) only [told, q, g_bind_ok, g_bind_err, g_toS_ok, g_toS_err, g_var, g_c, g_op, g_op1, g_1, g_B, g_unB, g_test, g_and, g_or, g_not, g_kand_t, g_kand_f, g_kor_t, g_kor_f, g_knot, g_andV, g_orV, g_kandV_t, g_kandV_f, g_korV_t, g_korV_f, g_notV, g_kNotV, g_kNV, g_orT, g_kOrT, g_kOrT_t, g_kOrT_f, g_tru_bl, g_chain, g_ch1, g_ch2, g_ch3_t, g_ch3_f, g_if, g_kif_t, g_kif_f, g_nil, g_cons, g_cons1, g_cons2, g_lst, g_tup, g_allD_nil, g_allD_cons, kTup0, kTup1, kTup2, kTup3, kTup4, kLst0, kLst1, kLst2, kLst3, g_newF, g_newT, g_call, g_sl, g_sl0, g_sl1, g_sl2, g_noP, g_part, g_kPart, g_frz, g_app, g_seq, g_seq_next, g_seq_ret, g_seq_err, g_seq_brk, g_seq_cnt, g_skip, g_ret, g_kRet, g_drop, g_kDrop, g_ifS, g_kIfS_t, g_kIfS_f, g_asg, g_kAsg, g_kAsg2, g_kAsg3, g_for, g_kFor, g_lc, g_seqI, g_itemsL, g_itemsT, g_rng1, g_revR1, g_enum, g_kEnum, g_wipe, g_wipe_next, g_wipe_ret, g_wipe_err, g_addI, g_subI, g_ltI, g_leI, g_gtI, g_geI, g_eqI, g_neI, g_eqS, g_neS, g_eqB, g_neB, g_neg, g_intI, g_intB, g_lenT, g_lenL, g_isN, g_yes, g_truL, g_truI, g_isNon_tup, g_isNon_non, g_slT, g_slL, g_slS, g_listL, g_listT, g_tupleL, g_raise, g_raiseA, g_kRaise1, g_kRaise2, g_setF, g_kSetF, g_make, g_meth, g_kMeth2, g_fld, g_kFldD, g_tryA, g_tryA_next, g_tryA_ret, g_cast0, g_cast1, g_cast2, g_cast3, g_cast4, g_cast5, g_cast6, g_cast7, g_cast8, g_cast9, g_cast10, g_cast11, g_cast12, g_cast13, lk, List.set_cons_zero, List.set_cons_succ, Bool.not_true, Bool.not_false, decide_true, decide_false, Int.reduceEq, Int.reduceLT, Int.reduceLE, Int.reduceSub, Int.reduceAdd, Int.reduceNeg, Int.reduceToNat, Int.reduceNe, Nat.reduceAdd, Nat.reduceLT, Nat.reduceLeDiff, eq_self, if_true, if_false, str_eq, String.reduceEq, isTy, String.reduceBEq, Bool.true_or, Bool.false_or, Bool.or_true, Bool.or_false, Bool.and_true, Bool.true_and, Bool.and_false, Bool.false_and, fIsi, fIsi2, kindOf, List.set_set, List.length_cons, List.length_nil, wipeE, beq_self_eq_true]
    rfl
end PH

namespace PH
open PySem PySem.Spec PyProof PyProof.Rows L2
theorem bodies_drawn {S : Sto} {p q N : Nat} {many bad : Int} {a0 a5 a6 a7 a8 : Option Vl} (t : Two S p q N) (ls : LS S) (m1 : 1 ≤ many) (m3 : many ≤ 3) (b1 : 1 ≤ bad) (b6 : bad ≤ 6) :
    ∀ (is : List D) (ks : List Int) (r : Int), ks.length = N → ∃ (bs : List (List Stt)) (ks' : List Int) (r' : Int),
      lcGo (.nm 9) mYes e_law_k13_1 [a0, some (.cel p), some (.dat (.int bad)), some (.dat (.int many)), some (.cel q), a5, a6, a7, a8, none] is (upd2 S p q ks [r]) = .ok (bls bs) (upd2 S p q ks' [r']) ∧ (∀ b ∈ bs, OkL many b 5) ∧ bs.length = is.length ∧ ks'.length = N
  | [], ks, r, hk => ⟨[], ks, r, rfl, (fun b hb => nomatch hb), rfl, hk⟩
  | i :: is, ks, r, hk => by
    obtain ⟨l, k1, r1, e1, o1, l1⟩ := (faulty_ok 20).1 (r := r) (lv := 0) (many := many) (bad := bad) t ls hk (by omega) (by omega) m1 m3 b1 b6 (by simp)
    obtain ⟨bs, k2, r2, e2, o2, n2, l2⟩ := bodies_drawn (a0 := a0) (a5 := a5) (a6 := a6) (a7 := a7) (a8 := a8) t ls m1 m3 b1 b6 is k1 r1 l1
    refine ⟨l :: bs, k2, r2, ?_, fun b hb => ?_, by simp [n2], l2⟩
    · rw [lcGo]
      simp only [tgF, List.set_cons_succ, List.set_cons_zero, g_yes, if_true]
      have e3 : e_law_k13_1 [a0, some (.cel p), some (.dat (.int bad)), some (.dat (.int many)), some (.cel q), a5, a6, a7, a8, some (.dat i)] (upd2 S p q ks [r]) = .ok (.dat (.lst (dsOf l))) (upd2 S p q k1 [r1]) := by
        unfold e_law_k13_1
        simp (config := { implicitDefEqProofs := false }) only [e1, g_bind_ok, g_bind_err, g_toS_ok, g_toS_err, g_var, g_c, g_op, g_op1, g_1, g_B, g_unB, g_test, g_and, g_or, g_not, g_kand_t, g_kand_f, g_kor_t, g_kor_f, g_knot, g_andV, g_orV, g_kandV_t, g_kandV_f, g_korV_t, g_korV_f, g_notV, g_kNotV, g_kNV, g_orT, g_kOrT, g_kOrT_t, g_kOrT_f, g_tru_bl, g_chain, g_ch1, g_ch2, g_ch3_t, g_ch3_f, g_if, g_kif_t, g_kif_f, g_nil, g_cons, g_cons1, g_cons2, g_lst, g_tup, g_allD_nil, g_allD_cons, kTup0, kTup1, kTup2, kTup3, kTup4, kLst0, kLst1, kLst2, kLst3, g_newF, g_newT, g_call, g_sl, g_sl0, g_sl1, g_sl2, g_noP, g_part, g_kPart, g_frz, g_app, g_seq, g_seq_next, g_seq_ret, g_seq_err, g_seq_brk, g_seq_cnt, g_skip, g_ret, g_kRet, g_drop, g_kDrop, g_ifS, g_kIfS_t, g_kIfS_f, g_asg, g_kAsg, g_kAsg2, g_kAsg3, g_for, g_kFor, g_lc, g_seqI, g_itemsL, g_itemsT, g_rng1, g_revR1, g_enum, g_kEnum, g_wipe, g_wipe_next, g_wipe_ret, g_wipe_err, g_addI, g_subI, g_ltI, g_leI, g_gtI, g_geI, g_eqI, g_neI, g_eqS, g_neS, g_eqB, g_neB, g_neg, g_intI, g_intB, g_lenT, g_lenL, g_isN, g_yes, g_truL, g_truI, g_isNon_tup, g_isNon_non, g_slT, g_slL, g_slS, g_listL, g_listT, g_tupleL, g_raise, g_raiseA, g_kRaise1, g_kRaise2, g_setF, g_kSetF, g_make, g_meth, g_kMeth2, g_fld, g_kFldD, g_tryA, g_tryA_next, g_tryA_ret, g_cast0, g_cast1, g_cast2, g_cast3, g_cast4, g_cast5, g_cast6, g_cast7, g_cast8, g_cast9, g_cast10, g_cast11, g_cast12, g_cast13, lk, List.set_cons_zero, List.set_cons_succ, Bool.not_true, Bool.not_false, decide_true, decide_false, Int.reduceEq, Int.reduceLT, Int.reduceLE, Int.reduceSub, Int.reduceAdd, Int.reduceNeg, Int.reduceToNat, Int.reduceNe, Nat.reduceAdd, Nat.reduceLT, Nat.reduceLeDiff, eq_self, if_true, if_false, str_eq, String.reduceEq, isTy, String.reduceBEq, Bool.true_or, Bool.false_or, Bool.or_true, Bool.or_false, Bool.and_true, Bool.true_and, Bool.and_false, Bool.false_and, fIsi, fIsi2, kindOf, List.set_set, List.length_cons, List.length_nil, wipeE, beq_self_eq_true]
      simp only [e3, e2]
      rfl
    · rcases List.mem_cons.mp hb with rfl | hb
      · exact o1
      · exact o2 b hb
def dueOf (p : Int) (all bs : List (List Stt)) : D := match bookF p bs with
  | none => .tup [.str "told", .int (all.length : Int), .lst (bls all)]
  | some (i, q) => .tup [.str "NoBook", .int i, tupI q]
theorem rrng_succ {n : Nat} : rrngD (n + 1) = .int (n : Int) :: rrngD n := by
  unfold rrngD
  rw [List.range_succ_eq_map, List.map_cons, List.map_map]
  congr 1
  · congr 1; omega
  · apply List.map_congr_left
    intro k _
    simp only [Function.comp]
    congr 1
    omega
theorem due_loop {many : Int} {bs : List (List Stt)} {a0 a1 a2 a3 a4 : Option Vl} (hb : ∀ b ∈ bs, OkL many b 5) :
    ∀ (j : Nat), j ≤ bs.length → ∀ (S : Sto), LS S → ∃ S', LS S' ∧ loop (.nm 7) w_law_k13_2 (rrngD j) [a0, a1, a2, a3, a4, some (.dat (.lst (bls bs))), some (.dat (dueOf (j : Int) bs (bs.drop j))), none, none, none] S =
      .next [a0, a1, a2, a3, a4, some (.dat (.lst (bls bs))), some (.dat (dueOf 0 bs bs)), none, none, none] S'
  | 0, _, S, ls => ⟨S, ls, rfl⟩
  | j + 1, hj, S, ls => by
    have hx : bs[j]? = some bs[j] := List.getElem?_eq_getElem hj
    have hd : bs.drop j = bs[j] :: bs.drop (j + 1) := List.drop_eq_getElem_cons hj
    have ho := hb bs[j] (List.getElem_mem hj)
    have hix : atI (bls bs) (j : Int) = some (.lst (dsOf bs[j])) := by
      rw [atI_nat' (n := j) rfl]
      simp [bls, hx]
    generalize bs[j] = b at hx hd ho hix
    have e1 := L_fault 10 (S := S ++ [.lst [.int 0]]) (q := S.length) (l := b) (lv := 0) (met := 0) (path := []) ho (by omega) (by simp) (by omega) (by omega) (by simp) (by simp)
    have er : ∀ m, rm (S ++ [.lst [.int 0]]) S.length m = S ++ [.lst [.int m]] := fun m => by simp [rm]
    rw [er 0] at e1
    rw [rrng_succ, loop]
    simp only [tgF, List.set_cons_succ, List.set_cons_zero]
    rw [w_law_k13_2]
    rw [show tupI [] = D.tup [] from rfl] at e1
    simp (config := { implicitDefEqProofs := false }) only [g_ixL hix, e1, g_bind_ok, g_bind_err, g_toS_ok, g_toS_err, g_var, g_c, g_op, g_op1, g_1, g_B, g_unB, g_test, g_and, g_or, g_not, g_kand_t, g_kand_f, g_kor_t, g_kor_f, g_knot, g_andV, g_orV, g_kandV_t, g_kandV_f, g_korV_t, g_korV_f, g_notV, g_kNotV, g_kNV, g_orT, g_kOrT, g_kOrT_t, g_kOrT_f, g_tru_bl, g_chain, g_ch1, g_ch2, g_ch3_t, g_ch3_f, g_if, g_kif_t, g_kif_f, g_nil, g_cons, g_cons1, g_cons2, g_lst, g_tup, g_allD_nil, g_allD_cons, kTup0, kTup1, kTup2, kTup3, kTup4, kLst0, kLst1, kLst2, kLst3, g_newF, g_newT, g_call, g_sl, g_sl0, g_sl1, g_sl2, g_noP, g_part, g_kPart, g_frz, g_app, g_seq, g_seq_next, g_seq_ret, g_seq_err, g_seq_brk, g_seq_cnt, g_skip, g_ret, g_kRet, g_drop, g_kDrop, g_ifS, g_kIfS_t, g_kIfS_f, g_asg, g_kAsg, g_kAsg2, g_kAsg3, g_for, g_kFor, g_lc, g_seqI, g_itemsL, g_itemsT, g_rng1, g_revR1, g_enum, g_kEnum, g_wipe, g_wipe_next, g_wipe_ret, g_wipe_err, g_addI, g_subI, g_ltI, g_leI, g_gtI, g_geI, g_eqI, g_neI, g_eqS, g_neS, g_eqB, g_neB, g_neg, g_intI, g_intB, g_lenT, g_lenL, g_isN, g_yes, g_truL, g_truI, g_isNon_tup, g_isNon_non, g_slT, g_slL, g_slS, g_listL, g_listT, g_tupleL, g_raise, g_raiseA, g_kRaise1, g_kRaise2, g_setF, g_kSetF, g_make, g_meth, g_kMeth2, g_fld, g_kFldD, g_tryA, g_tryA_next, g_tryA_ret, g_cast0, g_cast1, g_cast2, g_cast3, g_cast4, g_cast5, g_cast6, g_cast7, g_cast8, g_cast9, g_cast10, g_cast11, g_cast12, g_cast13, lk, List.set_cons_zero, List.set_cons_succ, Bool.not_true, Bool.not_false, decide_true, decide_false, Int.reduceEq, Int.reduceLT, Int.reduceLE, Int.reduceSub, Int.reduceAdd, Int.reduceNeg, Int.reduceToNat, Int.reduceNe, Nat.reduceAdd, Nat.reduceLT, Nat.reduceLeDiff, eq_self, if_true, if_false, str_eq, String.reduceEq, isTy, String.reduceBEq, Bool.true_or, Bool.false_or, Bool.or_true, Bool.or_false, Bool.and_true, Bool.true_and, Bool.and_false, Bool.false_and, fIsi, fIsi2, kindOf, List.set_set, List.length_cons, List.length_nil, wipeE, beq_self_eq_true]
    have e0 : ∀ S, fNe (.dat (tupI [])) (.dat (.tup [])) S = .ok (.dat (.bl false)) S := fun S => path_ne (p := []) (by simp)
    cases q : ffL 0 [] 0 b 0 with
    | fault p m =>
      have hh := ffL_path b ho q
      simp only [List.length_nil] at hh
      have he : p.isEmpty = false := by cases p with | nil => simp at hh | cons _ _ => rfl
      have e2 : ∀ S, fNe (.dat (tupI p)) (.dat (.tup [])) S = .ok (.dat (.bl true)) S := fun S => by rw [path_ne (by omega), he]; rfl
      simp (config := { implicitDefEqProofs := false }) only [lfD, er, e2, g_bind_ok, g_bind_err, g_toS_ok, g_toS_err, g_var, g_c, g_op, g_op1, g_1, g_B, g_unB, g_test, g_and, g_or, g_not, g_kand_t, g_kand_f, g_kor_t, g_kor_f, g_knot, g_andV, g_orV, g_kandV_t, g_kandV_f, g_korV_t, g_korV_f, g_notV, g_kNotV, g_kNV, g_orT, g_kOrT, g_kOrT_t, g_kOrT_f, g_tru_bl, g_chain, g_ch1, g_ch2, g_ch3_t, g_ch3_f, g_if, g_kif_t, g_kif_f, g_nil, g_cons, g_cons1, g_cons2, g_lst, g_tup, g_allD_nil, g_allD_cons, kTup0, kTup1, kTup2, kTup3, kTup4, kLst0, kLst1, kLst2, kLst3, g_newF, g_newT, g_call, g_sl, g_sl0, g_sl1, g_sl2, g_noP, g_part, g_kPart, g_frz, g_app, g_seq, g_seq_next, g_seq_ret, g_seq_err, g_seq_brk, g_seq_cnt, g_skip, g_ret, g_kRet, g_drop, g_kDrop, g_ifS, g_kIfS_t, g_kIfS_f, g_asg, g_kAsg, g_kAsg2, g_kAsg3, g_for, g_kFor, g_lc, g_seqI, g_itemsL, g_itemsT, g_rng1, g_revR1, g_enum, g_kEnum, g_wipe, g_wipe_next, g_wipe_ret, g_wipe_err, g_addI, g_subI, g_ltI, g_leI, g_gtI, g_geI, g_eqI, g_neI, g_eqS, g_neS, g_eqB, g_neB, g_neg, g_intI, g_intB, g_lenT, g_lenL, g_isN, g_yes, g_truL, g_truI, g_isNon_tup, g_isNon_non, g_slT, g_slL, g_slS, g_listL, g_listT, g_tupleL, g_raise, g_raiseA, g_kRaise1, g_kRaise2, g_setF, g_kSetF, g_make, g_meth, g_kMeth2, g_fld, g_kFldD, g_tryA, g_tryA_next, g_tryA_ret, g_cast0, g_cast1, g_cast2, g_cast3, g_cast4, g_cast5, g_cast6, g_cast7, g_cast8, g_cast9, g_cast10, g_cast11, g_cast12, g_cast13, lk, List.set_cons_zero, List.set_cons_succ, Bool.not_true, Bool.not_false, decide_true, decide_false, Int.reduceEq, Int.reduceLT, Int.reduceLE, Int.reduceSub, Int.reduceAdd, Int.reduceNeg, Int.reduceToNat, Int.reduceNe, Nat.reduceAdd, Nat.reduceLT, Nat.reduceLeDiff, eq_self, if_true, if_false, str_eq, String.reduceEq, isTy, String.reduceBEq, Bool.true_or, Bool.false_or, Bool.or_true, Bool.or_false, Bool.and_true, Bool.true_and, Bool.and_false, Bool.false_and, fIsi, fIsi2, kindOf, List.set_set, List.length_cons, List.length_nil, wipeE, beq_self_eq_true]
      have e3 : D.tup [.str "NoBook", .int (j : Int), tupI p] = dueOf (j : Int) bs (bs.drop j) := by
        rw [hd, dueOf, bookF, q]
      rw [← w_law_k13_2, e3]
      exact due_loop hb j (by omega) _ ls.app
    | okk m =>
      simp (config := { implicitDefEqProofs := false }) only [lfD, er, e0, g_bind_ok, g_bind_err, g_toS_ok, g_toS_err, g_var, g_c, g_op, g_op1, g_1, g_B, g_unB, g_test, g_and, g_or, g_not, g_kand_t, g_kand_f, g_kor_t, g_kor_f, g_knot, g_andV, g_orV, g_kandV_t, g_kandV_f, g_korV_t, g_korV_f, g_notV, g_kNotV, g_kNV, g_orT, g_kOrT, g_kOrT_t, g_kOrT_f, g_tru_bl, g_chain, g_ch1, g_ch2, g_ch3_t, g_ch3_f, g_if, g_kif_t, g_kif_f, g_nil, g_cons, g_cons1, g_cons2, g_lst, g_tup, g_allD_nil, g_allD_cons, kTup0, kTup1, kTup2, kTup3, kTup4, kLst0, kLst1, kLst2, kLst3, g_newF, g_newT, g_call, g_sl, g_sl0, g_sl1, g_sl2, g_noP, g_part, g_kPart, g_frz, g_app, g_seq, g_seq_next, g_seq_ret, g_seq_err, g_seq_brk, g_seq_cnt, g_skip, g_ret, g_kRet, g_drop, g_kDrop, g_ifS, g_kIfS_t, g_kIfS_f, g_asg, g_kAsg, g_kAsg2, g_kAsg3, g_for, g_kFor, g_lc, g_seqI, g_itemsL, g_itemsT, g_rng1, g_revR1, g_enum, g_kEnum, g_wipe, g_wipe_next, g_wipe_ret, g_wipe_err, g_addI, g_subI, g_ltI, g_leI, g_gtI, g_geI, g_eqI, g_neI, g_eqS, g_neS, g_eqB, g_neB, g_neg, g_intI, g_intB, g_lenT, g_lenL, g_isN, g_yes, g_truL, g_truI, g_isNon_tup, g_isNon_non, g_slT, g_slL, g_slS, g_listL, g_listT, g_tupleL, g_raise, g_raiseA, g_kRaise1, g_kRaise2, g_setF, g_kSetF, g_make, g_meth, g_kMeth2, g_fld, g_kFldD, g_tryA, g_tryA_next, g_tryA_ret, g_cast0, g_cast1, g_cast2, g_cast3, g_cast4, g_cast5, g_cast6, g_cast7, g_cast8, g_cast9, g_cast10, g_cast11, g_cast12, g_cast13, lk, List.set_cons_zero, List.set_cons_succ, Bool.not_true, Bool.not_false, decide_true, decide_false, Int.reduceEq, Int.reduceLT, Int.reduceLE, Int.reduceSub, Int.reduceAdd, Int.reduceNeg, Int.reduceToNat, Int.reduceNe, Nat.reduceAdd, Nat.reduceLT, Nat.reduceLeDiff, eq_self, if_true, if_false, str_eq, String.reduceEq, isTy, String.reduceBEq, Bool.true_or, Bool.false_or, Bool.or_true, Bool.or_false, Bool.and_true, Bool.true_and, Bool.and_false, Bool.false_and, fIsi, fIsi2, kindOf, List.set_set, List.length_cons, List.length_nil, wipeE, beq_self_eq_true]
      have e3 : dueOf ((j + 1 : Nat) : Int) bs (bs.drop (j + 1)) = dueOf (j : Int) bs (bs.drop j) := by
        rw [hd, dueOf, dueOf, bookF, q]
        rfl
      rw [← w_law_k13_2, e3]
      exact due_loop hb j (by omega) _ ls.app
theorem bls_plain {many : Int} : ∀ {bs : List (List Stt)} {k : Nat}, (∀ b ∈ bs, OkL many b k) → D.Pls (bls bs) ∧ D.hts (bls bs) ≤ 3 * k + 2
  | [], k, _ => ⟨trivial, by simp [bls, D.hts]⟩
  | b :: r, k, h => by
    obtain ⟨h1, h2⟩ := bls_plain (bs := r) (k := k) fun b hb => h b (List.mem_cons_of_mem _ hb)
    have hb := h b (List.mem_cons_self ..)
    obtain ⟨h3, h4⟩ := dsOf_plain b k hb
    have := hb.len
    refine ⟨⟨⟨by rw [dsOf_len]; omega, h3⟩, h1⟩, ?_⟩
    simp only [bls] at h2
    simp only [bls, List.map_cons, D.hts, D.ht]
    omega
theorem bookF_path {many : Int} : ∀ {bs : List (List Stt)} {p i : Int} {q : List Int}, (∀ b ∈ bs, OkL many b 5) → bookF p bs = some (i, q) → q.length ≤ 100
  | [], p, i, q, h, e => by cases e
  | b :: r, p, i, q, h, e => by
    rw [bookF] at e
    cases f : ffL 0 [] 0 b 0 with
    | fault p1 m1 =>
      rw [f] at e
      cases e
      have := ffL_path b (h b (List.mem_cons_self ..)) f
      simp at this
      omega
    | okk m1 =>
      rw [f] at e
      exact bookF_path (fun b hb => h b (List.mem_cons_of_mem _ hb)) e
theorem told_plain {many : Int} {bs : List (List Stt)} (hb : ∀ b ∈ bs, OkL many b 5) (hl : bs.length ≤ 10) : (told bs).Pl ∧ (told bs).ht < 20 := by
  unfold told
  cases q : bookF 0 bs with
  | none =>
    obtain ⟨h1, h2⟩ := bls_plain hb
    refine ⟨⟨by simp, by show PyData.strOk _ = true; decide +kernel, trivial, ⟨by rw [bls_len]; omega, h1⟩, trivial⟩, ?_⟩
    simp only [D.ht, D.hts]
    omega
  | some x =>
    obtain ⟨i, p⟩ := x
    have := bookF_path hb q
    refine ⟨⟨by simp, by show PyData.strOk _ = true; decide +kernel, trivial, ⟨by simp; omega, (ints_pl p).1⟩, trivial⟩, ?_⟩
    simp only [D.ht, D.hts, (ints_pl p).2]
    omega
theorem trunc0 {T : Sto} {d : D} : trunc 0 (.ok (.dat d) T) = .ok (.dat d) [] := by simp [trunc, Vl.below]
theorem law_true_k13 : ∀ ns : List Int, ns.length ≤ 63 → ∃ S, m_law_k13 [.scr ns] [] = .ok (.dat (.bl true)) S := by
  intro ns hn
  refine ⟨[], ?_⟩
  rw [show m_law_k13 [.scr ns] [] = trunc 0 (ofOut (b_law_k13 [some (.scr ns), none, none, none, none, none, none, none, none, none] [])) from rfl]
  obtain ⟨k0, e0, h0⟩ := pool_ok (S := []) hn
  have P0 : PoolAt ([] ++ [PL k0]) 0 k0 := ⟨rfl, h0⟩
  obtain ⟨d1, k1, e1, d10, d11, l1⟩ := draw_ok P0 (k := 6) (by decide) (by decide)
  have P1 := P0.next l1
  obtain ⟨d2, k2, e2, d20, d21, l2⟩ := draw_ok P1 (k := 3) (by decide) (by decide)
  have P2 := P1.next l2
  obtain ⟨d3, k3, e3, d30, d31, l3⟩ := draw_ok P2 (k := 43) (by decide) (by decide)
  have sh : ∀ k : List Int, (([] : Sto) ++ [PL k]) = [PL k] := fun _ => rfl
  simp only [List.set_set, sh, List.set_cons_zero, List.length_nil] at e0 e1 e2 e3
  unfold b_law_k13
  have hlk : k3.length = k0.length := by omega
  have t : Two [PL k3, PL [8 + d3]] 0 1 k0.length := ⟨by simp, by simp, by decide, h0⟩
  have ls : LS [PL k3, PL [8 + d3]] := fun c hc n => by
    rcases List.mem_cons.mp hc with rfl | hc
    · rfl
    · rw [List.mem_singleton.mp hc]; rfl
  have eS : upd2 [PL k3, PL [8 + d3]] 0 1 k3 [8 + d3] = [PL k3, PL [8 + d3]] := rfl
  obtain ⟨bs, k4, r4, e4, o4, n4, l4⟩ := bodies_drawn (a0 := some (.scr ns)) (a5 := none) (a6 := none) (a7 := none) (a8 := none) (many := 1 + d2) (bad := 1 + d1) t ls (by omega) (by omega) (by omega) (by omega) (rngD 0 (1 + d2).toNat) k3 (8 + d3) hlk
  rw [eS] at e4
  have nb : bs.length = (1 + d2).toNat := by rw [n4]; simp [rngD]
  have hm : (1 : Int) + d2 = (bs.length : Int) := by omega
  have ekl : kLc false (.nm 9) mYes e_law_k13_1 [some (.scr ns), some (.cel 0), some (.dat (.int (1 + d1))), some (.dat (.int (1 + d2))), some (.cel 1), none, none, none, none, none] [9] (rngD 0 (1 + d2).toNat) ([.lst (k3.map D.int)] ++ [.lst [.int (8 + d3)]]) = .ok (.dat (.lst (bls bs))) (upd2 [PL k3, PL [8 + d3]] 0 1 k4 [r4]) := by
    unfold kLc
    rw [if_pos (sz (by simp [rngD]; omega))]
    have e4' : lcGo (.nm 9) mYes e_law_k13_1 (wipeE [some (.scr ns), some (.cel 0), some (.dat (.int (1 + d1))), some (.dat (.int (1 + d2))), some (.cel 1), none, none, none, none, none] [9]) (rngD 0 (1 + d2).toNat) ([.lst (k3.map D.int)] ++ [.lst [.int (8 + d3)]]) = .ok (bls bs) (upd2 [PL k3, PL [8 + d3]] 0 1 k4 [r4]) := e4
    rw [e4']
    rfl
  generalize hT : upd2 [PL k3, PL [8 + d3]] 0 1 k4 [r4] = T at ekl
  have lT : LS T := by rw [← hT]; exact ls.u2
  obtain ⟨T', lT', e5⟩ := due_loop (a0 := some (.scr ns)) (a1 := some (.cel 0)) (a2 := some (.dat (.int (1 + d1)))) (a3 := some (.dat (.int (1 + d2)))) (a4 := some (.cel 1)) o4 bs.length (Nat.le_refl _) T lT
  rw [show dueOf (bs.length : Int) bs (bs.drop bs.length) = .tup [.str "told", .int (1 + d2), .lst (bls bs)] by rw [List.drop_length, dueOf, bookF, hm], nb] at e5
  have ht : dueOf 0 bs bs = told bs := rfl
  obtain ⟨p1, p2⟩ := told_plain o4 (by omega)
  simp (config := { implicitDefEqProofs := false }) only [e0, e1, e2, e3, g_kRng1 (show -(2 ^ 62) ≤ 1 + d2 by omega) (show 1 + d2 < 2 ^ 62 by omega), ekl, g_kRev1 (show -(2 ^ 62) ≤ 1 + d2 by omega) (show 1 + d2 < 2 ^ 62 by omega), e5, ht, L_copies o4 (by omega) (show bs.length ≤ 10 by omega), L_made lT' o4 (by omega) hm (by omega) (by omega), same_ok 20 p1 p2, g_bind_ok, g_bind_err, g_toS_ok, g_toS_err, g_var, g_c, g_op, g_op1, g_1, g_B, g_unB, g_test, g_and, g_or, g_not, g_kand_t, g_kand_f, g_kor_t, g_kor_f, g_knot, g_andV, g_orV, g_kandV_t, g_kandV_f, g_korV_t, g_korV_f, g_notV, g_kNotV, g_kNV, g_orT, g_kOrT, g_kOrT_t, g_kOrT_f, g_tru_bl, g_chain, g_ch1, g_ch2, g_ch3_t, g_ch3_f, g_if, g_kif_t, g_kif_f, g_nil, g_cons, g_cons1, g_cons2, g_lst, g_tup, g_allD_nil, g_allD_cons, kTup0, kTup1, kTup2, kTup3, kTup4, kLst0, kLst1, kLst2, kLst3, g_newF, g_newT, g_call, g_sl, g_sl0, g_sl1, g_sl2, g_noP, g_part, g_kPart, g_frz, g_app, g_seq, g_seq_next, g_seq_ret, g_seq_err, g_seq_brk, g_seq_cnt, g_skip, g_ret, g_kRet, g_drop, g_kDrop, g_ifS, g_kIfS_t, g_kIfS_f, g_asg, g_kAsg, g_kAsg2, g_kAsg3, g_for, g_kFor, g_lc, g_seqI, g_itemsL, g_itemsT, g_rng1, g_revR1, g_enum, g_kEnum, g_wipe, g_wipe_next, g_wipe_ret, g_wipe_err, g_addI, g_subI, g_ltI, g_leI, g_gtI, g_geI, g_eqI, g_neI, g_eqS, g_neS, g_eqB, g_neB, g_neg, g_intI, g_intB, g_lenT, g_lenL, g_isN, g_yes, g_truL, g_truI, g_isNon_tup, g_isNon_non, g_slT, g_slL, g_slS, g_listL, g_listT, g_tupleL, g_raise, g_raiseA, g_kRaise1, g_kRaise2, g_setF, g_kSetF, g_make, g_meth, g_kMeth2, g_fld, g_kFldD, g_tryA, g_tryA_next, g_tryA_ret, g_cast0, g_cast1, g_cast2, g_cast3, g_cast4, g_cast5, g_cast6, g_cast7, g_cast8, g_cast9, g_cast10, g_cast11, g_cast12, g_cast13, lk, List.set_cons_zero, List.set_cons_succ, Bool.not_true, Bool.not_false, decide_true, decide_false, Int.reduceEq, Int.reduceLT, Int.reduceLE, Int.reduceSub, Int.reduceAdd, Int.reduceNeg, Int.reduceToNat, Int.reduceNe, Nat.reduceAdd, Nat.reduceLT, Nat.reduceLeDiff, eq_self, if_true, if_false, str_eq, String.reduceEq, isTy, String.reduceBEq, Bool.true_or, Bool.false_or, Bool.or_true, Bool.or_false, Bool.and_true, Bool.true_and, Bool.and_false, Bool.false_and, fIsi, fIsi2, kindOf, List.set_set, List.length_cons, List.length_nil, wipeE, beq_self_eq_true]
  exact trunc0
end PH

namespace PH
open PySem PySem.Spec PyProof.Rows L2
def top (i : Nat) : Stmt := PySem.Challenge.pw_penhome_k13_first_fault_in_reading_order.main.body.getD i (.Pass ⟨0, 0, 0, 0⟩)
abbrev s_is_integer : Stmt := top 8
theorem sc_is_integer : FnScope ["value"] ["value"] (defScope s_is_integer) := ⟨rfl, rfl, rfl, by decide +kernel, rfl, by decide +kernel, by decide +kernel⟩
abbrev s_is_bit : Stmt := top 9
theorem sc_is_bit : FnScope ["value"] ["value"] (defScope s_is_bit) := ⟨rfl, rfl, rfl, by decide +kernel, rfl, by decide +kernel, by decide +kernel⟩
abbrev s_is_command : Stmt := top 10
theorem sc_is_command : FnScope ["value", "many", "low", "high", "number"] ["value"] (defScope s_is_command) := ⟨rfl, rfl, rfl, by decide +kernel, rfl, by decide +kernel, by decide +kernel⟩
abbrev s_blocks_of : Stmt := top 16
theorem sc_blocks_of : FnScope ["statement", "word"] ["statement"] (defScope s_blocks_of) := ⟨rfl, rfl, rfl, by decide +kernel, rfl, by decide +kernel, by decide +kernel⟩
abbrev s_with_blocks : Stmt := top 17
theorem sc_with_blocks : FnScope ["statement", "blocks", "word"] ["statement", "blocks"] (defScope s_with_blocks) := ⟨rfl, rfl, rfl, by decide +kernel, rfl, by decide +kernel, by decide +kernel⟩
abbrev s_copied_block : Stmt := top 19
theorem sc_copied_block : FnScope ["block", "statement"] ["block"] (defScope s_copied_block) := ⟨rfl, rfl, rfl, by decide +kernel, rfl, by decide +kernel, by decide +kernel⟩
abbrev s_copied_statement : Stmt := top 18
theorem sc_copied_statement : FnScope ["statement", "block"] ["statement"] (defScope s_copied_statement) := ⟨rfl, rfl, rfl, by decide +kernel, rfl, by decide +kernel, by decide +kernel⟩
abbrev s_well_formed : Stmt := top 20
theorem sc_well_formed : FnScope ["value", "level", "many", "word"] ["value", "level", "many"] (defScope s_well_formed) := ⟨rfl, rfl, rfl, by decide +kernel, rfl, by decide +kernel, by decide +kernel⟩
abbrev s_first_fault : Stmt := top 21
theorem sc_first_fault : FnScope ["block", "level", "many", "path", "met", "at", "statement", "here", "number", "inner", "fault"] ["block", "level", "many", "path", "met"] (defScope s_first_fault) := ⟨rfl, rfl, rfl, by decide +kernel, rfl, by decide +kernel, by decide +kernel⟩
abbrev s_Book_init : Stmt := (clBody (top 23)).getD 0 (.Pass ⟨0, 0, 0, 0⟩)
theorem sc_Book_init : FnScope ["self", "bodies", "procedure", "body", "fault", "met"] ["self", "bodies"] (defScope s_Book_init) := ⟨rfl, rfl, rfl, by decide +kernel, rfl, by decide +kernel, by decide +kernel⟩
abbrev s_Book_len : Stmt := (clBody (top 23)).getD 1 (.Pass ⟨0, 0, 0, 0⟩)
theorem sc_Book_len : FnScope ["self"] ["self"] (defScope s_Book_len) := ⟨rfl, rfl, rfl, by decide +kernel, rfl, by decide +kernel, by decide +kernel⟩
abbrev s_Book_bodies : Stmt := (clBody (top 23)).getD 6 (.Pass ⟨0, 0, 0, 0⟩)
theorem sc_Book_bodies : FnScope ["self", "body"] ["self"] (defScope s_Book_bodies) := ⟨rfl, rfl, rfl, by decide +kernel, rfl, by decide +kernel, by decide +kernel⟩
abbrev s_L_pool : Stmt := top 26
theorem sc_L_pool : FnScope ["_law_script", "_law_cell"] ["_law_script"] (defScope s_L_pool) := ⟨rfl, rfl, rfl, by decide +kernel, rfl, by decide +kernel, by decide +kernel⟩
abbrev s_L_draw : Stmt := top 27
theorem sc_L_draw : FnScope ["_law_pool_here", "_law_many", "_law_at", "_law_cell", "_law_number"] ["_law_pool_here", "_law_many"] (defScope s_L_draw) := ⟨rfl, rfl, rfl, by decide +kernel, rfl, by decide +kernel, by decide +kernel⟩
abbrev s_L_any_command : Stmt := top 28
theorem sc_L_any_command : FnScope ["_law_pool_here", "_law_kind"] ["_law_pool_here"] (defScope s_L_any_command) := ⟨rfl, rfl, rfl, by decide +kernel, rfl, by decide +kernel, by decide +kernel⟩
abbrev s_L_blocks : Stmt := top 29
theorem sc_L_blocks : FnScope ["_law_statement", "_law_item"] ["_law_statement"] (defScope s_L_blocks) := ⟨rfl, rfl, rfl, by decide +kernel, rfl, by decide +kernel, by decide +kernel⟩
abbrev s_L_with : Stmt := top 30
theorem sc_L_with : FnScope ["_law_statement", "_law_blocks_here"] ["_law_statement", "_law_blocks_here"] (defScope s_L_with) := ⟨rfl, rfl, rfl, by decide +kernel, rfl, by decide +kernel, by decide +kernel⟩
abbrev s_L_copy : Stmt := top 31
theorem sc_L_copy : FnScope ["_law_block", "_law_row", "_law_inner"] ["_law_block"] (defScope s_L_copy) := ⟨rfl, rfl, rfl, by decide +kernel, rfl, by decide +kernel, by decide +kernel⟩
abbrev s_L_copies : Stmt := top 32
theorem sc_L_copies : FnScope ["_law_bodies", "_law_body"] ["_law_bodies"] (defScope s_L_copies) := ⟨rfl, rfl, rfl, by decide +kernel, rfl, by decide +kernel, by decide +kernel⟩
abbrev s_L_same : Stmt := top 33
theorem sc_L_same : FnScope ["_law_one", "_law_other", "_law_k"] ["_law_one", "_law_other"] (defScope s_L_same) := ⟨rfl, rfl, rfl, by decide +kernel, rfl, by decide +kernel, by decide +kernel⟩
abbrev s_L_faulty_list : Stmt := top 35
theorem sc_L_faulty_list : FnScope ["_law_pool_here", "_law_level", "_law_room", "_law_many", "_law_bad", "_law_block", "_law_size", "_law_step"] ["_law_pool_here", "_law_level", "_law_room", "_law_many", "_law_bad"] (defScope s_L_faulty_list) := ⟨rfl, rfl, rfl, by decide +kernel, rfl, by decide +kernel, by decide +kernel⟩
abbrev s_L_faulty_thing : Stmt := top 34
theorem sc_L_faulty_thing : FnScope ["_law_pool_here", "_law_level", "_law_room", "_law_many", "_law_bad", "_law_kind", "_law_one"] ["_law_pool_here", "_law_level", "_law_room", "_law_many", "_law_bad"] (defScope s_L_faulty_thing) := ⟨rfl, rfl, rfl, by decide +kernel, rfl, by decide +kernel, by decide +kernel⟩
abbrev s_L_fault : Stmt := top 36
theorem sc_L_fault : FnScope ["_law_block", "_law_level", "_law_path", "_law_met", "_law_at", "_law_here", "_law_statement", "_law_blocks_here", "_law_number", "_law_inner"] ["_law_block", "_law_level", "_law_path", "_law_met"] (defScope s_L_fault) := ⟨rfl, rfl, rfl, by decide +kernel, rfl, by decide +kernel, by decide +kernel⟩
abbrev s_L_made : Stmt := top 37
theorem sc_L_made : FnScope ["_law_bodies", "_law_book", "e"] ["_law_bodies"] (defScope s_L_made) := ⟨rfl, rfl, rfl, by decide +kernel, rfl, by decide +kernel, by decide +kernel⟩
abbrev s_law_k13 : Stmt := top 38
theorem sc_law_k13 : FnScope ["_law_script", "_law_pool_here", "_law_bad", "_law_many", "_law_room", "_law_bodies", "_law_due", "_law_procedure", "_law_path", "_law_k"] ["_law_script"] (defScope s_law_k13) := ⟨rfl, rfl, rfl, by decide +kernel, rfl, by decide +kernel, by decide +kernel⟩
abbrev si_NoBook : Stmt := (clBody (top 3)).getD 0 (.Pass ⟨0, 0, 0, 0⟩)
theorem sci_NoBook : FnScope ["self", "procedure", "path"] ["self", "procedure", "path"] (defScope si_NoBook) := ⟨rfl, rfl, rfl, by decide +kernel, rfl, by decide +kernel, by decide +kernel⟩
structure Txt (w : World) (K : PySem.W.Frag) (mg : Str → Option Value) : Prop where
  n_isinstance : mg "isinstance" = none
  n_int : mg "int" = none
  n_bool : mg "bool" = none
  n_tuple : mg "tuple" = none
  n_len : mg "len" = none
  n_str : mg "str" = none
  lim : Lim K
  k_LIMITS : ∃ es n, KDict K w (He.ga K "LIMITS") es n
  g_LIMITS : mg "LIMITS" = some (.ref (He.ga K "LIMITS"))
  n_all : mg "all" = none
  i_DEEPEST : ∃ t, mg "DEEPEST" = some (.int 3 t)
  n_list : mg "list" = none
  n_enumerate : mg "enumerate" = none
  i_MOST_IN_LIST : ∃ t, mg "MOST_IN_LIST" = some (.int 8 t)
  i_MOST_IN_PROCEDURE : ∃ t, mg "MOST_IN_PROCEDURE" = some (.int 12 t)
  i_MOST_PROCEDURES : ∃ t, mg "MOST_PROCEDURES" = some (.int 3 t)
  xa_NoBook : XaF K mg "NoBook" ["procedure", "path"]
  fx_NoBook : FnM K "NoBook" "__init__" "NoBook.__init__" si_NoBook
  c_Book : Cls K (He.ga K "Book")
  a_Book_own : NoAttr K (He.ga K "Book") "own"
  n_range : mg "range" = none
  xm : XMs K ["NoBook", "NoPath", "NoProcedure"]
  T_Book : ClF K mg "Book"
  n_reversed : mg "reversed" = none
  G_is_integer : mg "is_integer" = some (.ref (He.ga K "is_integer"))
  f_is_integer : FnP K "is_integer" s_is_integer
  G_is_bit : mg "is_bit" = some (.ref (He.ga K "is_bit"))
  f_is_bit : FnP K "is_bit" s_is_bit
  G_is_command : mg "is_command" = some (.ref (He.ga K "is_command"))
  f_is_command : FnP K "is_command" s_is_command
  G_blocks_of : mg "blocks_of" = some (.ref (He.ga K "blocks_of"))
  f_blocks_of : FnP K "blocks_of" s_blocks_of
  G_with_blocks : mg "with_blocks" = some (.ref (He.ga K "with_blocks"))
  f_with_blocks : FnP K "with_blocks" s_with_blocks
  G_copied_block : mg "copied_block" = some (.ref (He.ga K "copied_block"))
  f_copied_block : FnP K "copied_block" s_copied_block
  G_copied_statement : mg "copied_statement" = some (.ref (He.ga K "copied_statement"))
  f_copied_statement : FnP K "copied_statement" s_copied_statement
  G_well_formed : mg "well_formed" = some (.ref (He.ga K "well_formed"))
  f_well_formed : FnP K "well_formed" s_well_formed
  G_first_fault : mg "first_fault" = some (.ref (He.ga K "first_fault"))
  f_first_fault : FnP K "first_fault" s_first_fault
  M_Book_init : Meth K (He.ga K "Book") "__init__" (He.ma K (He.ga K "Book") "__init__")
  f_Book_init : FnM K "Book" "__init__" "Book.__init__" s_Book_init
  M_Book_len : Meth K (He.ga K "Book") "__len__" (He.ma K (He.ga K "Book") "__len__")
  f_Book_len : FnM K "Book" "__len__" "Book.__len__" s_Book_len
  M_Book_bodies : Meth K (He.ga K "Book") "bodies" (He.ma K (He.ga K "Book") "bodies")
  f_Book_bodies : FnM K "Book" "bodies" "Book.bodies" s_Book_bodies
  G_L_pool : mg "_law_pool" = some (.ref (He.ga K "_law_pool"))
  f_L_pool : FnP K "_law_pool" s_L_pool
  G_L_draw : mg "_law_draw" = some (.ref (He.ga K "_law_draw"))
  f_L_draw : FnP K "_law_draw" s_L_draw
  G_L_any_command : mg "_law_any_command" = some (.ref (He.ga K "_law_any_command"))
  f_L_any_command : FnP K "_law_any_command" s_L_any_command
  G_L_blocks : mg "_law_blocks" = some (.ref (He.ga K "_law_blocks"))
  f_L_blocks : FnP K "_law_blocks" s_L_blocks
  G_L_with : mg "_law_with" = some (.ref (He.ga K "_law_with"))
  f_L_with : FnP K "_law_with" s_L_with
  G_L_copy : mg "_law_copy" = some (.ref (He.ga K "_law_copy"))
  f_L_copy : FnP K "_law_copy" s_L_copy
  G_L_copies : mg "_law_copies" = some (.ref (He.ga K "_law_copies"))
  f_L_copies : FnP K "_law_copies" s_L_copies
  G_L_same : mg "_law_same" = some (.ref (He.ga K "_law_same"))
  f_L_same : FnP K "_law_same" s_L_same
  G_L_faulty_list : mg "_law_faulty_list" = some (.ref (He.ga K "_law_faulty_list"))
  f_L_faulty_list : FnP K "_law_faulty_list" s_L_faulty_list
  G_L_faulty_thing : mg "_law_faulty_thing" = some (.ref (He.ga K "_law_faulty_thing"))
  f_L_faulty_thing : FnP K "_law_faulty_thing" s_L_faulty_thing
  G_L_fault : mg "_law_fault" = some (.ref (He.ga K "_law_fault"))
  f_L_fault : FnP K "_law_fault" s_L_fault
  G_L_made : mg "_law_made" = some (.ref (He.ga K "_law_made"))
  f_L_made : FnP K "_law_made" s_L_made
  G_law_k13 : mg "law" = some (.ref (He.ga K "law"))
  f_law_k13 : FnP K "law" s_law_k13
section
variable {P : Program} {w : World} {K : PySem.W.Frag} {mg : Str → Option Value} {base : Heap}
theorem xa_NoBook (T : Txt w K mg) : XcA P w K mg base 1 "NoBook" ["self", "procedure", "path"] (spX2 (He.ga K "NoBook") "procedure" "path") :=
  okInit (m := "__init__") T.xa_NoBook T.fx_NoBook sci_NoBook spX2_len (fun _ _ _ _ _ _ us hl => match us, hl with | [_, _, _], _ => rfl) fun cdv A outer s H vs Q E hr hsp => by
    obtain ⟨a, y, z, e, ha, h⟩ := hsp
    subst e
    exact ⟨_, (pss_cons (ps_ost (cv 0) (cv 1)) (pss_one (ps_ost (cv 0) (cv 2)))), rd_X2 T.xa_NoBook (by simp) (by simp) ha (fun _ _ => rfl) h⟩
theorem ok_is_integer (T : Txt w K mg) : OkX P w K mg base 1 "is_integer" ["value"] (spF K m_is_integer) :=
  okF (k := 0) (N := ["value"]) T.f_is_integer T.G_is_integer sc_is_integer (Runs.plain (n := 1) (np := 1)) (fun _ _ _ _ _ _ us hl => match us, hl with | [_], _ => rfl) fun cdv A outer s H E hr => by
    have nd : (["value"] : List Str).Nodup := sc_is_integer.nd
    have tk := takes_of (X := cxOf (L2.CX P w) P w K mg base ["value"] "is_integer" (defScope s_is_integer) (He.ga K "is_integer") cdv A outer s H E) (E := E) rfl rfl rfl rfl
    unfold b_is_integer
    exact (fss_one (fs_ret (fe_and (f_isi (T := "int") T.n_isinstance T.n_int (fv 0)) (pe_one (fe_not (f_isi (T := "bool") T.n_isinstance T.n_bool (fv 0)))))))
theorem ok_is_bit (T : Txt w K mg) : OkX P w K mg base 2 "is_bit" ["value"] (spF K m_is_bit) :=
  okF (k := 1) (N := ["value"]) T.f_is_bit T.G_is_bit sc_is_bit (Runs.plain (n := 1) (np := 1)) (fun _ _ _ _ _ _ us hl => match us, hl with | [_], _ => rfl) fun cdv A outer s H E hr => by
    have nd : (["value"] : List Str).Nodup := sc_is_bit.nd
    have tk := takes_of (X := cxOf (L2.CX P w) P w K mg base ["value"] "is_bit" (defScope s_is_bit) (He.ga K "is_bit") cdv A outer s H E) (E := E) rfl rfl rfl rfl
    unfold b_is_bit
    exact (fss_one (fs_ret (fe_and (f_call (ok_is_integer T) hr tk (fa_cons (fv 0) fa_nil)) (pe_one (f_chain op_leC s_le op_leC s_le (fcst pe_int fun _ _ => rfl) (fv 0) (fcst pe_int fun _ _ => rfl))))))
theorem ok_is_command (T : Txt w K mg) : OkX P w K mg base 2 "is_command" ["value"] (spF K m_is_command) :=
  okF (k := 1) (N := ["value", "many", "low", "high", "number"]) T.f_is_command T.G_is_command sc_is_command (Runs.plain (n := 5) (np := 1)) (fun _ _ _ _ _ _ us hl => match us, hl with | [_], _ => rfl) fun cdv A outer s H E hr => by
    have nd : (["value", "many", "low", "high", "number"] : List Str).Nodup := sc_is_command.nd
    have tk := takes_of (X := cxOf (L2.CX P w) P w K mg base ["value", "many", "low", "high", "number"] "is_command" (defScope s_is_command) (He.ga K "is_command") cdv A outer s H E) (E := E) rfl rfl rfl rfl
    unfold b_is_command e_is_command_1
    exact (fss_cons (fs_if (PW.pt (fw_or (ft_not (ft_val (f_isi (T := "tuple") T.n_isinstance T.n_tuple (fv 0)))) (pw_or1 (ft_cmp (op_eqC hr.units) s_eq (f_len T.n_len (fv 0)) (fcst pe_int fun _ _ => rfl))))) (fss_one (fs_ret (fcst pe_bl fun _ _ => rfl))) fss_nil)
    (fss_cons (fs_if (PW.pt (fw_or (ft_not (ft_val (f_isi (T := "str") T.n_isinstance T.n_str (f_ix (fv 0) (fcst pe_int fun _ _ => rfl))))) (pw_or1 (ft_notLim T.lim T.k_LIMITS T.g_LIMITS (f_ix (fv 0) (fcst pe_int fun _ _ => rfl)))))) (fss_one (fs_ret (fcst pe_bl fun _ _ => rfl))) fss_nil)
    (fss_cons (fs_asg (t := (.tp [1, 2, 3])) (f_lim T.lim T.k_LIMITS T.g_LIMITS (f_ix (fv 0) (fcst pe_int fun _ _ => rfl))) (pg_tup rfl (pgs_cons (pg_name (i := 1) nd rfl (.inl rfl)) (pgs_cons (pg_name (i := 2) nd rfl (.inr rfl)) (pgs_cons (pg_name (i := 3) nd rfl (.inr rfl)) pgs_nil)))))
    (fss_cons (fs_if (ft_cmp (op_neC hr.units) s_ne (f_len T.n_len (fv 0)) (f_op op_addC s_add (fv 1) (fcst pe_int fun _ _ => rfl))) (fss_one (fs_ret (fcst pe_bl fun _ _ => rfl))) fss_nil)
    (fss_one (fs_ret (f_all T.n_all (f_lc (own := [("number", 4)]) (t := (.nm 4)) rfl nd (fi_seq (f_sl (fv 0) (fo_some (fcst pe_int fun _ _ => rfl)) fo_none)) (blkOk_by (own := [("number", 4)]) (N := ["value", "many", "low", "high", "number"]) (sc := defScope s_is_command) (by decide +kernel)) (fun _ _ _ _ _ => (pg_name (i := 4) nd rfl (.inl rfl))) (fun _ _ _ _ _ => fts_nil) (fun _ _ _ _ _ => (fe_and (f_call (ok_is_integer T) hr takes0 (fa_cons (fv 4) fa_nil)) (pe_one (f_chain op_leC s_le op_leC s_le (fv 2) (fv 4) (fv 3)))))))))))))
theorem ok_blocks_of (T : Txt w K mg) : OkX P w K mg base 1 "blocks_of" ["statement"] (spF K m_blocks_of) :=
  okF (k := 0) (N := ["statement", "word"]) T.f_blocks_of T.G_blocks_of sc_blocks_of (Runs.plain (n := 2) (np := 1)) (fun _ _ _ _ _ _ us hl => match us, hl with | [_], _ => rfl) fun cdv A outer s H E hr => by
    have nd : (["statement", "word"] : List Str).Nodup := sc_blocks_of.nd
    have tk := takes_of (X := cxOf (L2.CX P w) P w K mg base ["statement", "word"] "blocks_of" (defScope s_blocks_of) (He.ga K "blocks_of") cdv A outer s H E) (E := E) rfl rfl rfl rfl
    unfold b_blocks_of
    exact (fss_cons (fs_set (i := 1) nd rfl (.inl rfl) (f_ix (fv 0) (fcst pe_int fun _ _ => rfl)))
    (fss_cons (fs_if (PW.pt (fw_or (ft_cmp (op_eqC hr.units) s_eq (fv 1) (fcst pe_str fun _ _ => rfl)) (pw_or1 (ft_cmp (op_eqC hr.units) s_eq (fv 1) (fcst pe_str fun _ _ => rfl))))) (fss_one (fs_ret (f_lst (fa_cons (f_ix (fv 0) (fcst pe_int fun _ _ => rfl)) fa_nil)))) fss_nil)
    (fss_cons (fs_if (ft_cmp (op_eqC hr.units) s_eq (fv 1) (fcst pe_str fun _ _ => rfl)) (fss_one (fs_ret (f_lst (fa_cons (f_ix (fv 0) (fcst pe_int fun _ _ => rfl)) (fa_cons (f_ix (fv 0) (fcst pe_int fun _ _ => rfl)) fa_nil))))) fss_nil)
    (fss_cons (fs_if (ft_cmp (op_eqC hr.units) s_eq (fv 1) (fcst pe_str fun _ _ => rfl)) (fss_one (fs_ret (f_ix (fv 0) (fcst pe_int fun _ _ => rfl)))) fss_nil)
    (fss_one (fs_ret (f_lst fa_nil)))))))
theorem ok_with_blocks (T : Txt w K mg) : OkX P w K mg base 1 "with_blocks" ["statement", "blocks"] (spF K m_with_blocks) :=
  okF (k := 0) (N := ["statement", "blocks", "word"]) T.f_with_blocks T.G_with_blocks sc_with_blocks (Runs.plain (n := 3) (np := 2)) (fun _ _ _ _ _ _ us hl => match us, hl with | [_, _], _ => rfl) fun cdv A outer s H E hr => by
    have nd : (["statement", "blocks", "word"] : List Str).Nodup := sc_with_blocks.nd
    have tk := takes_of (X := cxOf (L2.CX P w) P w K mg base ["statement", "blocks", "word"] "with_blocks" (defScope s_with_blocks) (He.ga K "with_blocks") cdv A outer s H E) (E := E) rfl rfl rfl rfl
    unfold b_with_blocks
    exact (fss_cons (fs_set (i := 2) nd rfl (.inl rfl) (f_ix (fv 0) (fcst pe_int fun _ _ => rfl)))
    (fss_cons (fs_if (PW.pt (fw_or (ft_cmp (op_eqC hr.units) s_eq (fv 2) (fcst pe_str fun _ _ => rfl)) (pw_or1 (ft_cmp (op_eqC hr.units) s_eq (fv 2) (fcst pe_str fun _ _ => rfl))))) (fss_one (fs_ret (f_tup (fa_cons (fv 2) (fa_cons (f_ix (fv 1) (fcst pe_int fun _ _ => rfl)) fa_nil))))) fss_nil)
    (fss_cons (fs_if (ft_cmp (op_eqC hr.units) s_eq (fv 2) (fcst pe_str fun _ _ => rfl)) (fss_one (fs_ret (f_tup (fa_cons (fv 2) (fa_cons (f_ix (fv 1) (fcst pe_int fun _ _ => rfl)) (fa_cons (f_ix (fv 1) (fcst pe_int fun _ _ => rfl)) fa_nil)))))) fss_nil)
    (fss_cons (fs_if (ft_cmp (op_eqC hr.units) s_eq (fv 2) (fcst pe_str fun _ _ => rfl)) (fss_one (fs_ret (f_tup (fa_cons (fv 2) (fa_cons (f_ix (fv 0) (fcst pe_int fun _ _ => rfl)) (fa_cons (f_ix (fv 0) (fcst pe_int fun _ _ => rfl)) (fa_cons (fv 1) fa_nil))))))) fss_nil)
    (fss_one (fs_ret (fv 0)))))))
theorem okg_copied_statement (T : Txt w K mg) : ∀ n, (OkX P w K mg base (1 + n + 1) "copied_statement" ["statement"] (spF K (m_copied_statement n))) ∧ (OkX P w K mg base (1 + n + 1) "copied_block" ["block"] (spF K (m_copied_block n)))
  | 0 => ⟨okStuck T.f_copied_statement T.G_copied_statement sc_copied_statement (fun _ _ _ _ _ _ us hl => match us, hl with | [_], _ => rfl), okStuck T.f_copied_block T.G_copied_block sc_copied_block (fun _ _ _ _ _ _ us hl => match us, hl with | [_], _ => rfl)⟩
  | n + 1 => by
    have ih := okg_copied_statement T n
    have ih_copied_statement := ih.1
    have ih_copied_block := ih.2
    refine ⟨?_, ?_⟩
    · exact okF (k := 1 + n + 1) (N := ["statement", "block"]) T.f_copied_statement T.G_copied_statement sc_copied_statement (Runs.plain (n := 2) (np := 1)) (fun _ _ _ _ _ _ us hl => match us, hl with | [_], _ => rfl) fun cdv A outer s H E hr => by
        have nd : (["statement", "block"] : List Str).Nodup := sc_copied_statement.nd
        have tk := takes_of (X := cxOf (L2.CX P w) P w K mg base ["statement", "block"] "copied_statement" (defScope s_copied_statement) (He.ga K "copied_statement") cdv A outer s H E) (E := E) rfl rfl rfl rfl
        unfold b_copied_statement
        exact (fss_one (fs_ret (f_call (ok_with_blocks T) hr tk (fa_cons (fv 0) (fa_cons (f_lc (own := [("block", 1)]) (t := (.nm 1)) rfl nd (fi_seq (f_call (ok_blocks_of T) hr tk (fa_cons (fv 0) fa_nil) (by omega))) (blkOk_by (own := [("block", 1)]) (N := ["statement", "block"]) (sc := defScope s_copied_statement) (by decide +kernel)) (fun _ _ _ _ _ => (pg_name (i := 1) nd rfl (.inl rfl))) (fun _ _ _ _ _ => fts_nil) (fun _ _ _ _ _ => (f_call ih_copied_block hr takes0 (fa_cons (fv 1) fa_nil) (by omega)))) fa_nil)) (by omega))))
    · exact okF (k := 1 + n + 1) (N := ["block", "statement"]) T.f_copied_block T.G_copied_block sc_copied_block (Runs.plain (n := 2) (np := 1)) (fun _ _ _ _ _ _ us hl => match us, hl with | [_], _ => rfl) fun cdv A outer s H E hr => by
        have nd : (["block", "statement"] : List Str).Nodup := sc_copied_block.nd
        have tk := takes_of (X := cxOf (L2.CX P w) P w K mg base ["block", "statement"] "copied_block" (defScope s_copied_block) (He.ga K "copied_block") cdv A outer s H E) (E := E) rfl rfl rfl rfl
        unfold b_copied_block
        exact (fss_one (fs_ret (f_lc (own := [("statement", 1)]) (t := (.nm 1)) rfl nd (fi_seq (fv 0)) (blkOk_by (own := [("statement", 1)]) (N := ["block", "statement"]) (sc := defScope s_copied_block) (by decide +kernel)) (fun _ _ _ _ _ => (pg_name (i := 1) nd rfl (.inl rfl))) (fun _ _ _ _ _ => fts_nil) (fun _ _ _ _ _ => (f_call ih_copied_statement hr takes0 (fa_cons (fv 1) fa_nil) (by omega))))))
theorem ok_copied_statement (T : Txt w K mg) (n : Nat) : OkX P w K mg base (1 + n + 1) "copied_statement" ["statement"] (spF K (m_copied_statement n)) := (okg_copied_statement T n).1
theorem ok_copied_block (T : Txt w K mg) (n : Nat) : OkX P w K mg base (1 + n + 1) "copied_block" ["block"] (spF K (m_copied_block n)) := (okg_copied_statement T n).2
theorem ok_well_formed (T : Txt w K mg) : OkX P w K mg base 3 "well_formed" ["value", "level", "many"] (spF K m_well_formed) :=
  okF (k := 2) (N := ["value", "level", "many", "word"]) T.f_well_formed T.G_well_formed sc_well_formed (Runs.plain (n := 4) (np := 3)) (fun _ _ _ _ _ _ us hl => match us, hl with | [_, _, _], _ => rfl) fun cdv A outer s H E hr => by
    have nd : (["value", "level", "many", "word"] : List Str).Nodup := sc_well_formed.nd
    have tk := takes_of (X := cxOf (L2.CX P w) P w K mg base ["value", "level", "many", "word"] "well_formed" (defScope s_well_formed) (He.ga K "well_formed") cdv A outer s H E) (E := E) rfl rfl rfl rfl
    unfold b_well_formed
    exact (fss_cons (fs_if (ft_val (f_call (ok_is_command T) hr tk (fa_cons (fv 0) fa_nil))) (fss_one (fs_ret (fcst pe_bl fun _ _ => rfl))) fss_nil)
    (fss_cons (fs_if (PW.pt (fw_or (ft_not (ft_val (f_isi (T := "tuple") T.n_isinstance T.n_tuple (fv 0)))) (fw_or (ft_cmp op_ltC s_lt (f_len T.n_len (fv 0)) (fcst pe_int fun _ _ => rfl)) (pw_or1 (ft_not (ft_val (f_isi (T := "str") T.n_isinstance T.n_str (f_ix (fv 0) (fcst pe_int fun _ _ => rfl))))))))) (fss_one (fs_ret (fcst pe_bl fun _ _ => rfl))) fss_nil)
    (fss_cons (fs_set (i := 3) nd rfl (.inl rfl) (f_ix (fv 0) (fcst pe_int fun _ _ => rfl)))
    (fss_cons (fs_if (ft_cmp (op_eqC hr.units) s_eq (fv 3) (fcst pe_str fun _ _ => rfl)) (fss_one (fs_ret (fe_and (f_cmp (op_eqC hr.units) s_eq (f_len T.n_len (fv 0)) (fcst pe_int fun _ _ => rfl)) (pe_one (f_call (ok_is_bit T) hr tk (fa_cons (f_ix (fv 0) (fcst pe_int fun _ _ => rfl)) fa_nil)))))) fss_nil)
    (fss_cons (fs_if (ft_cmp (op_eqC hr.units) s_eq (fv 1) (f_gint T.i_DEEPEST)) (fss_one (fs_ret (fcst pe_bl fun _ _ => rfl))) fss_nil)
    (fss_cons (fs_if (PW.pt (fw_or (ft_cmp (op_eqC hr.units) s_eq (fv 3) (fcst pe_str fun _ _ => rfl)) (pw_or1 (ft_cmp (op_eqC hr.units) s_eq (fv 3) (fcst pe_str fun _ _ => rfl))))) (fss_one (fs_ret (fe_and (f_cmp (op_eqC hr.units) s_eq (f_len T.n_len (fv 0)) (fcst pe_int fun _ _ => rfl)) (pe_one (f_isi (T := "list") T.n_isinstance T.n_list (f_ix (fv 0) (fcst pe_int fun _ _ => rfl))))))) fss_nil)
    (fss_cons (fs_if (ft_cmp (op_eqC hr.units) s_eq (fv 3) (fcst pe_str fun _ _ => rfl)) (fss_one (fs_ret (fe_and (f_cmp (op_eqC hr.units) s_eq (f_len T.n_len (fv 0)) (fcst pe_int fun _ _ => rfl)) (fe_and (f_isi (T := "list") T.n_isinstance T.n_list (f_ix (fv 0) (fcst pe_int fun _ _ => rfl))) (pe_one (f_isi (T := "list") T.n_isinstance T.n_list (f_ix (fv 0) (fcst pe_int fun _ _ => rfl)))))))) fss_nil)
    (fss_cons (fs_if (PW.pt (fw_or (ft_cmp (op_neC hr.units) s_ne (fv 3) (fcst pe_str fun _ _ => rfl)) (pw_or1 (ft_cmp (op_neC hr.units) s_ne (f_len T.n_len (fv 0)) (fcst pe_int fun _ _ => rfl))))) (fss_one (fs_ret (fcst pe_bl fun _ _ => rfl))) fss_nil)
    (fss_cons (fs_if (PW.pt (fw_or (ft_not (ft_val (f_call (ok_is_integer T) hr tk (fa_cons (f_ix (fv 0) (fcst pe_int fun _ _ => rfl)) fa_nil)))) (pw_or1 (ft_not (ft_chain op_leC s_le op_ltC s_lt (fcst pe_int fun _ _ => rfl) (f_ix (fv 0) (fcst pe_int fun _ _ => rfl)) (fv 2)))))) (fss_one (fs_ret (fcst pe_bl fun _ _ => rfl))) fss_nil)
    (fss_cons (fs_if (PW.pt (fw_or (ft_not (ft_val (f_isi (T := "bool") T.n_isinstance T.n_bool (f_ix (fv 0) (fcst pe_int fun _ _ => rfl))))) (fw_or (ft_not (ft_val (f_isi (T := "list") T.n_isinstance T.n_list (f_ix (fv 0) (fcst pe_int fun _ _ => rfl))))) (pw_or1 (ft_cmp (op_neC hr.units) s_ne (f_len T.n_len (f_ix (fv 0) (fcst pe_int fun _ _ => rfl))) (fcst pe_int fun _ _ => rfl)))))) (fss_one (fs_ret (fcst pe_bl fun _ _ => rfl))) fss_nil)
    (fss_one (fs_ret (fe_and (f_isi (T := "list") T.n_isinstance T.n_list (f_ix (f_ix (fv 0) (fcst pe_int fun _ _ => rfl)) (fcst pe_int fun _ _ => rfl))) (pe_one (f_isi (T := "list") T.n_isinstance T.n_list (f_ix (f_ix (fv 0) (fcst pe_int fun _ _ => rfl)) (fcst pe_int fun _ _ => rfl)))))))))))))))))
theorem ok_first_fault (T : Txt w K mg) : ∀ n, OkX P w K mg base (3 + n + 1) "first_fault" ["block", "level", "many", "path", "met"] (spF K (m_first_fault n))
  | 0 => okStuck T.f_first_fault T.G_first_fault sc_first_fault (fun _ _ _ _ _ _ us hl => match us, hl with | [_, _, _, _, _], _ => rfl)
  | n + 1 => by
    have ih_first_fault := ok_first_fault T n
    exact okF (k := 3 + n + 1) (N := ["block", "level", "many", "path", "met", "at", "statement", "here", "number", "inner", "fault"]) T.f_first_fault T.G_first_fault sc_first_fault (Runs.plain (n := 11) (np := 5)) (fun _ _ _ _ _ _ us hl => match us, hl with | [_, _, _, _, _], _ => rfl) fun cdv A outer s H E hr => by
      have nd : (["block", "level", "many", "path", "met", "at", "statement", "here", "number", "inner", "fault"] : List Str).Nodup := sc_first_fault.nd
      have tk := takes_of (X := cxOf (L2.CX P w) P w K mg base ["block", "level", "many", "path", "met", "at", "statement", "here", "number", "inner", "fault"] "first_fault" (defScope s_first_fault) (He.ga K "first_fault") cdv A outer s H E) (E := E) rfl rfl rfl rfl
      unfold b_first_fault w_first_fault_2 w_first_fault_1
      exact (fss_cons (fs_for (t := (.tp [5, 6])) (passes_of rfl) rfl (fi_enum (by rfl) T.n_enumerate (fv 0)) (pg_tup rfl (pgs_cons (pg_name (i := 5) nd rfl (.inl rfl)) (pgs_cons (pg_name (i := 6) nd rfl (.inl rfl)) pgs_nil))) (fss_wipe [5, 6, 7, 8, 9, 10] (fss_cons (fs_set (i := 7) nd rfl (.inl rfl) (f_op op_addC s_add (fv 3) (f_tup (fa_cons (fv 5) fa_nil))))
    (fss_cons (fs_if (PW.pt (fw_or (ft_cmp (op_eqC hr.units) s_eq (fv 5) (f_gint T.i_MOST_IN_LIST)) (fw_or (ft_cmp (op_eqC hr.units) s_eq (fv 4) (f_gint T.i_MOST_IN_PROCEDURE)) (pw_or1 (ft_not (ft_val (f_call (ok_well_formed T) hr tk (fa_cons (fv 6) (fa_cons (fv 1) (fa_cons (fv 2) fa_nil))) (by omega)))))))) (fss_one (fs_ret (f_tup (fa_cons (fv 7) (fa_cons (fv 4) fa_nil))))) fss_nil)
    (fss_cons (fs_augAdd (k := 4) nd rfl (.inl rfl) (fcst pe_int fun _ _ => rfl))
    (fss_one (fs_for (t := (.tp [8, 9])) (passes_of rfl) rfl (fi_enum (by rfl) T.n_enumerate (f_call (ok_blocks_of T) hr tk (fa_cons (fv 6) fa_nil) (by omega))) (pg_tup rfl (pgs_cons (pg_name (i := 8) nd rfl (.inl rfl)) (pgs_cons (pg_name (i := 9) nd rfl (.inl rfl)) pgs_nil))) (fss_wipe [8, 9, 10] (fss_cons (fs_asg (t := (.tp [10, 4])) (f_call ih_first_fault hr tk (fa_cons (fv 9) (fa_cons (f_op op_addC s_add (fv 1) (fcst pe_int fun _ _ => rfl)) (fa_cons (fv 2) (fa_cons (f_op op_addC s_add (fv 7) (f_tup (fa_cons (fv 8) fa_nil))) (fa_cons (fv 4) fa_nil))))) (by omega)) (pg_tup rfl (pgs_cons (pg_name (i := 10) nd rfl (.inl rfl)) (pgs_cons (pg_name (i := 4) nd rfl (.inl rfl)) pgs_nil))))
    (fss_one (fs_if (ft_cmp op_notNC s_notN (fv 10) (fcst pe_non fun _ _ => rfl)) (fss_one (fs_ret (f_tup (fa_cons (fv 10) (fa_cons (fv 4) fa_nil))))) fss_nil)))))))))))
    (fss_one (fs_ret (f_tup (fa_cons (fcst pe_non fun _ _ => rfl) (fa_cons (fv 4) fa_nil))))))
theorem ok_Book_init (T : Txt w K mg) : OkMX P w K mg base 23 "Book" "__init__" ["self", "bodies"] (spF K m_Book_init) :=
  okFM (k := 22) (N := ["self", "bodies", "procedure", "body", "fault", "met"]) T.f_Book_init T.M_Book_init sc_Book_init (Runs.plain (n := 6) (np := 2)) (fun _ _ _ _ _ _ us hl => match us, hl with | [_, _], _ => rfl) fun cdv A outer s H E hr => by
    have nd : (["self", "bodies", "procedure", "body", "fault", "met"] : List Str).Nodup := sc_Book_init.nd
    have tk := takes_of (X := cxOf (L2.CX P w) P w K mg base ["self", "bodies", "procedure", "body", "fault", "met"] "Book.__init__" (defScope s_Book_init) (He.ma K (He.ga K "Book") "__init__") cdv A outer s H E) (E := E) rfl rfl rfl rfl
    unfold b_Book_init w_Book_init_1
    exact (fss_cons (fs_if (PW.pt (fw_or (ft_not (ft_val (f_isi (T := "list") T.n_isinstance T.n_list (fv 1)))) (pw_or1 (ft_not (ft_chain op_leC s_le op_leC s_le (fcst pe_int fun _ _ => rfl) (f_len T.n_len (fv 1)) (f_gint T.i_MOST_PROCEDURES)))))) (fss_one (fs_raise2 (xa_NoBook T) hr tk (fa_cons (f_neg (fcst pe_int fun _ _ => rfl)) (fa_cons (f_tup fa_nil) fa_nil)))) fss_nil)
    (fss_cons (fs_for (t := (.tp [2, 3])) (passes_of rfl) rfl (fi_enum (by rfl) T.n_enumerate (fv 1)) (pg_tup rfl (pgs_cons (pg_name (i := 2) nd rfl (.inl rfl)) (pgs_cons (pg_name (i := 3) nd rfl (.inl rfl)) pgs_nil))) (fss_wipe [2, 3, 4, 5] (fss_cons (fs_if (ft_not (ft_val (f_isi (T := "list") T.n_isinstance T.n_list (fv 3)))) (fss_one (fs_raise2 (xa_NoBook T) hr tk (fa_cons (fv 2) (fa_cons (f_tup fa_nil) fa_nil)))) fss_nil)
    (fss_cons (fs_asg (t := (.tp [4, 5])) (f_call (ok_first_fault T 10) hr tk (fa_cons (fv 3) (fa_cons (fcst pe_int fun _ _ => rfl) (fa_cons (f_len T.n_len (fv 1)) (fa_cons (f_tup fa_nil) (fa_cons (fcst pe_int fun _ _ => rfl) fa_nil)))))) (pg_tup rfl (pgs_cons (pg_name (i := 4) nd rfl (.inl rfl)) (pgs_cons (pg_name (i := 5) nd rfl (.inl rfl)) pgs_nil))))
    (fss_one (fs_if (ft_cmp op_notNC s_notN (fv 4) (fcst pe_non fun _ _ => rfl)) (fss_one (fs_raise2 (xa_NoBook T) hr tk (fa_cons (fv 2) (fa_cons (fv 4) fa_nil)))) fss_nil))))))
    (fss_one (fs_setF T.c_Book T.a_Book_own (fv 0) (f_lc (own := [("body", 3)]) (t := (.nm 3)) rfl nd (fi_seq (fv 1)) (blkOk_by (own := [("body", 3)]) (N := ["self", "bodies", "procedure", "body", "fault", "met"]) (sc := defScope s_Book_init) (by decide +kernel)) (fun _ _ _ _ _ => (pg_name (i := 3) nd rfl (.inl rfl))) (fun _ _ _ _ _ => fts_nil) (fun _ _ _ _ _ => (f_call (ok_copied_block T 20) hr takes0 (fa_cons (fv 3) fa_nil))))))))
theorem ok_Book_len (T : Txt w K mg) : OkMX P w K mg base 1 "Book" "__len__" ["self"] (spF K m_Book_len) :=
  okFM (k := 0) (N := ["self"]) T.f_Book_len T.M_Book_len sc_Book_len (Runs.plain (n := 1) (np := 1)) (fun _ _ _ _ _ _ us hl => match us, hl with | [_], _ => rfl) fun cdv A outer s H E hr => by
    have nd : (["self"] : List Str).Nodup := sc_Book_len.nd
    have tk := takes_of (X := cxOf (L2.CX P w) P w K mg base ["self"] "Book.__len__" (defScope s_Book_len) (He.ma K (He.ga K "Book") "__len__") cdv A outer s H E) (E := E) rfl rfl rfl rfl
    unfold b_Book_len
    exact (fss_one (fs_ret (f_len T.n_len (f_fld T.c_Book T.a_Book_own (fv 0)))))
theorem ok_Book_bodies (T : Txt w K mg) : OkMX P w K mg base 23 "Book" "bodies" ["self"] (spF K m_Book_bodies) :=
  okFM (k := 22) (N := ["self", "body"]) T.f_Book_bodies T.M_Book_bodies sc_Book_bodies (Runs.plain (n := 2) (np := 1)) (fun _ _ _ _ _ _ us hl => match us, hl with | [_], _ => rfl) fun cdv A outer s H E hr => by
    have nd : (["self", "body"] : List Str).Nodup := sc_Book_bodies.nd
    have tk := takes_of (X := cxOf (L2.CX P w) P w K mg base ["self", "body"] "Book.bodies" (defScope s_Book_bodies) (He.ma K (He.ga K "Book") "bodies") cdv A outer s H E) (E := E) rfl rfl rfl rfl
    unfold b_Book_bodies
    exact (fss_one (fs_ret (f_lc (own := [("body", 1)]) (t := (.nm 1)) rfl nd (fi_seq (f_fld T.c_Book T.a_Book_own (fv 0))) (blkOk_by (own := [("body", 1)]) (N := ["self", "body"]) (sc := defScope s_Book_bodies) (by decide +kernel)) (fun _ _ _ _ _ => (pg_name (i := 1) nd rfl (.inl rfl))) (fun _ _ _ _ _ => fts_nil) (fun _ _ _ _ _ => (f_call (ok_copied_block T 20) hr takes0 (fa_cons (fv 1) fa_nil))))))
theorem ok_L_pool (T : Txt w K mg) : OkX P w K mg base 1 "_law_pool" ["_law_script"] (spF K m_L_pool) :=
  okF (k := 0) (N := ["_law_script", "_law_cell"]) T.f_L_pool T.G_L_pool sc_L_pool (Runs.plain (n := 2) (np := 1)) (fun _ _ _ _ _ _ us hl => match us, hl with | [_], _ => rfl) fun cdv A outer s H E hr => by
    have nd : (["_law_script", "_law_cell"] : List Str).Nodup := sc_L_pool.nd
    have tk := takes_of (X := cxOf (L2.CX P w) P w K mg base ["_law_script", "_law_cell"] "_law_pool" (defScope s_L_pool) (He.ga K "_law_pool") cdv A outer s H E) (E := E) rfl rfl rfl rfl
    unfold b_L_pool
    exact (fss_one (fs_ret (f_op op_addC s_add (f_lst (fa_cons (fcst pe_int fun _ _ => rfl) fa_nil)) (fe_orT (f_lc (own := [("_law_cell", 1)]) (t := (.nm 1)) rfl nd (fi_seq (f_sl (fv 0) fo_none (fo_some (fcst pe_int fun _ _ => rfl)))) (blkOk_by (own := [("_law_cell", 1)]) (N := ["_law_script", "_law_cell"]) (sc := defScope s_L_pool) (by decide +kernel)) (fun _ _ _ _ _ => (pg_name (i := 1) nd rfl (.inl rfl))) (fun _ _ _ _ _ => fts_nil) (fun _ _ _ _ _ => (f_intc T.n_int (fv 1)))) (pe_one (f_lst (fa_cons (fcst pe_int fun _ _ => rfl) fa_nil)))))))
theorem ok_L_draw (T : Txt w K mg) : OkX P w K mg base 1 "_law_draw" ["_law_pool_here", "_law_many"] (spF K m_L_draw) :=
  okF (k := 0) (N := ["_law_pool_here", "_law_many", "_law_at", "_law_cell", "_law_number"]) T.f_L_draw T.G_L_draw sc_L_draw (Runs.plain (n := 5) (np := 2)) (fun _ _ _ _ _ _ us hl => match us, hl with | [_, _], _ => rfl) fun cdv A outer s H E hr => by
    have nd : (["_law_pool_here", "_law_many", "_law_at", "_law_cell", "_law_number"] : List Str).Nodup := sc_L_draw.nd
    have tk := takes_of (X := cxOf (L2.CX P w) P w K mg base ["_law_pool_here", "_law_many", "_law_at", "_law_cell", "_law_number"] "_law_draw" (defScope s_L_draw) (He.ga K "_law_draw") cdv A outer s H E) (E := E) rfl rfl rfl rfl
    unfold b_L_draw
    exact (fss_cons (fs_augIadd (fv 0) (fcst pe_int fun _ _ => rfl) (fcst pe_int fun _ _ => rfl))
    (fss_cons (fs_set (i := 2) nd rfl (.inl rfl) (f_op op_addC s_add (fcst pe_int fun _ _ => rfl) (f_op op_modC s_mod (f_intc T.n_int (f_ix (fv 0) (fcst pe_int fun _ _ => rfl))) (f_op op_subC s_sub (f_len T.n_len (fv 0)) (fcst pe_int fun _ _ => rfl)))))
    (fss_cons (fs_set (i := 3) nd rfl (.inl rfl) (f_intc T.n_int (f_ix (fv 0) (fv 2))))
    (fss_cons (fs_if (ft_cmp op_geC s_ge (fv 3) (f_op op_powC s_pow (fcst pe_int fun _ _ => rfl) (fcst pe_int fun _ _ => rfl))) (fss_cons (fs_setI (f_op op_fdivC s_fdiv (fv 3) (fv 1)) (fv 0) (fv 2))
    (fss_one (fs_ret (f_op op_modC s_mod (fv 3) (fv 1))))) fss_nil)
    (fss_cons (fs_set (i := 4) nd rfl (.inl rfl) (f_op op_modC s_mod (f_op op_mulC s_mul (f_intc T.n_int (f_op op_addC s_add (f_op op_addC s_add (fv 3) (f_op op_mulC s_mul (fcst pe_int fun _ _ => rfl) (f_ix (fv 0) (fcst pe_int fun _ _ => rfl)))) (fcst pe_int fun _ _ => rfl))) (fcst pe_int fun _ _ => rfl)) (fcst pe_int fun _ _ => rfl)))
    (fss_cons (fs_set (i := 4) nd rfl (.inl rfl) (f_op op_modC s_mod (f_op op_mulC s_mul (fv 4) (f_op op_addC s_add (f_op op_fdivC s_fdiv (fv 4) (fcst pe_int fun _ _ => rfl)) (fcst pe_int fun _ _ => rfl))) (fcst pe_int fun _ _ => rfl)))
    (fss_cons (fs_set (i := 4) nd rfl (.inl rfl) (f_op op_modC s_mod (f_op op_mulC s_mul (fv 4) (f_op op_addC s_add (f_op op_fdivC s_fdiv (fv 4) (fcst pe_int fun _ _ => rfl)) (fcst pe_int fun _ _ => rfl))) (fcst pe_int fun _ _ => rfl)))
    (fss_one (fs_ret (f_op op_modC s_mod (f_op op_fdivC s_fdiv (fv 4) (fcst pe_int fun _ _ => rfl)) (fv 1)))))))))))
theorem ok_L_any_command (T : Txt w K mg) : OkX P w K mg base 2 "_law_any_command" ["_law_pool_here"] (spF K m_L_any_command) :=
  okF (k := 1) (N := ["_law_pool_here", "_law_kind"]) T.f_L_any_command T.G_L_any_command sc_L_any_command (Runs.plain (n := 2) (np := 1)) (fun _ _ _ _ _ _ us hl => match us, hl with | [_], _ => rfl) fun cdv A outer s H E hr => by
    have nd : (["_law_pool_here", "_law_kind"] : List Str).Nodup := sc_L_any_command.nd
    have tk := takes_of (X := cxOf (L2.CX P w) P w K mg base ["_law_pool_here", "_law_kind"] "_law_any_command" (defScope s_L_any_command) (He.ga K "_law_any_command") cdv A outer s H E) (E := E) rfl rfl rfl rfl
    unfold b_L_any_command
    exact (fss_cons (fs_set (i := 1) nd rfl (.inl rfl) (f_call (ok_L_draw T) hr tk (fa_cons (fv 0) (fa_cons (fcst pe_int fun _ _ => rfl) fa_nil))))
    (fss_cons (fs_if (ft_cmp (op_eqC hr.units) s_eq (fv 1) (fcst pe_int fun _ _ => rfl)) (fss_one (fs_ret (f_tup (fa_cons (fcst pe_str fun _ _ => rfl) (fa_cons (f_op op_subC s_sub (f_call (ok_L_draw T) hr tk (fa_cons (fv 0) (fa_cons (fcst pe_int fun _ _ => rfl) fa_nil))) (fcst pe_int fun _ _ => rfl)) fa_nil))))) fss_nil)
    (fss_cons (fs_if (ft_cmp (op_eqC hr.units) s_eq (fv 1) (fcst pe_int fun _ _ => rfl)) (fss_one (fs_ret (f_tup (fa_cons (fcst pe_str fun _ _ => rfl) (fa_cons (f_op op_addC s_add (fcst pe_int fun _ _ => rfl) (f_call (ok_L_draw T) hr tk (fa_cons (fv 0) (fa_cons (fcst pe_int fun _ _ => rfl) fa_nil)))) fa_nil))))) fss_nil)
    (fss_cons (fs_if (ft_cmp (op_eqC hr.units) s_eq (fv 1) (fcst pe_int fun _ _ => rfl)) (fss_one (fs_ret (f_tup (fa_cons (fcst pe_str fun _ _ => rfl) (fa_cons (f_op op_subC s_sub (f_call (ok_L_draw T) hr tk (fa_cons (fv 0) (fa_cons (fcst pe_int fun _ _ => rfl) fa_nil))) (fcst pe_int fun _ _ => rfl)) fa_nil))))) fss_nil)
    (fss_cons (fs_if (ft_cmp op_ltC s_lt (fv 1) (fcst pe_int fun _ _ => rfl)) (fss_one (fs_ret (f_tup (fa_cons (f_ix (f_tup (fa_cons (fcst pe_str fun _ _ => rfl) (fa_cons (fcst pe_str fun _ _ => rfl) fa_nil))) (f_op op_subC s_sub (fv 1) (fcst pe_int fun _ _ => rfl))) (fa_cons (f_op op_subC s_sub (f_call (ok_L_draw T) hr tk (fa_cons (fv 0) (fa_cons (fcst pe_int fun _ _ => rfl) fa_nil))) (fcst pe_int fun _ _ => rfl)) (fa_cons (f_op op_subC s_sub (f_call (ok_L_draw T) hr tk (fa_cons (fv 0) (fa_cons (fcst pe_int fun _ _ => rfl) fa_nil))) (fcst pe_int fun _ _ => rfl)) fa_nil)))))) fss_nil)
    (fss_one (fs_ret (f_tup (fa_cons (f_ix (f_tup (fa_cons (fcst pe_str fun _ _ => rfl) (fa_cons (fcst pe_str fun _ _ => rfl) (fa_cons (fcst pe_str fun _ _ => rfl) (fa_cons (fcst pe_str fun _ _ => rfl) fa_nil))))) (f_op op_subC s_sub (fv 1) (fcst pe_int fun _ _ => rfl))) fa_nil)))))))))
theorem ok_L_blocks (T : Txt w K mg) : OkX P w K mg base 1 "_law_blocks" ["_law_statement"] (spF K m_L_blocks) :=
  okF (k := 0) (N := ["_law_statement", "_law_item"]) T.f_L_blocks T.G_L_blocks sc_L_blocks (Runs.plain (n := 2) (np := 1)) (fun _ _ _ _ _ _ us hl => match us, hl with | [_], _ => rfl) fun cdv A outer s H E hr => by
    have nd : (["_law_statement", "_law_item"] : List Str).Nodup := sc_L_blocks.nd
    have tk := takes_of (X := cxOf (L2.CX P w) P w K mg base ["_law_statement", "_law_item"] "_law_blocks" (defScope s_L_blocks) (He.ga K "_law_blocks") cdv A outer s H E) (E := E) rfl rfl rfl rfl
    unfold b_L_blocks
    exact (fss_cons (fs_if (ft_cmp (op_eqC hr.units) s_eq (f_ix (fv 0) (fcst pe_int fun _ _ => rfl)) (fcst pe_str fun _ _ => rfl)) (fss_one (fs_ret (f_list T.n_list (f_ix (fv 0) (fcst pe_int fun _ _ => rfl))))) fss_nil)
    (fss_one (fs_ret (f_lc (own := [("_law_item", 1)]) (t := (.nm 1)) rfl nd (fi_seq (f_sl (fv 0) (fo_some (fcst pe_int fun _ _ => rfl)) fo_none)) (blkOk_by (own := [("_law_item", 1)]) (N := ["_law_statement", "_law_item"]) (sc := defScope s_L_blocks) (by decide +kernel)) (fun _ _ _ _ _ => (pg_name (i := 1) nd rfl (.inl rfl))) (fun _ _ _ _ _ => (fts_one (ft_val (f_isi (T := "list") T.n_isinstance T.n_list (fv 1))))) (fun _ _ _ _ _ => (fv 1))))))
theorem ok_L_with (T : Txt w K mg) : OkX P w K mg base 1 "_law_with" ["_law_statement", "_law_blocks_here"] (spF K m_L_with) :=
  okF (k := 0) (N := ["_law_statement", "_law_blocks_here"]) T.f_L_with T.G_L_with sc_L_with (Runs.plain (n := 2) (np := 2)) (fun _ _ _ _ _ _ us hl => match us, hl with | [_, _], _ => rfl) fun cdv A outer s H E hr => by
    have nd : (["_law_statement", "_law_blocks_here"] : List Str).Nodup := sc_L_with.nd
    have tk := takes_of (X := cxOf (L2.CX P w) P w K mg base ["_law_statement", "_law_blocks_here"] "_law_with" (defScope s_L_with) (He.ga K "_law_with") cdv A outer s H E) (E := E) rfl rfl rfl rfl
    unfold b_L_with
    exact (fss_cons (fs_if (ft_cmp (op_eqC hr.units) s_eq (f_ix (fv 0) (fcst pe_int fun _ _ => rfl)) (fcst pe_str fun _ _ => rfl)) (fss_one (fs_ret (f_op op_addC s_add (f_sl (fv 0) fo_none (fo_some (fcst pe_int fun _ _ => rfl))) (f_tup (fa_cons (fv 1) fa_nil))))) fss_nil)
    (fss_cons (fs_if (ft_cmp (op_eqC hr.units) s_eq (f_len T.n_len (fv 1)) (fcst pe_int fun _ _ => rfl)) (fss_one (fs_ret (fv 0))) fss_nil)
    (fss_one (fs_ret (f_op op_addC s_add (f_tup (fa_cons (f_ix (fv 0) (fcst pe_int fun _ _ => rfl)) fa_nil)) (f_tuple T.n_tuple (fv 1)))))))
theorem ok_L_copy (T : Txt w K mg) : ∀ n, OkX P w K mg base (1 + n + 1) "_law_copy" ["_law_block"] (spF K (m_L_copy n))
  | 0 => okStuck T.f_L_copy T.G_L_copy sc_L_copy (fun _ _ _ _ _ _ us hl => match us, hl with | [_], _ => rfl)
  | n + 1 => by
    have ih_L_copy := ok_L_copy T n
    exact okF (k := 1 + n + 1) (N := ["_law_block", "_law_row", "_law_inner"]) T.f_L_copy T.G_L_copy sc_L_copy (Runs.plain (n := 3) (np := 1)) (fun _ _ _ _ _ _ us hl => match us, hl with | [_], _ => rfl) fun cdv A outer s H E hr => by
      have nd : (["_law_block", "_law_row", "_law_inner"] : List Str).Nodup := sc_L_copy.nd
      have tk := takes_of (X := cxOf (L2.CX P w) P w K mg base ["_law_block", "_law_row", "_law_inner"] "_law_copy" (defScope s_L_copy) (He.ga K "_law_copy") cdv A outer s H E) (E := E) rfl rfl rfl rfl
      unfold b_L_copy e_L_copy_1
      exact (fss_one (fs_ret (f_lc (own := [("_law_row", 1)]) (t := (.nm 1)) rfl nd (fi_seq (fv 0)) (blkOk_by (own := [("_law_row", 1)]) (N := ["_law_block", "_law_row", "_law_inner"]) (sc := defScope s_L_copy) (by decide +kernel)) (fun _ _ _ _ _ => (pg_name (i := 1) nd rfl (.inl rfl))) (fun _ _ _ _ _ => fts_nil) (fun _ _ _ _ _ => (f_call (ok_L_with T) hr takes0 (fa_cons (fv 1) (fa_cons (f_lc (own := [("_law_inner", 2)]) (t := (.nm 2)) rfl nd (fi_seq (f_call (ok_L_blocks T) hr takes0 (fa_cons (fv 1) fa_nil) (by omega))) (blkOk_by (own := [("_law_inner", 2)]) (N := ["_law_block", "_law_row", "_law_inner"]) (by kernel_rfl)) (fun _ _ _ _ _ => (pg_name (i := 2) nd rfl (.inl rfl))) (fun _ _ _ _ _ => fts_nil) (fun _ _ _ _ _ => (f_call ih_L_copy hr takes0 (fa_cons (fv 2) fa_nil) (by omega)))) fa_nil)) (by omega))))))
theorem ok_L_copies (T : Txt w K mg) : OkX P w K mg base 13 "_law_copies" ["_law_bodies"] (spF K m_L_copies) :=
  okF (k := 12) (N := ["_law_bodies", "_law_body"]) T.f_L_copies T.G_L_copies sc_L_copies (Runs.plain (n := 2) (np := 1)) (fun _ _ _ _ _ _ us hl => match us, hl with | [_], _ => rfl) fun cdv A outer s H E hr => by
    have nd : (["_law_bodies", "_law_body"] : List Str).Nodup := sc_L_copies.nd
    have tk := takes_of (X := cxOf (L2.CX P w) P w K mg base ["_law_bodies", "_law_body"] "_law_copies" (defScope s_L_copies) (He.ga K "_law_copies") cdv A outer s H E) (E := E) rfl rfl rfl rfl
    unfold b_L_copies
    exact (fss_one (fs_ret (f_lc (own := [("_law_body", 1)]) (t := (.nm 1)) rfl nd (fi_seq (fv 0)) (blkOk_by (own := [("_law_body", 1)]) (N := ["_law_bodies", "_law_body"]) (sc := defScope s_L_copies) (by decide +kernel)) (fun _ _ _ _ _ => (pg_name (i := 1) nd rfl (.inl rfl))) (fun _ _ _ _ _ => fts_nil) (fun _ _ _ _ _ => (f_call (ok_L_copy T 10) hr takes0 (fa_cons (fv 1) fa_nil))))))
theorem ok_L_same (T : Txt w K mg) : ∀ n, OkX P w K mg base (0 + n + 1) "_law_same" ["_law_one", "_law_other"] (spF K (m_L_same n))
  | 0 => okStuck T.f_L_same T.G_L_same sc_L_same (fun _ _ _ _ _ _ us hl => match us, hl with | [_, _], _ => rfl)
  | n + 1 => by
    have ih_L_same := ok_L_same T n
    exact okF (k := 0 + n + 1) (N := ["_law_one", "_law_other", "_law_k"]) T.f_L_same T.G_L_same sc_L_same (Runs.plain (n := 3) (np := 2)) (fun _ _ _ _ _ _ us hl => match us, hl with | [_, _], _ => rfl) fun cdv A outer s H E hr => by
      have nd : (["_law_one", "_law_other", "_law_k"] : List Str).Nodup := sc_L_same.nd
      have tk := takes_of (X := cxOf (L2.CX P w) P w K mg base ["_law_one", "_law_other", "_law_k"] "_law_same" (defScope s_L_same) (He.ga K "_law_same") cdv A outer s H E) (E := E) rfl rfl rfl rfl
      unfold b_L_same e_L_same_1
      exact (fss_cons (fs_if (ft_val (f_isi2 (T := "list") (U := "tuple") T.n_isinstance T.n_list T.n_tuple (fv 0))) (fss_cons (fs_if (PW.pt (fw_or (ft_cmp (op_neC hr.units) s_ne (f_isi (T := "list") T.n_isinstance T.n_list (fv 0)) (f_isi (T := "list") T.n_isinstance T.n_list (fv 1))) (pw_or1 (ft_cmp (op_neC hr.units) s_ne (f_isi (T := "tuple") T.n_isinstance T.n_tuple (fv 0)) (f_isi (T := "tuple") T.n_isinstance T.n_tuple (fv 1)))))) (fss_one (fs_ret (fcst pe_bl fun _ _ => rfl))) fss_nil)
    (fss_one (fs_ret (fe_and (f_cmp (op_eqC hr.units) s_eq (f_len T.n_len (fv 0)) (f_len T.n_len (fv 1))) (pe_one (f_all T.n_all (f_lc (own := [("_law_k", 2)]) (t := (.nm 2)) rfl nd (fi_rng1 (by rfl) T.n_range (f_len T.n_len (fv 0))) (blkOk_by (own := [("_law_k", 2)]) (N := ["_law_one", "_law_other", "_law_k"]) (sc := defScope s_L_same) (by decide +kernel)) (fun _ _ _ _ _ => (pg_name (i := 2) nd rfl (.inl rfl))) (fun _ _ _ _ _ => fts_nil) (fun _ _ _ _ _ => (f_call ih_L_same hr takes0 (fa_cons (f_ix (fv 0) (fv 2)) (fa_cons (f_ix (fv 1) (fv 2)) fa_nil)) (by omega)))))))))) fss_nil)
    (fss_cons (fs_if (PW.pt (fw_or (ft_val (f_isi2 (T := "list") (U := "tuple") T.n_isinstance T.n_list T.n_tuple (fv 1))) (pw_or1 (ft_cmp (op_neC hr.units) s_ne (f_isi (T := "bool") T.n_isinstance T.n_bool (fv 0)) (f_isi (T := "bool") T.n_isinstance T.n_bool (fv 1)))))) (fss_one (fs_ret (fcst pe_bl fun _ _ => rfl))) fss_nil)
    (fss_one (fs_ret (fe_and (f_cmp (op_eqC hr.units) s_eq (f_isi (T := "int") T.n_isinstance T.n_int (fv 0)) (f_isi (T := "int") T.n_isinstance T.n_int (fv 1))) (pe_one (f_cmp (op_eqC hr.units) s_eq (fv 0) (fv 1))))))))
theorem okg_L_faulty_thing (T : Txt w K mg) : ∀ n, (OkX P w K mg base (2 + n + 1) "_law_faulty_thing" ["_law_pool_here", "_law_level", "_law_room", "_law_many", "_law_bad"] (spF K (m_L_faulty_thing n))) ∧ (OkX P w K mg base (2 + n + 1) "_law_faulty_list" ["_law_pool_here", "_law_level", "_law_room", "_law_many", "_law_bad"] (spF K (m_L_faulty_list n)))
  | 0 => ⟨okStuck T.f_L_faulty_thing T.G_L_faulty_thing sc_L_faulty_thing (fun _ _ _ _ _ _ us hl => match us, hl with | [_, _, _, _, _], _ => rfl), okStuck T.f_L_faulty_list T.G_L_faulty_list sc_L_faulty_list (fun _ _ _ _ _ _ us hl => match us, hl with | [_, _, _, _, _], _ => rfl)⟩
  | n + 1 => by
    have ih := okg_L_faulty_thing T n
    have ih_L_faulty_thing := ih.1
    have ih_L_faulty_list := ih.2
    refine ⟨?_, ?_⟩
    · exact okF (k := 2 + n + 1) (N := ["_law_pool_here", "_law_level", "_law_room", "_law_many", "_law_bad", "_law_kind", "_law_one"]) T.f_L_faulty_thing T.G_L_faulty_thing sc_L_faulty_thing (Runs.plain (n := 7) (np := 5)) (fun _ _ _ _ _ _ us hl => match us, hl with | [_, _, _, _, _], _ => rfl) fun cdv A outer s H E hr => by
        have nd : (["_law_pool_here", "_law_level", "_law_room", "_law_many", "_law_bad", "_law_kind", "_law_one"] : List Str).Nodup := sc_L_faulty_thing.nd
        have tk := takes_of (X := cxOf (L2.CX P w) P w K mg base ["_law_pool_here", "_law_level", "_law_room", "_law_many", "_law_bad", "_law_kind", "_law_one"] "_law_faulty_thing" (defScope s_L_faulty_thing) (He.ga K "_law_faulty_thing") cdv A outer s H E) (E := E) rfl rfl rfl rfl
        unfold b_L_faulty_thing
        exact (fss_cons (fs_augIsub (fv 2) (fcst pe_int fun _ _ => rfl) (fcst pe_int fun _ _ => rfl))
    (fss_cons (fs_set (i := 5) nd rfl (.inl rfl) (f_call (ok_L_draw T) hr tk (fa_cons (fv 0) (fa_cons (fcst pe_int fun _ _ => rfl) fa_nil)) (by omega)))
    (fss_cons (fs_if (PW.pt (fw_and (ft_cmp op_gtC s_gt (fv 1) (fcst pe_int fun _ _ => rfl)) (fw_and (ft_cmp op_gtC s_gt (fv 5) (fcst pe_int fun _ _ => rfl)) (pw_and1 (ft_cmp op_ltC s_lt (fv 5) (fcst pe_int fun _ _ => rfl)))))) (fss_one (fs_set (i := 5) nd rfl (.inl rfl) (fcst pe_int fun _ _ => rfl))) fss_nil)
    (fss_cons (fs_if (ft_cmp op_ltC s_lt (fv 5) (fcst pe_int fun _ _ => rfl)) (fss_one (fs_ret (f_call (ok_L_any_command T) hr tk (fa_cons (fv 0) fa_nil) (by omega)))) fss_nil)
    (fss_cons (fs_if (ft_cmp (op_eqC hr.units) s_eq (fv 5) (fcst pe_int fun _ _ => rfl)) (fss_one (fs_ret (f_tup (fa_cons (fcst pe_str fun _ _ => rfl) (fa_cons (f_call ih_L_faulty_list hr tk (fa_cons (fv 0) (fa_cons (f_op op_addC s_add (fv 1) (fcst pe_int fun _ _ => rfl)) (fa_cons (fv 2) (fa_cons (fv 3) (fa_cons (fv 4) fa_nil))))) (by omega)) fa_nil))))) fss_nil)
    (fss_cons (fs_if (ft_cmp (op_eqC hr.units) s_eq (fv 5) (fcst pe_int fun _ _ => rfl)) (fss_one (fs_ret (f_tup (fa_cons (fcst pe_str fun _ _ => rfl) (fa_cons (f_call ih_L_faulty_list hr tk (fa_cons (fv 0) (fa_cons (f_op op_addC s_add (fv 1) (fcst pe_int fun _ _ => rfl)) (fa_cons (fv 2) (fa_cons (fv 3) (fa_cons (fv 4) fa_nil))))) (by omega)) fa_nil))))) fss_nil)
    (fss_cons (fs_if (ft_cmp (op_eqC hr.units) s_eq (fv 5) (fcst pe_int fun _ _ => rfl)) (fss_cons (fs_set (i := 6) nd rfl (.inl rfl) (f_call ih_L_faulty_list hr tk (fa_cons (fv 0) (fa_cons (f_op op_addC s_add (fv 1) (fcst pe_int fun _ _ => rfl)) (fa_cons (fv 2) (fa_cons (fv 3) (fa_cons (fv 4) fa_nil))))) (by omega)))
    (fss_one (fs_ret (f_tup (fa_cons (fcst pe_str fun _ _ => rfl) (fa_cons (fv 6) (fa_cons (f_call ih_L_faulty_list hr tk (fa_cons (fv 0) (fa_cons (f_op op_addC s_add (fv 1) (fcst pe_int fun _ _ => rfl)) (fa_cons (fv 2) (fa_cons (fv 3) (fa_cons (fv 4) fa_nil))))) (by omega)) fa_nil))))))) fss_nil)
    (fss_cons (fs_if (ft_cmp (op_eqC hr.units) s_eq (fv 5) (fcst pe_int fun _ _ => rfl)) (fss_cons (fs_set (i := 6) nd rfl (.inl rfl) (f_call ih_L_faulty_list hr tk (fa_cons (fv 0) (fa_cons (f_op op_addC s_add (fv 1) (fcst pe_int fun _ _ => rfl)) (fa_cons (fv 2) (fa_cons (fv 3) (fa_cons (fv 4) fa_nil))))) (by omega)))
    (fss_one (fs_ret (f_tup (fa_cons (fcst pe_str fun _ _ => rfl) (fa_cons (f_call (ok_L_draw T) hr tk (fa_cons (fv 0) (fa_cons (fv 3) fa_nil)) (by omega)) (fa_cons (fcst pe_bl fun _ _ => rfl) (fa_cons (f_lst (fa_cons (fv 6) (fa_cons (f_call ih_L_faulty_list hr tk (fa_cons (fv 0) (fa_cons (f_op op_addC s_add (fv 1) (fcst pe_int fun _ _ => rfl)) (fa_cons (fv 2) (fa_cons (fv 3) (fa_cons (fv 4) fa_nil))))) (by omega)) fa_nil))) fa_nil)))))))) fss_nil)
    (fss_cons (fs_if (PW.pt (fw_and (ft_cmp (op_eqC hr.units) s_eq (fv 5) (fcst pe_int fun _ _ => rfl)) (pw_and1 (ft_cmp (op_eqC hr.units) s_eq (f_call (ok_L_draw T) hr tk (fa_cons (fv 0) (fa_cons (fv 4) fa_nil)) (by omega)) (fcst pe_int fun _ _ => rfl))))) (fss_one (fs_ret (f_tup (fa_cons (fcst pe_str fun _ _ => rfl) fa_nil)))) fss_nil)
    (fss_one (fs_ret (f_tup (fa_cons (fcst pe_str fun _ _ => rfl) (fa_cons (f_call (ok_L_draw T) hr tk (fa_cons (fv 0) (fa_cons (fcst pe_int fun _ _ => rfl) fa_nil)) (by omega)) fa_nil))))))))))))))
    · exact okF (k := 2 + n + 1) (N := ["_law_pool_here", "_law_level", "_law_room", "_law_many", "_law_bad", "_law_block", "_law_size", "_law_step"]) T.f_L_faulty_list T.G_L_faulty_list sc_L_faulty_list (Runs.cut (n := 8) (np := 5)) (fun _ _ _ _ _ _ us hl => match us, hl with | [_, _, _, _, _], _ => rfl) fun cdv A outer s H E hr => by
        have nd : (["_law_pool_here", "_law_level", "_law_room", "_law_many", "_law_bad", "_law_block", "_law_size", "_law_step"] : List Str).Nodup := sc_L_faulty_list.nd
        have tk := takes_of (X := cxOf (L2.CX P w) P w K mg base ["_law_pool_here", "_law_level", "_law_room", "_law_many", "_law_bad", "_law_block", "_law_size", "_law_step"] "_law_faulty_list" (defScope s_L_faulty_list) (He.ga K "_law_faulty_list") cdv A outer s H E) (E := E) rfl rfl rfl rfl
        unfold b_L_faulty_list w_L_faulty_list_1
        exact (fss_cons (fs_set (i := 5) nd rfl (.inl rfl) (f_lst fa_nil))
    (fss_cons (fs_set (i := 6) nd rfl (.inl rfl) (f_call (ok_L_draw T) hr tk (fa_cons (fv 0) (fa_cons (fcst pe_int fun _ _ => rfl) fa_nil)) (by omega)))
    (fss_cons (fs_if (ft_cmp op_gtC s_gt (fv 6) (fcst pe_int fun _ _ => rfl)) (fss_one (fs_set (i := 6) nd rfl (.inl rfl) (f_op op_subC s_sub (fv 6) (f_op op_mulC s_mul (fcst pe_int fun _ _ => rfl) (f_call (ok_L_draw T) hr tk (fa_cons (fv 0) (fa_cons (fcst pe_int fun _ _ => rfl) fa_nil)) (by omega)))))) fss_nil)
    (fss_cons (fs_for (t := (.nm 7)) (passes_of rfl) rfl (fi_rng1 (by rfl) T.n_range (fv 6)) (pg_name (i := 7) nd rfl (.inl rfl)) (fss_wipe [7] (fss_one (fs_if (ft_cmp op_gtC s_gt (f_ix (fv 2) (fcst pe_int fun _ _ => rfl)) (fcst pe_int fun _ _ => rfl)) (fss_one (fs_expr (f_app (fv 5) (f_call ih_L_faulty_thing hr tk (fa_cons (fv 0) (fa_cons (fv 1) (fa_cons (fv 2) (fa_cons (fv 3) (fa_cons (fv 4) fa_nil))))) (by omega))))) fss_nil))))
    (fss_one (fs_ret (f_frz (fv 5))))))))
theorem ok_L_faulty_thing (T : Txt w K mg) (n : Nat) : OkX P w K mg base (2 + n + 1) "_law_faulty_thing" ["_law_pool_here", "_law_level", "_law_room", "_law_many", "_law_bad"] (spF K (m_L_faulty_thing n)) := (okg_L_faulty_thing T n).1
theorem ok_L_faulty_list (T : Txt w K mg) (n : Nat) : OkX P w K mg base (2 + n + 1) "_law_faulty_list" ["_law_pool_here", "_law_level", "_law_room", "_law_many", "_law_bad"] (spF K (m_L_faulty_list n)) := (okg_L_faulty_thing T n).2
theorem ok_L_fault (T : Txt w K mg) : ∀ n, OkX P w K mg base (1 + n + 1) "_law_fault" ["_law_block", "_law_level", "_law_path", "_law_met"] (spF K (m_L_fault n))
  | 0 => okStuck T.f_L_fault T.G_L_fault sc_L_fault (fun _ _ _ _ _ _ us hl => match us, hl with | [_, _, _, _], _ => rfl)
  | n + 1 => by
    have ih_L_fault := ok_L_fault T n
    exact okF (k := 1 + n + 1) (N := ["_law_block", "_law_level", "_law_path", "_law_met", "_law_at", "_law_here", "_law_statement", "_law_blocks_here", "_law_number", "_law_inner"]) T.f_L_fault T.G_L_fault sc_L_fault (Runs.plain (n := 10) (np := 4)) (fun _ _ _ _ _ _ us hl => match us, hl with | [_, _, _, _], _ => rfl) fun cdv A outer s H E hr => by
      have nd : (["_law_block", "_law_level", "_law_path", "_law_met", "_law_at", "_law_here", "_law_statement", "_law_blocks_here", "_law_number", "_law_inner"] : List Str).Nodup := sc_L_fault.nd
      have tk := takes_of (X := cxOf (L2.CX P w) P w K mg base ["_law_block", "_law_level", "_law_path", "_law_met", "_law_at", "_law_here", "_law_statement", "_law_blocks_here", "_law_number", "_law_inner"] "_law_fault" (defScope s_L_fault) (He.ga K "_law_fault") cdv A outer s H E) (E := E) rfl rfl rfl rfl
      unfold b_L_fault w_L_fault_2 w_L_fault_1
      exact (fss_cons (fs_for (t := (.nm 4)) (passes_of rfl) rfl (fi_rng1 (by rfl) T.n_range (f_len T.n_len (fv 0))) (pg_name (i := 4) nd rfl (.inl rfl)) (fss_wipe [4, 5, 6, 7, 8, 9] (fss_cons (fs_set (i := 5) nd rfl (.inl rfl) (f_op op_addC s_add (fv 2) (f_tup (fa_cons (fv 4) fa_nil))))
    (fss_cons (fs_set (i := 6) nd rfl (.inl rfl) (f_ix (fv 0) (fv 4)))
    (fss_cons (fs_set (i := 7) nd rfl (.inl rfl) (f_call (ok_L_blocks T) hr tk (fa_cons (fv 6) fa_nil) (by omega)))
    (fss_cons (fs_if (PW.pt (fw_or (ft_cmp (op_eqC hr.units) s_eq (fv 4) (fcst pe_int fun _ _ => rfl)) (fw_or (ft_cmp (op_eqC hr.units) s_eq (f_ix (fv 3) (fcst pe_int fun _ _ => rfl)) (fcst pe_int fun _ _ => rfl)) (fw_or (ft_cmp (op_eqC hr.units) s_eq (fv 6) (f_tup (fa_cons (fcst pe_str fun _ _ => rfl) fa_nil))) (pw_or1 (PW.pt (fw_and (ft_cmp (op_eqC hr.units) s_eq (fv 1) (fcst pe_int fun _ _ => rfl)) (pw_and1 (ft_cmp op_gtC s_gt (f_len T.n_len (fv 7)) (fcst pe_int fun _ _ => rfl)))))))))) (fss_one (fs_ret (fv 5))) fss_nil)
    (fss_cons (fs_augIadd (fv 3) (fcst pe_int fun _ _ => rfl) (fcst pe_int fun _ _ => rfl))
    (fss_one (fs_for (t := (.nm 8)) (passes_of rfl) rfl (fi_rng1 (by rfl) T.n_range (f_len T.n_len (fv 7))) (pg_name (i := 8) nd rfl (.inl rfl)) (fss_wipe [8, 9] (fss_cons (fs_set (i := 9) nd rfl (.inl rfl) (f_call ih_L_fault hr tk (fa_cons (f_ix (fv 7) (fv 8)) (fa_cons (f_op op_addC s_add (fv 1) (fcst pe_int fun _ _ => rfl)) (fa_cons (f_op op_addC s_add (fv 5) (f_tup (fa_cons (fv 8) fa_nil))) (fa_cons (fv 3) fa_nil)))) (by omega)))
    (fss_one (fs_if (ft_cmp (op_neC hr.units) s_ne (fv 9) (f_tup fa_nil)) (fss_one (fs_ret (fv 9))) fss_nil)))))))))))))
    (fss_one (fs_ret (f_tup fa_nil))))
theorem ok_L_made (T : Txt w K mg) : OkX P w K mg base 25 "_law_made" ["_law_bodies"] (spF K m_L_made) :=
  okF (k := 24) (N := ["_law_bodies", "_law_book", "e"]) T.f_L_made T.G_L_made sc_L_made (Runs.plain (n := 3) (np := 1)) (fun _ _ _ _ _ _ us hl => match us, hl with | [_], _ => rfl) fun cdv A outer s H E hr => by
    have nd : (["_law_bodies", "_law_book", "e"] : List Str).Nodup := sc_L_made.nd
    have tk := takes_of (X := cxOf (L2.CX P w) P w K mg base ["_law_bodies", "_law_book", "e"] "_law_made" (defScope s_L_made) (He.ga K "_law_made") cdv A outer s H E) (E := E) rfl rfl rfl rfl
    unfold b_L_made
    exact (fss_cons (fs_tryA (k := 2) (its := [.c (.str "NoBook") (.str "NoBook"), .f "procedure", .f "path"]) T.xm ⟨fun _ _ _ => rfl, trivial⟩ rfl rfl nd rfl rfl T.xa_NoBook.glo tk (fun W pn xe tk po => (fss_one (fs_set (i := 1) nd rfl (.inl rfl) (f_make T.T_Book (ok_Book_init T) hr tk (fa_cons (fv 0) fa_nil))))) (fun a oe cls dd pn hz hf => pss_one (ps_ret (pe_tup (xa_c pe_str (xa_f T.xa_NoBook.rd (T.xa_NoBook.no "procedure" (by decide)) hz hf (cv 2) (xa_f T.xa_NoBook.rd (T.xa_NoBook.no "path" (by decide)) hz hf (cv 2) xa_nil)))))))
    (fss_one (fs_ret (f_tup (fa_cons (fcst pe_str fun _ _ => rfl) (fa_cons (f_lenO T.n_len (ok_Book_len T) hr (fv 1)) (fa_cons (f_meth0 (ok_Book_bodies T) hr tk T.c_Book (fv 1)) fa_nil)))))))
theorem law_fn (T : Txt w K mg) : ∃ fd, (∀ (s : Shared) (us : List Value), us.length = (["_law_script"] : List Str).length → BindsTo s fd ⟨us, []⟩ ((["_law_script"] : List Str).zip us)) ∧ ∀ base, FnOk P w K mg base (L2.CX P w) 26 (He.ga K "law") fd ["_law_script"] (spF K m_law_k13) :=
  law_endF (N := ["_law_script", "_law_pool_here", "_law_bad", "_law_many", "_law_room", "_law_bodies", "_law_due", "_law_procedure", "_law_path", "_law_k"]) T.f_law_k13 sc_law_k13 (Runs.cut (n := 10) (np := 1) (mb := b_law_k13)) (fun _ _ _ _ _ _ us hl => match us, hl with | [_], _ => rfl) fun base cdv A outer s H E hr => by
    have nd : (["_law_script", "_law_pool_here", "_law_bad", "_law_many", "_law_room", "_law_bodies", "_law_due", "_law_procedure", "_law_path", "_law_k"] : List Str).Nodup := sc_law_k13.nd
    have tk := takes_of (X := cxOf (L2.CX P w) P w K mg base ["_law_script", "_law_pool_here", "_law_bad", "_law_many", "_law_room", "_law_bodies", "_law_due", "_law_procedure", "_law_path", "_law_k"] "law" (defScope s_law_k13) (He.ga K "law") cdv A outer s H E) (E := E) rfl rfl rfl rfl
    unfold b_law_k13 w_law_k13_2 e_law_k13_1
    exact (fss_cons (fs_set (i := 1) nd rfl (.inr rfl) (f_call (ok_L_pool T) hr tk (fa_cons (fv 0) fa_nil)))
    (fss_cons (fs_set (i := 2) nd rfl (.inr rfl) (f_op op_addC s_add (fcst pe_int fun _ _ => rfl) (f_call (ok_L_draw T) hr tk (fa_cons (fv 1) (fa_cons (fcst pe_int fun _ _ => rfl) fa_nil)))))
    (fss_cons (fs_set (i := 3) nd rfl (.inr rfl) (f_op op_addC s_add (fcst pe_int fun _ _ => rfl) (f_call (ok_L_draw T) hr tk (fa_cons (fv 1) (fa_cons (fcst pe_int fun _ _ => rfl) fa_nil)))))
    (fss_cons (fs_set (i := 4) nd rfl (.inr rfl) (f_lst (fa_cons (f_op op_addC s_add (fcst pe_int fun _ _ => rfl) (f_call (ok_L_draw T) hr tk (fa_cons (fv 1) (fa_cons (fcst pe_int fun _ _ => rfl) fa_nil)))) fa_nil)))
    (fss_cons (fs_setLc (i := 5) (own := [("_law_k", 9)]) (t := (.nm 9)) rfl nd rfl rfl (sw_true rfl rfl rfl (by decide +kernel)) (fi_rng1 (by rfl) T.n_range (fv 3)) (blkOk_by (own := [("_law_k", 9)]) (N := ["_law_script", "_law_pool_here", "_law_bad", "_law_many", "_law_room", "_law_bodies", "_law_due", "_law_procedure", "_law_path", "_law_k"]) (sc := defScope s_law_k13) (by decide +kernel)) (fun _ _ _ _ _ => (pg_name (i := 9) nd rfl (.inl rfl))) (fun _ _ _ _ _ => fts_nil) (fun _ _ _ _ _ => (f_call (ok_L_faulty_list T 20) hr takes0 (fa_cons (fv 1) (fa_cons (fcst pe_int fun _ _ => rfl) (fa_cons (fv 4) (fa_cons (fv 3) (fa_cons (fv 2) fa_nil))))))))
    (fss_cons (fs_set (i := 6) nd rfl (.inl rfl) (f_tup (fa_cons (fcst pe_str fun _ _ => rfl) (fa_cons (fv 3) (fa_cons (fv 5) fa_nil)))))
    (fss_cons (fs_for (t := (.nm 7)) (passes_of rfl) rfl (fi_revR1 (by rfl) T.n_reversed (by rfl) T.n_range (fv 3)) (pg_name (i := 7) nd rfl (.inl rfl)) (fss_wipe [7, 8] (fss_cons (fs_set (i := 8) nd rfl (.inl rfl) (f_call (ok_L_fault T 10) hr tk (fa_cons (f_ix (fv 5) (fv 7)) (fa_cons (fcst pe_int fun _ _ => rfl) (fa_cons (f_tup fa_nil) (fa_cons (f_lst (fa_cons (fcst pe_int fun _ _ => rfl) fa_nil)) fa_nil))))))
    (fss_one (fs_if (ft_cmp (op_neC hr.units) s_ne (fv 8) (f_tup fa_nil)) (fss_one (fs_set (i := 6) nd rfl (.inl rfl) (f_tup (fa_cons (fcst pe_str fun _ _ => rfl) (fa_cons (fv 7) (fa_cons (fv 8) fa_nil)))))) fss_nil)))))
    (fss_one (fs_ret (f_call (ok_L_same T 20) hr tk (fa_cons (f_call (ok_L_made T) hr tk (fa_cons (f_call (ok_L_copies T) hr tk (fa_cons (fv 5) fa_nil)) fa_nil)) (fa_cons (fv 6) fa_nil))))))))))))
end
def dd_is_integer : He.DefD := ⟨("is_integer", none), "is_integer", "is_integer", defArgs s_is_integer, defBody s_is_integer, defScope s_is_integer, [], []⟩
def dd_is_bit : He.DefD := ⟨("is_bit", none), "is_bit", "is_bit", defArgs s_is_bit, defBody s_is_bit, defScope s_is_bit, [], []⟩
def dd_is_command : He.DefD := ⟨("is_command", none), "is_command", "is_command", defArgs s_is_command, defBody s_is_command, defScope s_is_command, [], []⟩
def dd_blocks_of : He.DefD := ⟨("blocks_of", none), "blocks_of", "blocks_of", defArgs s_blocks_of, defBody s_blocks_of, defScope s_blocks_of, [], []⟩
def dd_with_blocks : He.DefD := ⟨("with_blocks", none), "with_blocks", "with_blocks", defArgs s_with_blocks, defBody s_with_blocks, defScope s_with_blocks, [], []⟩
def dd_copied_block : He.DefD := ⟨("copied_block", none), "copied_block", "copied_block", defArgs s_copied_block, defBody s_copied_block, defScope s_copied_block, [], []⟩
def dd_copied_statement : He.DefD := ⟨("copied_statement", none), "copied_statement", "copied_statement", defArgs s_copied_statement, defBody s_copied_statement, defScope s_copied_statement, [], []⟩
def dd_well_formed : He.DefD := ⟨("well_formed", none), "well_formed", "well_formed", defArgs s_well_formed, defBody s_well_formed, defScope s_well_formed, [], []⟩
def dd_first_fault : He.DefD := ⟨("first_fault", none), "first_fault", "first_fault", defArgs s_first_fault, defBody s_first_fault, defScope s_first_fault, [], []⟩
def dd_Book_init : He.DefD := ⟨("Book", some "__init__"), "__init__", "Book.__init__", defArgs s_Book_init, defBody s_Book_init, defScope s_Book_init, [], []⟩
def dd_Book_len : He.DefD := ⟨("Book", some "__len__"), "__len__", "Book.__len__", defArgs s_Book_len, defBody s_Book_len, defScope s_Book_len, [], []⟩
def dd_Book_bodies : He.DefD := ⟨("Book", some "bodies"), "bodies", "Book.bodies", defArgs s_Book_bodies, defBody s_Book_bodies, defScope s_Book_bodies, [], []⟩
def dd_L_pool : He.DefD := ⟨("_law_pool", none), "_law_pool", "_law_pool", defArgs s_L_pool, defBody s_L_pool, defScope s_L_pool, [], []⟩
def dd_L_draw : He.DefD := ⟨("_law_draw", none), "_law_draw", "_law_draw", defArgs s_L_draw, defBody s_L_draw, defScope s_L_draw, [], []⟩
def dd_L_any_command : He.DefD := ⟨("_law_any_command", none), "_law_any_command", "_law_any_command", defArgs s_L_any_command, defBody s_L_any_command, defScope s_L_any_command, [], []⟩
def dd_L_blocks : He.DefD := ⟨("_law_blocks", none), "_law_blocks", "_law_blocks", defArgs s_L_blocks, defBody s_L_blocks, defScope s_L_blocks, [], []⟩
def dd_L_with : He.DefD := ⟨("_law_with", none), "_law_with", "_law_with", defArgs s_L_with, defBody s_L_with, defScope s_L_with, [], []⟩
def dd_L_copy : He.DefD := ⟨("_law_copy", none), "_law_copy", "_law_copy", defArgs s_L_copy, defBody s_L_copy, defScope s_L_copy, [], []⟩
def dd_L_copies : He.DefD := ⟨("_law_copies", none), "_law_copies", "_law_copies", defArgs s_L_copies, defBody s_L_copies, defScope s_L_copies, [], []⟩
def dd_L_same : He.DefD := ⟨("_law_same", none), "_law_same", "_law_same", defArgs s_L_same, defBody s_L_same, defScope s_L_same, [], []⟩
def dd_L_faulty_list : He.DefD := ⟨("_law_faulty_list", none), "_law_faulty_list", "_law_faulty_list", defArgs s_L_faulty_list, defBody s_L_faulty_list, defScope s_L_faulty_list, [], []⟩
def dd_L_faulty_thing : He.DefD := ⟨("_law_faulty_thing", none), "_law_faulty_thing", "_law_faulty_thing", defArgs s_L_faulty_thing, defBody s_L_faulty_thing, defScope s_L_faulty_thing, [], []⟩
def dd_L_fault : He.DefD := ⟨("_law_fault", none), "_law_fault", "_law_fault", defArgs s_L_fault, defBody s_L_fault, defScope s_L_fault, [], []⟩
def dd_L_made : He.DefD := ⟨("_law_made", none), "_law_made", "_law_made", defArgs s_L_made, defBody s_L_made, defScope s_L_made, [], []⟩
def dd_law_k13 : He.DefD := ⟨("law", none), "law", "law", defArgs s_law_k13, defBody s_law_k13, defScope s_law_k13, [], []⟩
def ddx_NoBook : He.DefD := ⟨("NoBook", some "__init__"), "__init__", "NoBook.__init__", defArgs si_NoBook, defBody si_NoBook, defScope si_NoBook, [], []⟩
def fa : List He.Fa := ([.free "isinstance", .free "int", .free "bool", .free "tuple", .free "len", .free "str", .glo "LIMITS", .free "all", .int "DEEPEST" 3, .free "list", .free "enumerate", .int "MOST_IN_LIST" 8, .int "MOST_IN_PROCEDURE" 12, .int "MOST_PROCEDURES" 3, .glo "NoBook", .cls "Book", .noat "Book" "own", .free "range", .cls "Book", .mkr "Book"] : List He.Fa) ++ ([.glo "Book", .free "reversed", .glo "is_integer", .glo "is_bit", .glo "is_command", .glo "blocks_of", .glo "with_blocks", .glo "copied_block", .glo "copied_statement", .glo "well_formed", .glo "first_fault", .meth "Book" "__init__", .meth "Book" "__len__", .meth "Book" "bodies", .glo "_law_pool", .glo "_law_draw", .glo "_law_any_command", .glo "_law_blocks", .glo "_law_with", .glo "_law_copy"] : List He.Fa) ++ ([.glo "_law_copies", .glo "_law_same", .glo "_law_faulty_list", .glo "_law_faulty_thing", .glo "_law_fault", .glo "_law_made", .glo "law"] : List He.Fa)
def fn : List He.DefD := ([ddx_NoBook, dd_is_integer, dd_is_bit, dd_is_command, dd_blocks_of, dd_with_blocks, dd_copied_block, dd_copied_statement, dd_well_formed, dd_first_fault, dd_Book_init, dd_Book_len, dd_Book_bodies, dd_L_pool, dd_L_draw, dd_L_any_command, dd_L_blocks, dd_L_with, dd_L_copy, dd_L_copies] : List He.DefD) ++ ([dd_L_same, dd_L_faulty_list, dd_L_faulty_thing, dd_L_fault, dd_L_made, dd_law_k13] : List He.DefD)
def ts : List He.Tab := [limTab]
def exs (K : PySem.W.Frag) : List Bool := [limB K, xaB K "NoBook" ["procedure", "path"], xmB K ["NoBook", "NoPath", "NoProcedure"]]
def ex (K : PySem.W.Frag) : Bool := (exs K).all id
theorem exAt {K : PySem.W.Frag} (h : ex K = true) (i : Nat) {b : Bool} (e : (exs K)[i]? = some b := by rfl) : b = true := List.all_eq_true.mp h b (List.mem_of_getElem? e)
def loose : List Str := (["_wall", "HomeError", "NoBook", "NoProcedure", "NoPath", "LIMITS", "is_integer", "is_bit", "is_command", "MOST_PROCEDURES", "MOST_IN_LIST", "MOST_IN_PROCEDURE", "DEEPEST", "blocks_of", "with_blocks", "copied_statement", "copied_block", "well_formed", "first_fault", "statement_at", "Book", "has_procedure", "_law_pool", "_law_draw", "_law_any_command", "_law_blocks", "_law_with", "_law_copy", "_law_copies", "_law_same"] : List Str) ++ (["_law_faulty_thing", "_law_faulty_list", "_law_fault", "_law_made"] : List Str)
abbrev R : PySem.W.OpenRow := PySem.W.OpenLaw.row PySem.Challenge.rw_penhome_k13_first_fault_in_reading_order
abbrev hk : PySem.W.Hook := hookP 5 fa fn ts ex
def ob (s : PySem.W.SharedT) : He.AlT × Bool := obsP 5 fa fn ts ex (HandSHeadRun.getT s)
theorem ob_eq (s : PySem.W.SharedT) : ob s = hk.obs s.abs := obsP_eq (HandSHeadRun.getT_eq s)
abbrev RunAt (w : World) : Prop := HandSHeadRun.RunEq R (PySem.W.view R.prog [38]) hk ob 8000 loose w
set_option maxHeartbeats 0 in
theorem run_f (w : World) : RunAt (w.withFollow "special-get-raises" false) := by
  intro os
  kernel_rfl
set_option maxHeartbeats 0 in
theorem run_t (w : World) : RunAt (w.withFollow "special-get-raises" true) := by
  intro os
  kernel_rfl
theorem run_ (w : World) : RunAt w := PySem.W.byRow2 "special-get-raises" run_f run_t w
theorem txt {w : World} {K : PySem.W.Frag} {h : Heap} {mg : Str → Option Value} (X : K.In h) (G : h.Ns mainGlobals mg) (c : He.SaysT fa fn ts w K ∧ ex K = true) : Txt w K mg where
    n_isinstance := He.free_ok X G (c.1.d.fact 0 (f := .free "isinstance") rfl)
    n_int := He.free_ok X G (c.1.d.fact 1 (f := .free "int") rfl)
    n_bool := He.free_ok X G (c.1.d.fact 2 (f := .free "bool") rfl)
    n_tuple := He.free_ok X G (c.1.d.fact 3 (f := .free "tuple") rfl)
    n_len := He.free_ok X G (c.1.d.fact 4 (f := .free "len") rfl)
    n_str := He.free_ok X G (c.1.d.fact 5 (f := .free "str") rfl)
    lim := lim_ok (exAt c.2 0) (SaysT_dic c.1 0 (t := limTab) rfl)
    k_LIMITS := c.1.tab 0 (t := limTab) rfl
    g_LIMITS := He.glo_ok X G (c.1.d.fact 6 (f := .glo "LIMITS") rfl)
    n_all := He.free_ok X G (c.1.d.fact 7 (f := .free "all") rfl)
    i_DEEPEST := He.int_ok X G (c.1.d.fact 8 (f := .int "DEEPEST" 3) rfl)
    n_list := He.free_ok X G (c.1.d.fact 9 (f := .free "list") rfl)
    n_enumerate := He.free_ok X G (c.1.d.fact 10 (f := .free "enumerate") rfl)
    i_MOST_IN_LIST := He.int_ok X G (c.1.d.fact 11 (f := .int "MOST_IN_LIST" 8) rfl)
    i_MOST_IN_PROCEDURE := He.int_ok X G (c.1.d.fact 12 (f := .int "MOST_IN_PROCEDURE" 12) rfl)
    i_MOST_PROCEDURES := He.int_ok X G (c.1.d.fact 13 (f := .int "MOST_PROCEDURES" 3) rfl)
    xa_NoBook := xaB_ok (exAt c.2 1) (He.glo_ok X G (c.1.d.fact 14 (f := .glo "NoBook") rfl))
    fx_NoBook := c.1.d.def_ 0 (d := ddx_NoBook) rfl
    c_Book := He.cls_ok (c.1.d.fact 15 (f := .cls "Book") rfl)
    a_Book_own := He.noat_ok (c.1.d.fact 16 (f := .noat "Book" "own") rfl)
    n_range := He.free_ok X G (c.1.d.fact 17 (f := .free "range") rfl)
    xm := xmB_ok (exAt c.2 2)
    T_Book := ⟨He.cls_ok (c.1.d.fact 18 (f := .cls "Book") rfl), He.mkr_ok (c.1.d.fact 19 (f := .mkr "Book") rfl), He.glo_ok X G (c.1.d.fact 20 (f := .glo "Book") rfl)⟩
    n_reversed := He.free_ok X G (c.1.d.fact 21 (f := .free "reversed") rfl)
    G_is_integer := He.glo_ok X G (c.1.d.fact 22 (f := .glo "is_integer") rfl)
    f_is_integer := c.1.d.def_ 1 (d := dd_is_integer) rfl
    G_is_bit := He.glo_ok X G (c.1.d.fact 23 (f := .glo "is_bit") rfl)
    f_is_bit := c.1.d.def_ 2 (d := dd_is_bit) rfl
    G_is_command := He.glo_ok X G (c.1.d.fact 24 (f := .glo "is_command") rfl)
    f_is_command := c.1.d.def_ 3 (d := dd_is_command) rfl
    G_blocks_of := He.glo_ok X G (c.1.d.fact 25 (f := .glo "blocks_of") rfl)
    f_blocks_of := c.1.d.def_ 4 (d := dd_blocks_of) rfl
    G_with_blocks := He.glo_ok X G (c.1.d.fact 26 (f := .glo "with_blocks") rfl)
    f_with_blocks := c.1.d.def_ 5 (d := dd_with_blocks) rfl
    G_copied_block := He.glo_ok X G (c.1.d.fact 27 (f := .glo "copied_block") rfl)
    f_copied_block := c.1.d.def_ 6 (d := dd_copied_block) rfl
    G_copied_statement := He.glo_ok X G (c.1.d.fact 28 (f := .glo "copied_statement") rfl)
    f_copied_statement := c.1.d.def_ 7 (d := dd_copied_statement) rfl
    G_well_formed := He.glo_ok X G (c.1.d.fact 29 (f := .glo "well_formed") rfl)
    f_well_formed := c.1.d.def_ 8 (d := dd_well_formed) rfl
    G_first_fault := He.glo_ok X G (c.1.d.fact 30 (f := .glo "first_fault") rfl)
    f_first_fault := c.1.d.def_ 9 (d := dd_first_fault) rfl
    M_Book_init := He.meth_ok (c.1.d.fact 31 (f := .meth "Book" "__init__") rfl)
    f_Book_init := c.1.d.def_ 10 (d := dd_Book_init) rfl
    M_Book_len := He.meth_ok (c.1.d.fact 32 (f := .meth "Book" "__len__") rfl)
    f_Book_len := c.1.d.def_ 11 (d := dd_Book_len) rfl
    M_Book_bodies := He.meth_ok (c.1.d.fact 33 (f := .meth "Book" "bodies") rfl)
    f_Book_bodies := c.1.d.def_ 12 (d := dd_Book_bodies) rfl
    G_L_pool := He.glo_ok X G (c.1.d.fact 34 (f := .glo "_law_pool") rfl)
    f_L_pool := c.1.d.def_ 13 (d := dd_L_pool) rfl
    G_L_draw := He.glo_ok X G (c.1.d.fact 35 (f := .glo "_law_draw") rfl)
    f_L_draw := c.1.d.def_ 14 (d := dd_L_draw) rfl
    G_L_any_command := He.glo_ok X G (c.1.d.fact 36 (f := .glo "_law_any_command") rfl)
    f_L_any_command := c.1.d.def_ 15 (d := dd_L_any_command) rfl
    G_L_blocks := He.glo_ok X G (c.1.d.fact 37 (f := .glo "_law_blocks") rfl)
    f_L_blocks := c.1.d.def_ 16 (d := dd_L_blocks) rfl
    G_L_with := He.glo_ok X G (c.1.d.fact 38 (f := .glo "_law_with") rfl)
    f_L_with := c.1.d.def_ 17 (d := dd_L_with) rfl
    G_L_copy := He.glo_ok X G (c.1.d.fact 39 (f := .glo "_law_copy") rfl)
    f_L_copy := c.1.d.def_ 18 (d := dd_L_copy) rfl
    G_L_copies := He.glo_ok X G (c.1.d.fact 40 (f := .glo "_law_copies") rfl)
    f_L_copies := c.1.d.def_ 19 (d := dd_L_copies) rfl
    G_L_same := He.glo_ok X G (c.1.d.fact 41 (f := .glo "_law_same") rfl)
    f_L_same := c.1.d.def_ 20 (d := dd_L_same) rfl
    G_L_faulty_list := He.glo_ok X G (c.1.d.fact 42 (f := .glo "_law_faulty_list") rfl)
    f_L_faulty_list := c.1.d.def_ 21 (d := dd_L_faulty_list) rfl
    G_L_faulty_thing := He.glo_ok X G (c.1.d.fact 43 (f := .glo "_law_faulty_thing") rfl)
    f_L_faulty_thing := c.1.d.def_ 22 (d := dd_L_faulty_thing) rfl
    G_L_fault := He.glo_ok X G (c.1.d.fact 44 (f := .glo "_law_fault") rfl)
    f_L_fault := c.1.d.def_ 23 (d := dd_L_fault) rfl
    G_L_made := He.glo_ok X G (c.1.d.fact 45 (f := .glo "_law_made") rfl)
    f_L_made := c.1.d.def_ 24 (d := dd_L_made) rfl
    G_law_k13 := He.glo_ok X G (c.1.d.fact 46 (f := .glo "law") rfl)
    f_law_k13 := c.1.d.def_ 25 (d := dd_law_k13) rfl
end PH

open PySem PySem.W PySem.Calls PyProof.Rows
set_option maxHeartbeats 0 in
theorem PySem.Challenge.cw_penhome_k13_first_fault_in_reading_order_holds : PySem.Challenge.rw_penhome_k13_first_fault_in_reading_order.Holds := by
  w_on; o_law
  refine HandSHeadRun.head_any (r := OpenLaw.row PySem.Challenge.rw_penhome_k13_first_fault_in_reading_order) (q := view (OpenLaw.row PySem.Challenge.rw_penhome_k13_first_fault_in_reading_order).prog [38]) (H := PH.hk) (ob := PH.ob) (M := 8000) (loose := PH.loose) (d := HandSHeadRun.topDef (OpenLaw.row PySem.Challenge.rw_penhome_k13_first_fault_in_reading_order).prog 38) (kwd := []) PH.ob_eq
    (by kernel_rfl) (fun s => by kernel_rfl) PH.run_ (by kernel_rfl) (by kernel_rfl) (by kernel_rfl) (by rfl) (by first | assumption | decide +kernel) (by decide +kernel) ⟨rfl, rfl, rfl, rfl, rfl, by decide +kernel⟩ ?hw ?hc
  case hw => w_witness2
  case hc =>
    refine PH.walk_x (l := PySem.Challenge.rw_penhome_k13_first_fault_in_reading_order) (n := 63) (k := 26) (x := "_law_script") rfl (by decide) (by kernel_rfl) ⟨rfl, by decide, by decide⟩ ?F
    intro w mg fa h Y G hmg0
    obtain ⟨K, KX, c⟩ := Y
    have hmg : mg ("law" : PySem.Str) = some (.ref fa) := by
      have e : (HandSHeadRun.topDef (OpenLaw.row PySem.Challenge.rw_penhome_k13_first_fault_in_reading_order).prog 38).name = ("law" : PySem.Str) := by kernel_rfl
      rw [← e]
      exact hmg0
    have T := PH.txt (w := w) KX G c
    have e := hmg.symm.trans T.G_law_k13
    cases e
    obtain ⟨fd, b, F⟩ := PH.law_fn (P := (PySem.Challenge.rw_penhome_k13_first_fault_in_reading_order).prog) T
    exact ⟨K, fd, PH.spF K PH.m_law_k13, KX, fun s v => b s [v] rfl, fun H a ns hl hO hS => PH.law_start PH.law_true_k13 H a ns hl hO hS, fun base _ _ => F base⟩

