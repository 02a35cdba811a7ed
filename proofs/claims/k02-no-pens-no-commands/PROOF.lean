import PyProof.Rows.All
import Wide.All
import OpenK.AllK
import Wide.FinOn
import KE.KStateDown
import Lean
import HandS.ForMost
import HandS.ForExc
import HandS.More
import HandS.Flow
import HandS.IsInst
import HandS.Defaults
import HandS.Head0
import HandS.Head1
import HandS.Head2
import HandS.HeadEnd
import HandS.HeadHook1
import HandS.HeadHook2
import HandS.HeadHook3
import HandS.TupAny
import HandS.Star
import HandS.Wide
import HandS.Zip
import HandS.Rev
import HandS.TryMany
import HandS.Small
import HandS.RaiseMore
import PySem.Challenge.RW_penhome_k02_values_that_are_no_pens_or_c
set_option Elab.async false
set_option linter.all false
set_option maxRecDepth 100000
set_option maxHeartbeats 4000000
namespace PH
open PySem PySem.Spec PyProof.Rows L2
section
variable {X : Cx}
theorem PE_imp {e : Expr} {t u : TE} (h : PE X e t) (i : ∀ σ H Q, u σ H Q → t σ H Q) : PE X e u := ⟨fun pins s σ H Q I q => h.run pins s σ H Q I (i σ H Q q)⟩
theorem PT_imp {e : Expr} {t u : TT} (h : PT X e t) (i : ∀ σ H Q, u σ H Q → t σ H Q) : PT X e u := ⟨fun pins s σ H Q I q => h.run pins s σ H Q I (i σ H Q q)⟩
theorem OpR_imp {f : Value → Value → Sem Value} {r u : R2} (h : OpR X f r) (i : ∀ x y H Q, u x y H Q → r x y H Q) : OpR X f u := fun pins s σ H x y v w Q I rx ry q => h pins s σ H x y v w Q I rx ry (i x y H Q q)
theorem CallR_imp {f : Value} {r u : List V → Hp → VK → Prop} (h : CallR X f r) (i : ∀ xs H Q, u xs H Q → r xs H Q) : CallR X f u := fun pins s σ H xs us Q I rx q => h pins s σ H xs us Q I rx (i xs H Q q)
theorem IxR_imp {r u : R2} (h : IxR X r) (i : ∀ x y H Q, u x y H Q → r x y H Q) : IxR X u := fun e1 e2 pins s σ H x y v w Q I rx ry q => h e1 e2 pins s σ H x y v w Q I rx ry (i x y H Q q)
/-- the i-th slot -/
def sl : L2.St → Nat → Option V
  | [], _ => none
  | x :: _, 0 => x
  | _ :: r, n + 1 => sl r n
theorem sl_at : ∀ {σ : L2.St} {i : Nat} {v : V}, sl σ i = some v → σ[i]? = some (some v)
  | [], _, _, h => by cases h
  | x :: _, 0, v, h => by
    have e : x = some v := h
    rw [e]; rfl
  | _ :: r, n + 1, v, h => by
    have e := sl_at (σ := r) (i := n) (v := v) h
    simpa using e
def cVar (i : Nat) : TE := fun σ H Q => match sl σ i with
  | some v => Q v H
  | none => False
theorem cv (i : Nat) {x : Str} {pos : Pos} (hN : X.N[i]? = some x := by rfl) (hv : Vis X.env.scope x := by first | exact Or.inl rfl | exact Or.inr (Or.inl rfl) | exact Or.inr (Or.inr rfl)) (hd : (x == ("__debug__" : Str)) = false := by decide)
    (hcd : (x == ("__classdict__" : Str)) = false := by decide) : PE X (.Name x pos) (cVar i) := PE_imp (pe_var hN hv hd hcd) fun σ H Q h => by
  unfold cVar at h
  cases e : sl σ i with
  | none => rw [e] at h; exact h.elim
  | some v => rw [e] at h; exact ⟨v, sl_at e, h⟩
def cI0 (g : Int → Int → V) : R2 := fun x y H Q => match x, y with
  | .int i, .int j => Q (g i j) H
  | _, _ => False
def cI (C : Int → Int → Prop) (g : Int → Int → V) : R2 := fun x y H Q => match x, y with
  | .int i, .int j => C i j ∧ Q (g i j) H
  | _, _ => False
theorem cI0_to {g : Int → Int → V} : ∀ x y H Q, cI0 g x y H Q → rI0 g x y H Q := fun x y H Q h => by
  cases x with
  | int i => cases y with
    | int j => exact ⟨i, j, rfl, rfl, h⟩
    | _ => exact h.elim
  | _ => exact h.elim
theorem cI_to {C : Int → Int → Prop} {g : Int → Int → V} : ∀ x y H Q, cI C g x y H Q → rI C g x y H Q := fun x y H Q h => by
  cases x with
  | int i => cases y with
    | int j => exact ⟨i, j, rfl, rfl, h.1, h.2⟩
    | _ => exact h.elim
  | _ => exact h.elim
def rAddI : R2 := fun x y H Q => match x, y with
  | .int i, .int j => Q (.int (i + j)) H
  | _, _ => False
def rSubC : R2 := fun x y H Q => match x, y with
  | .int i, .int j => Q (.int (i - j)) H
  | _, _ => False
def rMulC : R2 := fun x y H Q => match x, y with
  | .int i, .int j => IntMulOk i j ∧ Q (.int (i * j)) H
  | _, _ => False
def rModC : R2 := fun x y H Q => match x, y with
  | .int i, .int j => (0 < j) ∧ Q (.int (i % j)) H
  | _, _ => False
def rFdivC : R2 := fun x y H Q => match x, y with
  | .int i, .int j => (CDiv i j) ∧ Q (.int (i / j)) H
  | _, _ => False
def rPowC : R2 := fun x y H Q => match x, y with
  | .int i, .int j => (CPow i j) ∧ Q (.int (i ^ j.toNat)) H
  | _, _ => False
def rLtC : R2 := fun x y H Q => match x, y with
  | .int i, .int j => Q (.bl (decide (i < j))) H
  | _, _ => False
def rLeC : R2 := fun x y H Q => match x, y with
  | .int i, .int j => Q (.bl (decide (i ≤ j))) H
  | _, _ => False
def rGtC : R2 := fun x y H Q => match x, y with
  | .int i, .int j => Q (.bl (decide (j < i))) H
  | _, _ => False
def rGeC : R2 := fun x y H Q => match x, y with
  | .int i, .int j => Q (.bl (decide (j ≤ i))) H
  | _, _ => False
/-- x + y: ints, texts, lists, tuples -/
def cAdd (K : PySem.W.Frag) : R2 := fun x y H Q => match x, y with
  | .int i, .int j => Q (.int (i + j)) H
  | .str a, .str b => a.length + b.length ≤ sizeLine ∧ Q (.str (a ++ b)) H
  | .ref _, .ref _ => rCat x y H Q ∨ rCatA K x y H Q
  | _, _ => False
theorem op_addC : OpR X (binaryOp .Add) (cAdd X.K) := by
  refine OpR_imp (OpR.or (X := X) op_add (OpR.or op_add_str (OpR.or op_cat op_catA))) fun x y H Q h => ?_
  cases x with
  | int i => cases y with
    | int j => exact .inl ⟨i, j, rfl, rfl, h⟩
    | _ => exact h.elim
  | str i => cases y with
    | str j => exact .inr (.inl ⟨i, j, rfl, rfl, h.1, h.2⟩)
    | _ => exact h.elim
  | ref i => cases y with
    | ref j => exact .inr (.inr h)
    | _ => exact h.elim
  | _ => exact h.elim
theorem op_subC : OpR X (binaryOp .Sub) rSubC := OpR_imp op_sub fun x y H Q h => cI0_to (g := fun i j => .int (i - j)) x y H Q h
theorem op_mulO : OpR X (binaryOp .Mult) (rI IntMulOk fun i j => .int (i * j)) := opI fun _ _ _ _ _ _ _ hc q => mul_int q hc
theorem op_mulC : OpR X (binaryOp .Mult) rMulC := OpR_imp op_mulO fun x y H Q h => cI_to (C := IntMulOk) (g := fun i j => .int (i * j)) x y H Q h
theorem mulL {i j : Int} (h1 : -(2 ^ 64) < i) (h2 : i < 2 ^ 64) : IntMulOk i j := CMul.ok (.inl ⟨h1, h2⟩)
theorem mulR {i j : Int} (h1 : -(2 ^ 64) < j) (h2 : j < 2 ^ 64) : IntMulOk i j := CMul.ok (.inr ⟨h1, h2⟩)
theorem op_modC : OpR X (binaryOp .Mod) rModC := OpR_imp op_mod fun x y H Q h => cI_to (C := fun _ j => 0 < j) (g := fun i j => .int (i % j)) x y H Q h
theorem op_fdivC : OpR X (binaryOp .FloorDiv) rFdivC := OpR_imp op_fdiv fun x y H Q h => cI_to (C := CDiv) (g := fun i j => .int (i / j)) x y H Q h
theorem op_powC : OpR X (binaryOp .Pow) rPowC := OpR_imp op_pow fun x y H Q h => cI_to (C := CPow) (g := fun i j => .int (i ^ j.toNat)) x y H Q h
theorem op_ltC : OpR X (compareOp .Lt) rLtC := OpR_imp op_lt fun x y H Q h => cI0_to (g := fun i j => .bl (decide (i < j))) x y H Q h
theorem op_leC : OpR X (compareOp .LtE) rLeC := OpR_imp op_le fun x y H Q h => cI0_to (g := fun i j => .bl (decide (i ≤ j))) x y H Q h
theorem op_gtC : OpR X (compareOp .Gt) rGtC := OpR_imp op_gt fun x y H Q h => cI0_to (g := fun i j => .bl (decide (j < i))) x y H Q h
theorem op_geC : OpR X (compareOp .GtE) rGeC := OpR_imp op_ge fun x y H Q h => cI0_to (g := fun i j => .bl (decide (j ≤ i))) x y H Q h
def cNeg : V → Hp → VK → Prop := fun x H Q => match x with
  | .int i => Q (.int (-i)) H
  | _ => False
theorem un_negC : UnR X (unaryOp .USub) cNeg := fun pins s σ H x v Q I rx h => un_neg pins s σ H x v Q I rx (by
  cases x with
  | int i => exact ⟨i, rfl, h⟩
  | _ => exact h.elim)
/-- == by values: ints and texts at once, the rest as data -/
def cEq (K : PySem.W.Frag) : R2 := fun x y H Q => match x, y with
  | .int i, .int j => Q (.bl (decide (i = j))) H
  | .str i, .str j => Q (.bl (decide (i = j))) H
  | _, _ => rEqD K x y H Q
def cNe (K : PySem.W.Frag) : R2 := fun x y H Q => match x, y with
  | .int i, .int j => Q (.bl (!decide (i = j))) H
  | .str i, .str j => Q (.bl (!decide (i = j))) H
  | _, _ => rNeD K x y H Q
theorem dI {i j : Int} : decide (V.int i = V.int j) = decide (i = j) := by
  by_cases h : i = j
  · rw [decide_eq_true h, h, decide_eq_true rfl]
  · rw [decide_eq_false h, decide_eq_false fun e => h (V.int.inj e)]
theorem dS {i j : Str} : decide (V.str i = V.str j) = decide (i = j) := by
  by_cases h : i = j
  · rw [decide_eq_true h, h, decide_eq_true rfl]
  · rw [decide_eq_false h, decide_eq_false fun e => h (V.str.inj e)]
theorem op_eqC (hu : X.A.units + 64 < cLine) : OpR X (compareOp .Eq) (cEq X.K) := by
  refine OpR_imp (OpR.or (X := X) op_eq (op_eqD hu)) fun x y H Q h => ?_
  cases x with
  | int i => cases y with
    | int j => exact .inl ⟨rfl, by rw [dI]; exact h⟩
    | _ => exact .inr h
  | str i => cases y with
    | str j => exact .inl ⟨rfl, by rw [dS]; exact h⟩
    | _ => exact .inr h
  | _ => exact .inr h
theorem op_neC (hu : X.A.units + 64 < cLine) : OpR X (compareOp .NotEq) (cNe X.K) := by
  refine OpR_imp (OpR.or (X := X) op_ne (op_neD hu)) fun x y H Q h => ?_
  cases x with
  | int i => cases y with
    | int j => exact .inl ⟨rfl, by rw [dI]; exact h⟩
    | _ => exact .inr h
  | str i => cases y with
    | str j => exact .inl ⟨rfl, by rw [dS]; exact h⟩
    | _ => exact .inr h
  | _ => exact .inr h
variable {a b c : Expr} {ta tb tc : TE} {pos : Pos}
def cT (K : PySem.W.Frag) : V → Hp → (Bool → Hp → Prop) → Prop := fun x H Q => match x with
  | .bl k => Q k H
  | .non => Q false H
  | .int i => Q (i != 0) H
  | x => ∃ k, TruV K x H k ∧ Q k H
def cTest (K : PySem.W.Frag) (t : TE) : TT := fun σ H Q => t σ H fun x H' => cT K x H' Q
theorem cT_to {K : PySem.W.Frag} : ∀ x H Q, cT K x H Q → ∃ k, TruV K x H k ∧ Q k H := fun x H Q h => by
  cases x with
  | bl k => exact ⟨k, rfl, h⟩
  | non => exact ⟨false, rfl, h⟩
  | int i => exact ⟨_, rfl, h⟩
  | _ => exact h
theorem t_val (ha : PE X a ta) (he : ∀ whole, isTrue a X.env whole = (do let v ← whole; standAt a.pos; holding [v] (truthy v)) := by intro _; rfl) : PT X a (cTest X.K ta) := by
  refine ⟨fun pins s σ H Q I h => ?_⟩
  exact isTrue_plain (thn (ha.run pins s σ H _ I h) fun v s1 ⟨x, H1, I1, r1, q1⟩ => tru_ok pins s1 σ H1 x v Q I1 r1 (cT_to x H1 Q q1)) (he _)
def cB (t : TE) : TT := fun σ H Q => t σ H fun x H' => match x with
  | .bl k => Q k H'
  | _ => False
theorem cB_tTest {t : TE} (h : PT X a (tTest t)) (mono : ∀ σ H (Q Q' : VK), (∀ x H', Q x H' → Q' x H') → t σ H Q → t σ H Q') : PT X a (cB t) := PT_imp h fun σ H Q h => mono σ H _ _ (fun x H' q => by
  cases x with
  | bl k => exact ⟨k, rfl, q⟩
  | _ => exact q.elim) h
theorem t_cmp {op : CmpOp} {r : R2} (ho : OpR X (compareOp op) r) (ha : PE X a ta) (hb : PE X b tb) (hm : behindInMarks op b = false := by rfl) : PT X (.Compare a [op] [b] pos) (cB (tOp r ta tb)) := by
  refine ⟨fun pins s σ H Q I h => ?_⟩
  have h' : ta σ H fun x H1 => tb σ H1 fun y H2 => r x y H2 fun z H3 => (match z with | .bl k => Q k H3 | _ => False) := h
  refine wpAny_isTrue_Compare1 (thn (ha.run pins s σ H _ I h') fun v s1 ⟨x, H1, I1, r1, q1⟩ => thn (hb.run pins s1 σ H1 _ I1 q1) fun u s2 ⟨y, H2, I2, r2, q2⟩ => thn (ho pins s2 σ H2 x y v u _ I2 r1 r2 q2) fun d s3 hz => ?_) hm
  obtain ⟨z, H3, I3, r3, q3⟩ := hz
  cases z with
  | bl k => cases r3; exact wpAny_truthy_bool ⟨H3, I3, q3⟩
  | _ => exact q3.elim
theorem e_cmp {op : CmpOp} {r : R2} (ho : OpR X (compareOp op) r) (ha : PE X a ta) (hb : PE X b tb) (hm : behindInMarks op b = false := by rfl) : PE X (.Compare a [op] [b] pos) (tOp r ta tb) := pe_cmpR ho ha hb hm
end
section
variable {X : Cx} {a b c : Expr} {ta tb tc : TE} {pos : Pos}
variable {rest : List Expr}
def cAndV (ta tb : TE) : TE := fun σ H Q => ta σ H fun x H1 => match x with
  | .bl c => if c = true then tb σ H1 Q else Q (.bl false) H1
  | _ => False
def cOrV (ta tb : TE) : TE := fun σ H Q => ta σ H fun x H1 => match x with
  | .bl c => if c = true then Q (.bl true) H1 else tb σ H1 Q
  | _ => False
def cNotV (K : PySem.W.Frag) (ta : TE) : TE := fun σ H Q => ta σ H fun x H1 => cT K x H1 fun k H2 => Q (.bl (!k)) H2
theorem e_and (ha : PE X a ta) (hb : PE X (.BoolOp .And (b :: rest) pos) tb) : PE X (.BoolOp .And (a :: b :: rest) pos) (cAndV ta tb) := by
  refine ⟨fun pins s σ H Q I h => ?_⟩
  refine BoolOp_and (thn (ha.run pins s σ H _ I h) fun v s1 hq => ?_)
  obtain ⟨x, H1, I1, r1, q1⟩ := hq
  cases x with
  | bl c =>
    cases r1
    refine wpAny_truthy_bool ?_
    cases c with
    | true => exact hb.run pins s1 σ H1 Q I1 q1
    | false => exact ⟨.bl false, H1, I1, rfl, q1⟩
  | _ => exact q1.elim
theorem e_or (ha : PE X a ta) (hb : PE X (.BoolOp .Or (b :: rest) pos) tb) : PE X (.BoolOp .Or (a :: b :: rest) pos) (cOrV ta tb) := by
  refine ⟨fun pins s σ H Q I h => ?_⟩
  refine BoolOp_or (thn (ha.run pins s σ H _ I h) fun v s1 hq => ?_)
  obtain ⟨x, H1, I1, r1, q1⟩ := hq
  cases x with
  | bl c =>
    cases r1
    refine wpAny_truthy_bool ?_
    cases c with
    | false => exact hb.run pins s1 σ H1 Q I1 q1
    | true => exact ⟨.bl true, H1, I1, rfl, q1⟩
  | _ => exact q1.elim
theorem e_not (ha : PE X a ta) : PE X (.UnaryOp .Not a pos) (cNotV X.K ta) := by
  refine ⟨fun pins s σ H Q I h => ?_⟩
  refine UnaryOp_ (thn (ha.run pins s σ H _ I h) fun v s1 hq => ?_)
  obtain ⟨x, H1, I1, r1, q1⟩ := hq
  exact not_of (thn (tru_ok pins s1 σ H1 x v (fun c H2 => Q (.bl (!c)) H2) I1 r1 (cT_to x H1 _ q1)) fun c s2 ⟨H2, I2, q2⟩ => ⟨.bl (!c), H2, I2, rfl, q2⟩)
def cChainG (r r' : R2) (ta tb tc : TE) : TE := fun σ H Q => ta σ H fun x H1 => tb σ H1 fun y H2 => r x y H2 fun z H3 => match z with
  | .bl k => if k = true then tc σ H3 fun w' H4 => r' y w' H4 Q else Q (.bl false) H3
  | _ => False
theorem e_chain {op op' : CmpOp} {r r' : R2} (ho : OpR X (compareOp op) r) (ho' : OpR X (compareOp op') r') (ha : PE X a ta) (hb : PE X b tb) (hc : PE X c tc)
    (hm : lastMarks [op, op'] [b, c] = false := by with_unfolding_all rfl) : PE X (.Compare a [op, op'] [b, c] pos) (cChainG r r' ta tb tc) := by
  refine ⟨fun pins s σ H Q I h => ?_⟩
  refine Compare_chain (thn (ha.run pins s σ H _ I h) fun v s1 ⟨x, H1, I1, r1, q1⟩ => chain_link (thn (hb.run pins s1 σ H1 _ I1 q1) fun u s2 ⟨y, H2, I2, r2, q2⟩ =>
    thn (ho pins s2 σ H2 x y v u _ I2 r1 r2 q2) fun d s3 hz => ?_)) hm
  obtain ⟨z, H3, I3, r3, q3⟩ := hz
  cases z with
  | bl k =>
    cases r3
    refine wpAny_truthy_bool ?_
    cases k with
    | false => exact ite_ff ⟨.bl false, H3, I3, rfl, q3⟩
    | true => exact ite_tt (chain_last (thn (hc.run pins s3 σ H3 _ I3 q3) fun w' s4 ⟨z', H4, I4, r4, q4⟩ => ho' pins s4 σ H4 y z' u w' Q I4 r2 r4 q4))
  | _ => exact q3.elim
theorem t_chain {op op' : CmpOp} {r r' : R2} (ho : OpR X (compareOp op) r) (ho' : OpR X (compareOp op') r') (ha : PE X a ta) (hb : PE X b tb) (hc : PE X c tc)
    (hm : lastMarks [op, op'] [b, c] = false := by with_unfolding_all rfl) : PT X (.Compare a [op, op'] [b, c] pos) (cB (cChainG r r' ta tb tc)) := by
  refine ⟨fun pins s σ H Q I h => ?_⟩
  refine isTrue_chain (thn (ha.run pins s σ H _ I h) fun v s1 ⟨x, H1, I1, r1, q1⟩ => test_link (thn (hb.run pins s1 σ H1 _ I1 q1) fun u s2 ⟨y, H2, I2, r2, q2⟩ =>
    thn (ho pins s2 σ H2 x y v u _ I2 r1 r2 q2) fun d s3 hz => ?_)) hm
  obtain ⟨z, H3, I3, r3, q3⟩ := hz
  cases z with
  | bl k =>
    cases r3
    refine wpAny_truthy_bool ?_
    cases k with
    | false => exact ite_ff ⟨H3, I3, q3⟩
    | true =>
      refine ite_tt (test_last (thn (hc.run pins s3 σ H3 _ I3 q3) fun w' s4 ⟨z', H4, I4, r4, q4⟩ => thn (ho' pins s4 σ H4 y z' u w' _ I4 r2 r4 q4) fun d' s5 hz2 => ?_))
      obtain ⟨z2, H5, I5, r5, q5⟩ := hz2
      cases z2 with
      | bl k2 => cases r5; exact wpAny_truthy_bool ⟨H5, I5, q5⟩
      | _ => exact q5.elim
  | _ => exact q3.elim
def cIx (K : PySem.W.Frag) : R2 := fun x y H Q => match x, y with
  | .ref p, .int i => ∃ xs v, (SqL K H p xs ∨ SqT K H p xs) ∧ atI xs i = some v ∧ Q v H
  | .str z, .int i => z.length ≤ sizeLine ∧ ∃ c, atI z.cps.toList i = some c ∧ Q (.str ⟨#[c]⟩) H
  | _, _ => False
theorem ix_C : IxR X (cIx X.K) := IxR_imp ix_seq fun x y H Q h => by
  cases x with
  | ref p => cases y with
    | int i =>
      obtain ⟨xs, v, h1 | h1, h2, q⟩ := h
      · exact .inl ⟨p, xs, i, v, rfl, rfl, h1, h2, q⟩
      · exact .inr (.inl ⟨p, xs, i, v, rfl, rfl, h1, h2, q⟩)
    | _ => exact h.elim
  | str z => cases y with
    | int i =>
      obtain ⟨h1, c, h2, q⟩ := h
      exact .inr (.inr ⟨z, i, c, rfl, rfl, h1, h2, q⟩)
    | _ => exact h.elim
  | _ => exact h.elim
theorem e_ix (ha : PE X a ta) (hb : PE X b tb) (hs : PlainIx b := by intro _ _; rfl) : PE X (.Subscript a b pos) (tOp (cIx X.K) ta tb) := pe_ix ix_C ha hb hs
def cLen (K : PySem.W.Frag) : V → Hp → VK → Prop := fun x H Q => match x with
  | .str z => z.length ≤ sizeLine ∧ Q (.int z.length) H
  | .ref p => ∃ ys, (SqL K H p ys ∨ SqT K H p ys) ∧ Q (.int ys.length) H
  | _ => False
def c1 (r : V → Hp → VK → Prop) : List V → Hp → VK → Prop := fun xs H Q => match xs with
  | [x] => r x H Q
  | _ => False
theorem e_len {p : Pos} (hm : X.mg "len" = none) (ha : PE X a ta) (hg : Gl X "len" := by rfl) (hs : starEach [a] X.env = [(false, eval a X.env)] := by rfl) : PE X (.Call (.Name "len" p) [a] [] pos) (tCB (c1 (cLen X.K)) (tCons ta tNil)) :=
  pe_callB (CallR_imp (CallR.or call_len_seq call_len_str) fun xs H Q h => by
    match xs, h with
    | [x], h =>
      cases x with
      | str z => exact .inr ⟨z, rfl, h.1, h.2⟩
      | ref p =>
        obtain ⟨ys, h1, q⟩ := h
        exact .inl ⟨p, ys, rfl, h1, q⟩
      | _ => exact h.elim) hg hm boot_len (pa_cons ha pa_nil hs) (he := hs)
def cInt : V → Hp → VK → Prop := fun x H Q => match x with
  | .int i => Q (.int i) H
  | .bl k => Q (.int (if k then 1 else 0)) H
  | _ => False
theorem e_int {p : Pos} (hm : X.mg "int" = none) (ha : PE X a ta) (hg : Gl X "int" := by rfl) (hs : starEach [a] X.env = [(false, eval a X.env)] := by rfl) : PE X (.Call (.Name "int" p) [a] [] pos) (tCB (c1 cInt) (tCons ta tNil)) :=
  pe_callTy (CallR_imp call_int1 fun xs H Q h => by
    match xs, h with
    | [x], h =>
      cases x with
      | int i => exact .inl ⟨i, rfl, h⟩
      | bl k => exact .inr ⟨k, rfl, h⟩
      | _ => exact h.elim) hg hm boot_int (pa_cons ha pa_nil hs) (he := hs)
def tyOf : V → Option String
  | .non => some "NoneType"
  | .bl _ => some "bool"
  | .int _ => some "int"
  | .str _ => some "str"
  | _ => none
def isTy (T n : String) : Bool := n == T || (n == "bool" && T == "int")
def kinds : List String := ["NoneType", "bool", "int", "str", "list", "tuple", "dict"]
def targets : List String := ["int", "bool", "str", "list", "tuple", "dict"]
theorem kit_tab (K : PySem.W.Frag) : (kinds.all fun n => targets.all fun T => decide (PySem.W.kitOne K (.type n) (.type T) = some (isTy T n))) = true := by kernel_rfl
theorem kit_at {K : PySem.W.Frag} {n T : String} (hn : n ∈ kinds) (hT : T ∈ targets) : PySem.W.kitOne K (.type n) (.type T) = some (isTy T n) :=
  of_decide_eq_true (List.all_eq_true.mp (List.all_eq_true.mp (kit_tab K) n hn) T hT)
/-- what kind of thing stands at a -/
def KindAt (K : PySem.W.Frag) (H : Hp) (a : Addr) (n : String) : Prop := n ∈ ["list", "tuple", "dict"] ∧ TyX K H (.ref a) (.type n)
def cIsi (K : PySem.W.Frag) (T : String) : V → Hp → VK → Prop := fun x H Q => match x with
  | .non => Q (.bl false) H
  | .bl _ => Q (.bl (T == "bool" || T == "int")) H
  | .int _ => Q (.bl (T == "int")) H
  | .str _ => Q (.bl (T == "str")) H
  | .ref a => ∃ n, KindAt K H a n ∧ Q (.bl (n == T)) H
  | _ => False
def cIsiL (K : PySem.W.Frag) (T : String) : List V → Hp → VK → Prop := fun xs H Q => match xs with
  | [x, .ty n] => if n = T then cIsi K T x H Q else False
  | _ => False
theorem call_isiC {T : String} (hT : T ∈ targets) : CallR X (.builtin "isinstance") (cIsiL X.K T) := CallR_imp call_isi fun xs H Q h => by
  match xs, h with
  | [x, .ty n], h =>
    have h0 : if n = T then cIsi X.K T x H Q else False := h
    by_cases e : n = T
    case neg => rw [if_neg e] at h0; exact h0.elim
    rw [if_pos e] at h0
    replace h := h0
    subst e
    have go : ∀ (k : String) (b : Bool), k ∈ kinds → TyX X.K H x (.type k) → b = isTy n k → Q (.bl b) H → rIsi X.K [x, .ty n] H Q := fun k b hk ty e q => ⟨x, .ty n, .type k, .type n, isTy n k, rfl, .ty n, ty, kit_at hk hT, by rw [← e]; exact q⟩
    have h6 : n = "int" ∨ n = "bool" ∨ n = "str" ∨ n = "list" ∨ n = "tuple" ∨ n = "dict" := by simpa [targets] using hT
    cases x with
    | non => exact go "NoneType" false (by decide) (.base .non) (by rcases h6 with e | e | e | e | e | e <;> subst e <;> decide) h
    | bl b => exact go "bool" _ (by decide) (.base (.bl b)) (by rcases h6 with e | e | e | e | e | e <;> subst e <;> decide) h
    | int b => exact go "int" _ (by decide) (.base (.int b)) (by rcases h6 with e | e | e | e | e | e <;> subst e <;> decide) h
    | str b => exact go "str" _ (by decide) (.base (.str b)) (by rcases h6 with e | e | e | e | e | e <;> subst e <;> decide) h
    | ref a =>
      obtain ⟨k, ⟨hk, ty⟩, q⟩ := h
      have h3 : k = "list" ∨ k = "tuple" ∨ k = "dict" := by simpa using hk
      exact go k _ (by rcases h3 with e | e | e <;> subst e <;> decide) ty (by rcases h6 with e | e | e | e | e | e <;> rcases h3 with e' | e' | e' <;> subst e <;> subst e' <;> decide) q
    | _ => exact h.elim
/-- isinstance(e, T) -/
def cIsE (K : PySem.W.Frag) (T : String) (ta : TE) : TE := fun σ H Q => ta σ H fun x H1 => cIsi K T x H1 Q
theorem e_isi {p q : Pos} {T : String} {y : Str} (hm : X.mg "isinstance" = none) (hmT : X.mg y = none) (ha : PE X a ta) (hT : T ∈ targets := by decide) (hv : bootBuiltins y = some (.type T) := by decide +kernel)
    (hg : Gl X "isinstance" := by rfl) (hgT : Gl X y := by rfl) (hn : y ≠ "__name__" := by decide) (hd : (y == ("__debug__" : Str)) = false := by decide) (hs : starEach [a, .Name y q] X.env = (false, eval a X.env) :: starEach [.Name y q] X.env := by rfl) :
    PE X (.Call (.Name "isinstance" p) [a, .Name y q] [] pos) (cIsE X.K T ta) :=
  PE_imp (pe_callB (call_isiC hT) hg hm boot_isinstance (pa_cons ha (pa_cons (pe_bltn (v := .ty T) hgT hmT hv rfl hn hd) pa_nil) hs) (he := hs)) fun σ H Q h => by
    show ta σ H fun x H1 => if T = T then cIsi X.K T x H1 Q else False
    simp only [if_true]
    exact h
def cAll (K : PySem.W.Frag) : V → Hp → VK → Prop := fun x H Q => match x with
  | .ref p => ∃ bs : List Bool, SqL K H p (bs.map V.bl) ∧ Q (.bl (bs.all id)) H
  | _ => False
theorem e_all {p : Pos} (hm : X.mg "all" = none) (ha : PE X a ta) (hc : X.calm = true := by rfl) (hg : Gl X "all" := by rfl) (hs : starEach [a] X.env = [(false, eval a X.env)] := by rfl) : PE X (.Call (.Name "all" p) [a] [] pos) (tCB (c1 (cAll X.K)) (tCons ta tNil)) :=
  pe_callB (CallR_imp (cr_all hc) fun xs H Q h => by
    match xs, h with
    | [x], h =>
      cases x with
      | ref p =>
        obtain ⟨bs, h1, q⟩ := h
        exact ⟨p, bs, rfl, h1, q⟩
      | _ => exact h.elim) hg hm boot_all (pa_cons ha pa_nil hs) (he := hs)
def cSum (K : PySem.W.Frag) : V → Hp → VK → Prop := fun x H Q => match x with
  | .ref p => ∃ ns : List Int, SqL K H p (ns.map V.int) ∧ Q (.int ns.sum) H
  | _ => False
theorem e_sum {p : Pos} (hm : X.mg "sum" = none) (ha : PE X a ta) (hc : X.calm = true := by rfl) (hg : Gl X "sum" := by rfl) (hs : starEach [a] X.env = [(false, eval a X.env)] := by rfl) : PE X (.Call (.Name "sum" p) [a] [] pos) (tCB (c1 (cSum X.K)) (tCons ta tNil)) :=
  pe_callB (CallR_imp (cr_sum hc) fun xs H Q h => by
    match xs, h with
    | [x], h =>
      cases x with
      | ref p =>
        obtain ⟨bs, h1, q⟩ := h
        exact ⟨p, bs, rfl, h1, q⟩
      | _ => exact h.elim) hg hm boot_sum (pa_cons ha pa_nil hs) (he := hs)
def cList (K : PySem.W.Frag) : V → Hp → VK → Prop := fun x H Q => match x with
  | .ref p => ∃ ys, (SqL K H p ys ∨ SqT K H p ys) ∧ ∀ l, H l = none → Q (.ref l) (upd H l (.lst ys))
  | _ => False
theorem e_list {p : Pos} (hm : X.mg "list" = none) (ha : PE X a ta) (hg : Gl X "list" := by rfl) (hs : starEach [a] X.env = [(false, eval a X.env)] := by rfl) : PE X (.Call (.Name "list" p) [a] [] pos) (tCB (c1 (cList X.K)) (tCons ta tNil)) :=
  pe_callTy (CallR_imp call_list_of fun xs H Q h => by
    match xs, h with
    | [x], h =>
      cases x with
      | ref p =>
        obtain ⟨bs, h1, q⟩ := h
        exact ⟨p, bs, rfl, h1, q⟩
      | _ => exact h.elim) hg hm boot_list (pa_cons ha pa_nil hs) (he := hs)
/-- tuple(x), x a list -/
def cTuple (K : PySem.W.Frag) : V → Hp → VK → Prop := fun x H Q => match x with
  | .ref p => ∃ ys, SqL K H p ys ∧ ∀ l, H l = none → Q (.ref l) (upd H l (.tup ys))
  | _ => False
theorem e_tuple {p : Pos} (hm : X.mg "tuple" = none) (ha : PE X a ta) (hg : Gl X "tuple" := by rfl) (hs : starEach [a] X.env = [(false, eval a X.env)] := by rfl) : PE X (.Call (.Name "tuple" p) [a] [] pos) (tCB (c1 (cTuple X.K)) (tCons ta tNil)) :=
  pe_callTy (CallR_imp call_tuple_of fun xs H Q h => by
    match xs, h with
    | [x], h =>
      cases x with
      | ref p =>
        obtain ⟨ys, h1, q⟩ := h
        exact ⟨p, ys, rfl, .inl ⟨h1, q⟩⟩
      | _ => exact h.elim) hg hm boot_tuple (pa_cons ha pa_nil hs) (he := hs)
/-- what a promise of so many arguments is -/
def sp1 (p : V → Hp → VK → Prop) : Sp := fun vs H Q _ => match vs with
  | [a] => p a H Q
  | _ => False
def sp2 (p : V → V → Hp → VK → Prop) : Sp := fun vs H Q _ => match vs with
  | [a, b] => p a b H Q
  | _ => False
def sp3 (p : V → V → V → Hp → VK → Prop) : Sp := fun vs H Q _ => match vs with
  | [a, b, c] => p a b c H Q
  | _ => False
def sp0 (p : Hp → VK → Prop) : Sp := fun vs H Q _ => match vs with
  | [] => p H Q
  | _ => False
end
/-- the def x keeps the promise sp, at the level k -/
def Ok (P : Program) (w : World) (K : PySem.W.Frag) (mg : Str → Option Value) (base : Heap) (k : Nat) (x : Str) (ps : List Str) (sp : Sp) : Prop :=
  ∃ fd, FnOk P w K mg base CX0 k (He.ga K x) fd ps sp ∧ mg x = some (.ref (He.ga K x)) ∧ PySem.W.keepIn K (.ref (He.ga K x)) = true ∧ Binds K fd ps [] ∧ ∃ oc od osl, K.lookup (He.ga K x) = some ⟨oc, od, .func fd, osl⟩
section
variable {X : Cx} {e : Expr} {es : List Expr} {t : TA} {pos p : Pos} {x : Str} {ps : List Str} {sp : Sp} {k j : Nat}
def cCall (sp : Sp) (t : TA) : TE := fun σ H Q => t σ H fun vs H1 => sp vs H1 Q E0
theorem app_nil_fun {sp : Sp} {Q : VK} {E : XK} : (fun (vs : List V) (H1 : Hp) => sp (vs ++ []) H1 Q E) = fun vs H1 => sp vs H1 Q E := by
  funext vs H1
  rw [List.append_nil]
theorem e_call (F : Ok X.prog X.w X.K X.mg X.base j x ps sp) (hr : Room k X.A) (ha : PA X (e :: es) t) (hjk : j ≤ k := by decide) (hg : Gl X x := by rfl) (hdb : (x == ("__debug__" : Str)) = false := by decide)
    (he : starEach (e :: es) X.env = (false, eval e X.env) :: starEach es X.env := by rfl) (hpl : (backTo pos (starEach es X.env)).any (·.1) = false := by rfl) : PE X (.Call (.Name x p) (e :: es) [] pos) (cCall sp t) := by
  obtain ⟨fd, F, hm, hk, hb, _⟩ := F
  refine PE_imp (pe_call F (hr.mono hjk) hg hm hk hb .nil pass0 ha hdb he hpl) fun σ H Q h => ?_
  show t σ H fun vs H1 => sp (vs ++ []) H1 Q E0
  rw [app_nil_fun]
  exact h
theorem e_call0 (F : Ok X.prog X.w X.K X.mg X.base j x ps sp) (hr : Room k X.A) (hjk : j ≤ k := by decide) (hg : Gl X x := by rfl) (hdb : (x == ("__debug__" : Str)) = false := by decide) : PE X (.Call (.Name x p) [] [] pos) (cCall sp tNil) := by
  obtain ⟨fd, F, hm, hk, hb, _⟩ := F
  exact pe_call0 F (hr.mono hjk) hg hm hk hb .nil pass0 hdb
end
section
variable {P : Program} {w : World} {K : PySem.W.Frag} {mg : Str → Option Value} {base : Heap}
abbrev FnP (K : PySem.W.Frag) (x : Str) (st : Stmt) : Prop := ∃ fd, FunD K x x (defArgs st) (defBody st) (defScope st) [] [] (He.ga K x) fd
theorem ok_of {x : Str} {st : Stmt} {N ps : List Str} {k : Nat} {sp : Sp} (F : FnP K x st) (g : mg x = some (.ref (He.ga K x))) (S : FnScope N ps (defScope st)) (len : ∀ vs H Q E, sp vs H Q E → vs.length = ps.length)
    (bnd : ∀ (kV doc pm : Value) (an : Option Addr) (cdv ct : Value) (us : List Value), us.length = ps.length → bindArgs (PySem.W.fnOf x x (defArgs st) (defBody st) (defScope st) .none kV doc pm an cdv ct) ⟨us, []⟩ = pure (ps.zip us))
    (hbody : ∀ (cdv : Value) (A : Around) (outer : List Env) (s : Shared) (H : Hp) (vs : List V) (Q : VK) (E : XK), Room k (A.deeper (envOfC x (defScope st) s.heap.objs.size (He.ga K x) cdv)) → sp vs H Q E →
      ∃ t, PSs (cxOf CX0 P w K mg base N x (defScope st) (He.ga K x) cdv A outer s H E).nox (defBody st) t ∧ t { nx := fun _ H' => Q .non H', rt := Q } (start N vs) H) : Ok P w K mg base (k + 1) x ps sp := by
  obtain ⟨fd, F⟩ := F
  refine ⟨fd, FunD.ok F S len fun cdv A outer s H vs Q E hr hsp => ?_, g, F.kp, F.bindsN bnd, ?_⟩
  case refine_2 =>
    obtain ⟨oc, od, dV, kV, doc, pm, an, cdv, ct, osl, _, lk, _⟩ := F.ex
    exact ⟨oc, od, osl, lk⟩
  obtain ⟨t, h, q⟩ := hbody cdv A outer s H vs Q E hr hsp
  exact ⟨t, h.nox, q⟩
theorem len1 {p : V → Hp → VK → Prop} {a : Str} : ∀ vs H Q E, sp1 p vs H Q E → vs.length = [a].length := fun vs H Q E h => by
  match vs, h with
  | [_], _ => rfl
theorem len2 {p : V → V → Hp → VK → Prop} {a b : Str} : ∀ vs H Q E, sp2 p vs H Q E → vs.length = [a, b].length := fun vs H Q E h => by
  match vs, h with
  | [_, _], _ => rfl
theorem len3 {p : V → V → V → Hp → VK → Prop} {a b c : Str} : ∀ vs H Q E, sp3 p vs H Q E → vs.length = [a, b, c].length := fun vs H Q E h => by
  match vs, h with
  | [_, _, _], _ => rfl
theorem len0 {p : Hp → VK → Prop} : ∀ vs H Q E, sp0 p vs H Q E → vs.length = ([] : List Str).length := fun vs H Q E h => by
  match vs, h with
  | [], _ => rfl
end
section
variable {X : Cx} {o i e : Expr} {to ti te : TE} {pos tpos : Pos}
def cGetL : V → V → Hp → VK → Prop := fun x y H Q => match x, y with
  | .ref p, .int i => ∃ xs v, H p = some (.lst xs) ∧ 0 ≤ i ∧ xs[i.toNat]? = some v ∧ Q v H
  | _, _ => False
theorem get_listC : PGet X cGetL := by
  intro pins s σ H o i ov iv Q I ro ri h
  cases o with
  | ref p => cases i with
    | int k =>
      obtain ⟨xs, v, hp, h0, hx, q⟩ := h
      cases ro
      obtain ⟨t, rfl⟩ := ri
      obtain ⟨its, r, pl, hz⟩ := I.list (.inl (.inl hp))
      obtain ⟨w, ew, rw'⟩ := r.get hx
      have hl := r.length
      have hn := line63
      have hlt : k.toNat < xs.length := (List.getElem?_eq_some_iff.mp hx).1
      exact wpAny_getItem_list pl.isList h0 (by omega) (by simpa using ew) ⟨v, H, I, rw', q⟩
    | _ => exact h.elim
  | _ => exact h.elim
def cSetL : V → V → V → Hp → (Hp → Prop) → Prop := fun o i v H Q => match o, i with
  | .ref p, .int k => ∃ xs, H p = some (.lst xs) ∧ 0 ≤ k ∧ k.toNat < xs.length ∧ Q (upd H p (.lst (xs.set k.toNat v)))
  | _, _ => False
theorem set_listC : PSet X cSetL := by
  intro pins s σ H o i v ov iv u Q I ro ri rv h
  refine set_list pins s σ H o i v ov iv u Q I ro ri rv ?_
  cases o with
  | ref p => cases i with
    | int k =>
      obtain ⟨xs, hp, h0, hk, q⟩ := h
      exact ⟨p, xs, k, k.toNat, rfl, rfl, hp, by unfold ixN; rw [if_pos h0, if_pos (by omega)], q⟩
    | _ => exact h.elim
  | _ => exact h.elim
def cIp (r : R2) : TIp := fun x y H Q => r x y H Q
theorem ip_addC : PIp X .Add (cIp rAddI) := fun pins s σ H x y v u Q I r1 r2 h => ip_add pins s σ H x y v u Q I r1 r2 (cI0_to (g := fun i j => .int (i + j)) x y H Q h)
theorem ip_subC : PIp X .Sub (cIp rSubC) := fun pins s σ H x y v u Q I r1 r2 h => ip_sub pins s σ H x y v u Q I r1 r2 (cI0_to (g := fun i j => .int (i - j)) x y H Q h)
theorem s_augS {op : Operator} {tip : TIp} (ho : PE X o to) (hi : PE X i ti) (he : PE X e te) (hp : PIp X op tip)
    (ha : ∀ ov iv new, augStore i ov iv new = (do holding [new, ov, iv] (setItem ov iv new); release [new, ov, iv] []; pure .next) := by intros; rfl) : PS X (.AugAssign (.Subscript o i tpos) op e pos) (tAugS to ti te cGetL tip cSetL) :=
  ps_augS ho hi get_listC he hp set_listC ha
end
section
variable {X : Cx} {tg e : Expr} {te : TE} {pos p : Pos}
def rIsNC : R2 := fun x y H Q => match y with
  | .non => Q (.bl (decide (x = .non))) H
  | _ => False
def rNotNC : R2 := fun x y H Q => match y with
  | .non => Q (.bl (!decide (x = .non))) H
  | _ => False
theorem op_isNC : OpR X (compareOp .Is) rIsNC := OpR_imp op_isN fun x y H Q h => by
  cases y with
  | non => exact ⟨rfl, h⟩
  | _ => exact h.elim
theorem op_notNC : OpR X (compareOp .IsNot) rNotNC := OpR_imp op_notN fun x y H Q h => by
  cases y with
  | non => exact ⟨rfl, h⟩
  | _ => exact h.elim
def cPart (t : TE) : TO := fun σ H Q => t σ H fun x H1 => match x with
  | .int i => Q (some i) H1
  | _ => False
theorem po_someC (h : PE X e te) : PO X (some e) (cPart te) := by
  refine ⟨fun pins s σ H Q I hw => ?_⟩
  rw [evalPart_some]
  refine thn (h.run pins s σ H _ I hw) fun u s1 hq => ?_
  obtain ⟨x, H1, I1, r1, q1⟩ := hq
  cases x with
  | int i =>
    obtain ⟨t, rfl⟩ := r1
    exact ⟨some i, H1, I1, .int i t, q1⟩
  | _ => exact q1.elim
theorem SlR_imp {r u : V → Option Int → Option Int → Hp → VK → Prop} (h : SlR X r) (i : ∀ x lo hi H Q, u x lo hi H Q → r x lo hi H Q) : SlR X u := by
  intro pins s σ H x v vl vu lo hi sl Q I rx hs pl pu q
  exact h pins s σ H x v vl vu lo hi sl Q I rx hs pl pu (i x lo hi H Q q)
def cSl (K : PySem.W.Frag) : V → Option Int → Option Int → Hp → VK → Prop := fun x lo hi H Q => match x with
  | .ref a => (∃ xs, SqL K H a xs ∧ ∀ p, H p = none → Q (.ref p) (upd H p (.lst (cutV xs lo hi)))) ∨ (∃ xs, SqT K H a xs ∧
    (HT.sIx xs.length 0 lo = 0 ∧ HT.sIx xs.length xs.length hi = xs.length → Q (.ref a) H) ∧ (¬ (HT.sIx xs.length 0 lo = 0 ∧ HT.sIx xs.length xs.length hi = xs.length) → ∀ p, H p = none → Q (.ref p) (upd H p (.tup (cutV xs lo hi)))))
  | .str z => z.length ≤ sizeLine ∧ Q (.str (cutS z lo hi)) H
  | _ => False
theorem sl_C : SlR X (cSl X.K) := SlR_imp (SlR.or sl_list (SlR.or sl_tupA sl_str)) fun x lo hi H Q h => by
  cases x with
  | ref a =>
    rcases h with ⟨xs, h1, q⟩ | ⟨xs, h1, q⟩
    · exact .inl ⟨a, xs, rfl, h1, q⟩
    · exact .inr (.inl ⟨a, xs, rfl, h1, q⟩)
  | str z => exact .inr (.inr ⟨z, rfl, h⟩)
  | _ => exact h.elim
/-- a list or a tuple is walked -/
def iSeq (K : PySem.W.Frag) (tl : TE) : TI := fun σ H R => tl σ H fun x H1 => match x with
  | .ref a => ((∃ xs, SqL K H1 a xs) ∧ R (Itl K a) H1) ∨ ((∃ xs, SqT K H1 a xs) ∧ R (Itt K a) H1)
  | _ => False
theorem pi_seq (hl : PE X e te) : PI X tg e (iSeq X.K te) := by
  refine ⟨fun pins s σ H R I h => ?_⟩
  refine thn (hl.run pins s σ H _ I h) fun v s1 hq => ?_
  obtain ⟨x, H1, I1, r1, q1⟩ := hq
  cases x with
  | ref a =>
    rcases q1 with ⟨h1, q⟩ | ⟨h1, q⟩
    · cases r1
      obtain ⟨xs, hq⟩ := h1
      obtain ⟨its, rv, p, hz⟩ := I1.list hq
      refine wpAny_pyIter_list p.isList ?_
      refine ⟨s1.heap.objs.size, [s1.heap.objs.size], _, _, H1, rfl, I1.kept (t' := s1.toks) fun b o e => Heap.get?_push_of_some _ e, turn_list a _, ⟨_, Heap.get?_push_size _ rfl, rfl, rfl⟩, fun b hb => ?_, q⟩
      have e : b = s1.heap.objs.size := by simpa using hb
      subst e
      exact I1.fpOk (Nat.le_refl _) (I1.hok.fresh (Nat.le_refl _))
    · cases r1
      obtain ⟨xs, hq⟩ := h1
      obtain ⟨its, rv, p, hz⟩ := I1.tuple hq
      refine wpAny_pyIter_tuple (show s1.heap.IsTuple a its.toArray from p) ?_
      refine ⟨s1.heap.objs.size, [s1.heap.objs.size], _, _, H1, rfl, I1.kept (t' := s1.toks) fun b o e => Heap.get?_push_of_some _ e, turn_tuple a _, ⟨_, Heap.get?_push_size _ rfl, rfl, rfl⟩, fun b hb => ?_, q⟩
      have e : b = s1.heap.objs.size := by simpa using hb
      subst e
      exact I1.fpOk (Nat.le_refl _) (I1.hok.fresh (Nat.le_refl _))
  | _ => exact q1.elim
def cAppend : V → List V → Hp → VK → Prop := fun x vs H Q => match x, vs with
  | .ref l, [y] => ∃ xs, H l = some (.lst xs) ∧ xs.length < sizeLine ∧ Q .non (upd H l (.lst (xs ++ [y])))
  | _, _ => False
theorem mt_appendC : MtR X "list.append" cAppend := fun pins s σ H x xs v us Q I rx r h => mt_append pins s σ H x xs v us Q I rx r (by
  match x, xs, h with
  | .ref l, [y], ⟨xs, h1, h2, q⟩ => exact ⟨l, xs, y, rfl, rfl, h1, h2, q⟩)
def cPop : V → List V → Hp → VK → Prop := fun x vs H Q => match x, vs with
  | .ref l, [] => ∃ xs y, H l = some (.lst xs) ∧ xs[xs.length - 1]? = some y ∧ Q y (upd H l (.lst xs.dropLast))
  | _, _ => False
theorem mt_popC : MtR X "list.pop" cPop := fun pins s σ H x xs v us Q I rx r h => mt_pop pins s σ H x xs v us Q I rx r (by
  match x, xs, h with
  | .ref l, [], ⟨xs, y, h1, h2, q⟩ => exact ⟨l, xs, y, rfl, rfl, h1, h2, q⟩)
/-- a module's int -/
theorem e_gint {x : Str} {i : Int} (h : ∃ t, X.mg x = some (.int i t)) (hg : Gl X x := by rfl) (hd : (x == ("__debug__" : Str)) = false := by decide) : PE X (.Name x pos) (tC (.int i)) := by
  obtain ⟨t, h⟩ := h
  exact pe_glob hg h ⟨t, rfl⟩ hd
/-- a table of the module with text keys: in, its items -/
def cInKd (K : PySem.W.Frag) (d : Addr) (neg : Bool) : R2 := fun x y H Q => match x, y with
  | .str z, .ref a => a = d ∧ ∃ r, PySem.W.nsIn K d z = some r ∧ Q (.bl (if neg then !r.isSome else r.isSome)) H
  | _, _ => False
theorem op_notIn_kdC {d : Addr} (D : ∃ es n, KDict X.K X.w d es n) : OpR X (compareOp .NotIn) (cInKd X.K d true) := by
  obtain ⟨es, n, D⟩ := D
  refine OpR_imp (op_notIn_kd D) fun x y H Q h => ?_
  match x, y, h with
  | .str z, .ref a, ⟨e, r, h1, q⟩ => exact ⟨z, r, rfl, by rw [e], h1, q⟩
theorem op_in_kdC {d : Addr} (D : ∃ es n, KDict X.K X.w d es n) : OpR X (compareOp .In) (cInKd X.K d false) := by
  obtain ⟨es, n, D⟩ := D
  refine OpR_imp (op_in_kd D) fun x y H Q h => ?_
  match x, y, h with
  | .str z, .ref a, ⟨e, r, h1, q⟩ => exact ⟨z, r, rfl, by rw [e], h1, q⟩
def cIxKd (K : PySem.W.Frag) (d : Addr) : R2 := fun x y H Q => match x, y with
  | .ref a, .str z => a = d ∧ ∃ u v, PySem.W.nsIn K d z = some (some u) ∧ RelV v u ∧ Q v H
  | _, _ => False
theorem ix_kdC {d : Addr} (D : ∃ es n, KDict X.K X.w d es n) : IxR X (cIxKd X.K d) := by
  obtain ⟨es, n, D⟩ := D
  refine IxR_imp ix_kdict fun x y H Q h => ?_
  match x, y, h with
  | .ref a, .str z, ⟨e, u, v, h1, h2, q⟩ => exact ⟨d, z, v, by rw [e], rfl, ⟨es, n, u, D.at_, D.lit, h1, h2⟩, q⟩
end
theorem ifT {b : Bool} {A B : Prop} (e : b = true) (h : A) : if b = true then A else B := by rw [if_pos e]; exact h
theorem ifF {b : Bool} {A B : Prop} (e : b = false) (h : B) : if b = true then A else B := by rw [e]; exact iteF h
theorem if2 {b : Bool} {A B : Prop} (h1 : b = true → A) (h2 : b = false → B) : if b = true then A else B := by
  cases b with
  | true => exact iteT (h1 rfl)
  | false => exact iteF (h2 rfl)
def obsP (n : Nat) (fa : List He.Fa) (fn : List He.DefD) (ts : List He.Tab) (ex : PySem.W.Frag → Bool) (g : Addr → Option Obj) : He.AlT × Bool := (He.obsT fa fn ts (He.frG g (He.asD g n)), ex (He.frG g (He.asD g n)))
def hookP (n : Nat) (fa : List He.Fa) (fn : List He.DefD) (ts : List He.Tab) (ex : PySem.W.Frag → Bool) : PySem.W.Hook where
  α := He.AlT × Bool
  obs := fun s => obsP n fa fn ts ex s.heap.get?
  val := fun w => (He.valT fn ts w, true)
  says := fun w h => ∃ K : PySem.W.Frag, K.In h ∧ He.SaysT fa fn ts w K ∧ ex K = true
  of := fun _ _ e => ⟨_, He.frG_in, congrArg (fun z : He.AlT × Bool => z.1) e, congrArg (fun z : He.AlT × Bool => z.2) e⟩
  keeps := fun _ _ _ ⟨K, hK, c⟩ k => ⟨K, PySem.W.Frag.In.keeps hK k, c⟩
theorem obsP_eq {n : Nat} {fa : List He.Fa} {fn : List He.DefD} {ts : List He.Tab} {ex : PySem.W.Frag → Bool} {g : Addr → Option Obj} {s : Shared} (h : ∀ a, g a = s.heap.get? a) : obsP n fa fn ts ex g = (hookP n fa fn ts ex).obs s := by
  have e : g = s.heap.get? := funext h
  rw [e] <;> rfl
end PH

namespace PH
open PySem PySem.Spec PyProof.Rows L2
def t_is_integer (K : PySem.W.Frag)  : TS :=
  (tRet (cAndV (cIsE K "int" (cVar 0)) (cNotV K (cIsE K "bool" (cVar 0)))))
def t_is_pen (K : PySem.W.Frag) (f_is_integer : Sp) : TS :=
  (tRet (cAndV (cIsE K "tuple" (cVar 0)) (cAndV (tOp (cEq K) (tCB (c1 (cLen K)) (tCons (cVar 0) tNil)) (tC (.int 6))) (tCB (c1 (cAll K)) (tCons (tLc (iSeq K (cVar 0)) (gName 1) tYes (cCall f_is_integer (tCons (cVar 1) tNil)) [1]) tNil)))))
def t_is_command (K : PySem.W.Frag) (f_is_integer : Sp) : TS :=
  (tSeq (tIfS (tOr (tNot (cTest K (cIsE K "tuple" (cVar 0)))) (cB (tOp (cEq K) (tCB (c1 (cLen K)) (tCons (cVar 0) tNil)) (tC (.int 0))))) (tRet (tC (.bl false))) tNext)
  (tSeq (tIfS (tOr (tNot (cTest K (cIsE K "str" (tOp (cIx K) (cVar 0) (tC (.int 0)))))) (cB (tOp (cInKd K (He.ga K "LIMITS") true) (tOp (cIx K) (cVar 0) (tC (.int 0))) (tC (.ref (He.ga K "LIMITS")))))) (tRet (tC (.bl false))) tNext)
  (tSeq (tAsg (tOp (cIxKd K (He.ga K "LIMITS")) (tC (.ref (He.ga K "LIMITS"))) (tOp (cIx K) (cVar 0) (tC (.int 0)))) (gTup K 3 (gCons (gName 1) (gCons (gName 2) (gCons (gName 3) gNil)))))
  (tSeq (tIfS (cB (tOp (cNe K) (tCB (c1 (cLen K)) (tCons (cVar 0) tNil)) (tOp (cAdd K) (cVar 1) (tC (.int 1))))) (tRet (tC (.bl false))) tNext)
  (tRet (tCB (c1 (cAll K)) (tCons (tLc (iSeq K (tSl (cSl K) (cVar 0) (cPart (tC (.int 1))) tNoPart)) (gName 4) tYes (cAndV (cCall f_is_integer (tCons (cVar 4) tNil)) (cChainG rLeC rLeC (cVar 2) (cVar 4) (cVar 3))) [4]) tNil)))))))
def t_executed (K : PySem.W.Frag)  : TS :=
  (tSeq (tAsg (cVar 0) (gTup K 6 (gCons (gName 2) (gCons (gName 3) (gCons (gName 4) (gCons (gName 5) (gCons (gName 6) (gCons (gName 7) gNil))))))))
  (tSeq (tAsg (tOp (cIx K) (cVar 1) (tC (.int 0))) (gName 8))
  (tSeq (tIfS (cB (tOp (cEq K) (cVar 8) (tC (.str "go")))) (tRet (tTup (tCons (tOp (cAdd K) (cVar 2) (tOp rMulC (tOp (cIx K) (cVar 1) (tC (.int 1))) (cVar 4))) (tCons (tOp (cAdd K) (cVar 3) (tOp rMulC (tOp (cIx K) (cVar 1) (tC (.int 1))) (cVar 5))) (tCons (cVar 4) (tCons (cVar 5) (tCons (cVar 6) (tCons (cVar 7) tNil)))))))) tNext)
  (tSeq (tIfS (cB (tOp (cEq K) (cVar 8) (tC (.str "turn")))) (tSeq (tFor (iRng1 (tCons (tOp (cIx K) (cVar 1) (tC (.int 1))) tNil)) (gName 9) (tPar 4 5 (tCons (tUn cNeg (cVar 5)) (tCons (cVar 4) tNil))))
  (tRet (tTup (tCons (cVar 2) (tCons (cVar 3) (tCons (cVar 4) (tCons (cVar 5) (tCons (cVar 6) (tCons (cVar 7) tNil))))))))) tNext)
  (tSeq (tIfS (cB (tOp (cEq K) (cVar 8) (tC (.str "mirror")))) (tRet (tTup (tCons (cVar 2) (tCons (cVar 3) (tCons (cVar 4) (tCons (tUn cNeg (cVar 5)) (tCons (cVar 6) (tCons (cVar 7) tNil)))))))) tNext)
  (tSeq (tIfS (cB (tOp (cEq K) (cVar 8) (tC (.str "scale")))) (tRet (tTup (tCons (cVar 2) (tCons (cVar 3) (tCons (tOp rMulC (tOp (cIx K) (cVar 1) (tC (.int 1))) (cVar 4)) (tCons (tOp rMulC (tOp (cIx K) (cVar 1) (tC (.int 1))) (cVar 5)) (tCons (cVar 6) (tCons (cVar 7) tNil)))))))) tNext)
  (tSeq (tIfS (cB (tOp (cEq K) (cVar 8) (tC (.str "aim")))) (tRet (tTup (tCons (cVar 2) (tCons (cVar 3) (tCons (tOp (cIx K) (cVar 1) (tC (.int 1))) (tCons (tOp (cIx K) (cVar 1) (tC (.int 2))) (tCons (cVar 6) (tCons (cVar 7) tNil)))))))) tNext)
  (tSeq (tIfS (cB (tOp (cEq K) (cVar 8) (tC (.str "place")))) (tRet (tTup (tCons (tOp (cIx K) (cVar 1) (tC (.int 1))) (tCons (tOp (cIx K) (cVar 1) (tC (.int 2))) (tCons (cVar 4) (tCons (cVar 5) (tCons (cVar 6) (tCons (cVar 7) tNil)))))))) tNext)
  (tSeq (tIfS (cB (tOp (cEq K) (cVar 8) (tC (.str "mark")))) (tRet (tTup (tCons (cVar 2) (tCons (cVar 3) (tCons (cVar 4) (tCons (cVar 5) (tCons (cVar 2) (tCons (cVar 3) tNil)))))))) tNext)
  (tSeq (tIfS (cB (tOp (cEq K) (cVar 8) (tC (.str "return")))) (tRet (tTup (tCons (cVar 6) (tCons (cVar 7) (tCons (cVar 4) (tCons (cVar 5) (tCons (cVar 6) (tCons (cVar 7) tNil)))))))) tNext)
  (tRet (tTup (tCons (cVar 6) (tCons (cVar 7) (tCons (cVar 4) (tCons (cVar 5) (tCons (cVar 2) (tCons (cVar 3) tNil))))))))))))))))))
def t_check_pen (K : PySem.W.Frag) (f_is_pen : Sp) : TS :=
  (tIfS (tNot (cTest K (cCall f_is_pen (tCons (cVar 0) tNil)))) tNever tNext)
def t_moved (K : PySem.W.Frag) (f_check_pen : Sp) (f_is_command : Sp) (f_executed : Sp) : TS :=
  (tSeq (tDrop (cCall f_check_pen (tCons (cVar 0) tNil)))
  (tSeq (tIfS (tNot (cTest K (cCall f_is_command (tCons (cVar 1) tNil)))) tNever tNext)
  (tRet (cCall f_executed (tCons (cVar 0) (tCons (cVar 1) tNil))))))
def t_L_pool (K : PySem.W.Frag)  : TS :=
  (tRet (tOp (cAdd K) (tLst (tCons (tC (.int 0)) tNil)) (tOrT K (tLc (iSeq K (tSl (cSl K) (cVar 0) tNoPart (cPart (tC (.int 63))))) (gName 1) tYes (tCB (c1 cInt) (tCons (cVar 1) tNil)) [1]) (tLst (tCons (tC (.int 0)) tNil)))))
def t_L_draw (K : PySem.W.Frag)  : TS :=
  (tSeq (tAugS (cVar 0) (tC (.int 0)) (tC (.int 1)) cGetL (cIp rAddI) cSetL)
  (tSeq (tAsg (tOp (cAdd K) (tC (.int 1)) (tOp rModC (tCB (c1 cInt) (tCons (tOp (cIx K) (cVar 0) (tC (.int 0))) tNil)) (tOp rSubC (tCB (c1 (cLen K)) (tCons (cVar 0) tNil)) (tC (.int 1))))) (gName 2))
  (tSeq (tAsg (tCB (c1 cInt) (tCons (tOp (cIx K) (cVar 0) (cVar 2)) tNil)) (gName 3))
  (tSeq (tIfS (cB (tOp rGeC (cVar 3) (tOp rPowC (tC (.int 10)) (tC (.int 18))))) (tSeq (tAsg (tOp rFdivC (cVar 3) (cVar 1)) (gSub (cVar 0) (cVar 2) cSetL))
  (tRet (tOp rModC (cVar 3) (cVar 1)))) tNext)
  (tSeq (tAsg (tOp rModC (tOp rMulC (tCB (c1 cInt) (tCons (tOp (cAdd K) (tOp (cAdd K) (cVar 3) (tOp rMulC (tC (.int 7919)) (tOp (cIx K) (cVar 0) (tC (.int 0))))) (tC (.int 1))) tNil)) (tC (.int 48271))) (tC (.int 2147483647))) (gName 4))
  (tSeq (tAsg (tOp rModC (tOp rMulC (cVar 4) (tOp (cAdd K) (tOp rFdivC (cVar 4) (tC (.int 1009))) (tC (.int 69621)))) (tC (.int 2147483647))) (gName 4))
  (tSeq (tAsg (tOp rModC (tOp rMulC (cVar 4) (tOp (cAdd K) (tOp rFdivC (cVar 4) (tC (.int 2003))) (tC (.int 40692)))) (tC (.int 2147483399))) (gName 4))
  (tRet (tOp rModC (tOp rFdivC (cVar 4) (tC (.int 11))) (cVar 1))))))))))
def t_L_number (K : PySem.W.Frag) (f_L_draw : Sp) : TS :=
  (tSeq (tAsg (cCall f_L_draw (tCons (cVar 0) (tCons (tC (.int 3)) tNil))) (gName 1))
  (tSeq (tIfS (cB (tOp (cEq K) (cVar 1) (tC (.int 0)))) (tRet (tOp rSubC (cCall f_L_draw (tCons (cVar 0) (tCons (tC (.int 9)) tNil))) (tC (.int 4)))) tNext)
  (tSeq (tAugS (cVar 0) (tC (.int 0)) (tC (.int 1)) cGetL (cIp rAddI) cSetL)
  (tSeq (tAsg (tOp (cAdd K) (tC (.int 1)) (tOp rModC (tCB (c1 cInt) (tCons (tOp (cIx K) (cVar 0) (tC (.int 0))) tNil)) (tOp rSubC (tCB (c1 (cLen K)) (tCons (cVar 0) tNil)) (tC (.int 1))))) (gName 2))
  (tSeq (tAsg (tOp rModC (tCB (c1 cInt) (tCons (tOp (cAdd K) (tOp rMulC (tOp (cIx K) (cVar 0) (cVar 2)) (tC (.int 48271))) (tOp rMulC (tOp (cIx K) (cVar 0) (tC (.int 0))) (tC (.int 69621)))) tNil)) (tOp rPowC (tC (.int 10)) (tC (.int 40)))) (gName 3))
  (tSeq (tIfS (cB (tOp (cEq K) (cCall f_L_draw (tCons (cVar 0) (tCons (tC (.int 2)) tNil))) (tC (.int 0)))) (tRet (cVar 3)) tNext)
  (tRet (tOp rSubC (tC (.int 5)) (cVar 3)))))))))
def t_L_pen (K : PySem.W.Frag) (f_L_number : Sp) : TS :=
  (tSeq (tAsg (tLc (iRng1 (tCons (tC (.int 6)) tNil)) (gName 2) tYes (cCall f_L_number (tCons (cVar 0) tNil)) [2]) (gName 1))
  (tRet (tTup (tCons (tOp (cIx K) (cVar 1) (tC (.int 0))) (tCons (tOp (cIx K) (cVar 1) (tC (.int 1))) (tCons (tOp (cIx K) (cVar 1) (tC (.int 2))) (tCons (tOp (cIx K) (cVar 1) (tC (.int 3))) (tCons (tOp (cIx K) (cVar 1) (tC (.int 4))) (tCons (tOp (cIx K) (cVar 1) (tC (.int 5))) tNil)))))))))
def t_L_move (K : PySem.W.Frag)  : TS :=
  (tSeq (tAsg (cVar 0) (gTup K 6 (gCons (gName 2) (gCons (gName 3) (gCons (gName 4) (gCons (gName 5) (gCons (gName 6) (gCons (gName 7) gNil))))))))
  (tSeq (tAsg (tOp (cIx K) (cVar 1) (tC (.int 0))) (gName 8))
  (tSeq (tAsg (tOp (cIx K) (tOp (cAdd K) (cVar 1) (tTup (tCons (tC (.int 0)) tNil))) (tC (.int 1))) (gName 9))
  (tSeq (tIfS (cB (tOp (cEq K) (cVar 8) (tC (.str "go")))) (tRet (tTup (tCons (tOp (cAdd K) (cVar 2) (tOp rMulC (cVar 9) (cVar 4))) (tCons (tOp (cAdd K) (cVar 3) (tOp rMulC (cVar 9) (cVar 5))) (tCons (cVar 4) (tCons (cVar 5) (tCons (cVar 6) (tCons (cVar 7) tNil)))))))) tNext)
  (tSeq (tIfS (cB (tOp (cEq K) (cVar 8) (tC (.str "turn")))) (tSeq (tAsg (tOp (cIx K) (tLst (tCons (tTup (tCons (tUn cNeg (cVar 5)) (tCons (cVar 4) tNil))) (tCons (tTup (tCons (tUn cNeg (cVar 4)) (tCons (tUn cNeg (cVar 5)) tNil))) (tCons (tTup (tCons (cVar 5) (tCons (tUn cNeg (cVar 4)) tNil))) tNil)))) (tOp rSubC (cVar 9) (tC (.int 1)))) (gName 10))
  (tRet (tTup (tCons (cVar 2) (tCons (cVar 3) (tCons (tOp (cIx K) (cVar 10) (tC (.int 0))) (tCons (tOp (cIx K) (cVar 10) (tC (.int 1))) (tCons (cVar 6) (tCons (cVar 7) tNil))))))))) tNext)
  (tSeq (tIfS (cB (tOp (cEq K) (cVar 8) (tC (.str "mirror")))) (tRet (tTup (tCons (cVar 2) (tCons (cVar 3) (tCons (cVar 4) (tCons (tUn cNeg (cVar 5)) (tCons (cVar 6) (tCons (cVar 7) tNil)))))))) tNext)
  (tSeq (tIfS (cB (tOp (cEq K) (cVar 8) (tC (.str "scale")))) (tRet (tTup (tCons (cVar 2) (tCons (cVar 3) (tCons (tOp rMulC (cVar 4) (cVar 9)) (tCons (tOp rMulC (cVar 5) (cVar 9)) (tCons (cVar 6) (tCons (cVar 7) tNil)))))))) tNext)
  (tSeq (tIfS (cB (tOp (cEq K) (cVar 8) (tC (.str "aim")))) (tRet (tTup (tCons (cVar 2) (tCons (cVar 3) (tCons (cVar 9) (tCons (tOp (cIx K) (cVar 1) (tC (.int 2))) (tCons (cVar 6) (tCons (cVar 7) tNil)))))))) tNext)
  (tSeq (tIfS (cB (tOp (cEq K) (cVar 8) (tC (.str "place")))) (tRet (tTup (tCons (cVar 9) (tCons (tOp (cIx K) (cVar 1) (tC (.int 2))) (tCons (cVar 4) (tCons (cVar 5) (tCons (cVar 6) (tCons (cVar 7) tNil)))))))) tNext)
  (tSeq (tIfS (cB (tOp (cEq K) (cVar 8) (tC (.str "mark")))) (tRet (tTup (tCons (cVar 2) (tCons (cVar 3) (tCons (cVar 4) (tCons (cVar 5) (tCons (cVar 2) (tCons (cVar 3) tNil)))))))) tNext)
  (tSeq (tIfS (cB (tOp (cEq K) (cVar 8) (tC (.str "return")))) (tRet (tTup (tCons (cVar 6) (tCons (cVar 7) (tCons (cVar 4) (tCons (cVar 5) (tCons (cVar 6) (tCons (cVar 7) tNil)))))))) tNext)
  (tRet (tTup (tCons (cVar 6) (tCons (cVar 7) (tCons (cVar 4) (tCons (cVar 5) (tCons (cVar 2) (tCons (cVar 3) tNil)))))))))))))))))))
def t_L_is_pen (K : PySem.W.Frag) (f_L_is_row : Sp) : TS :=
  (tRet (cAndV (cIsE K "tuple" (cVar 0)) (cCall f_L_is_row (tCons (cVar 0) (tCons (tC (.int 6)) tNil)))))
def t_L_any_command (K : PySem.W.Frag) (f_L_draw : Sp) : TS :=
  (tSeq (tAsg (cCall f_L_draw (tCons (cVar 0) (tCons (tC (.int 9)) tNil))) (gName 1))
  (tSeq (tIfS (cB (tOp (cEq K) (cVar 1) (tC (.int 0)))) (tRet (tTup (tCons (tC (.str "go")) (tCons (tOp rSubC (cCall f_L_draw (tCons (cVar 0) (tCons (tC (.int 19)) tNil))) (tC (.int 9))) tNil)))) tNext)
  (tSeq (tIfS (cB (tOp (cEq K) (cVar 1) (tC (.int 1)))) (tRet (tTup (tCons (tC (.str "turn")) (tCons (tOp (cAdd K) (tC (.int 1)) (cCall f_L_draw (tCons (cVar 0) (tCons (tC (.int 3)) tNil)))) tNil)))) tNext)
  (tSeq (tIfS (cB (tOp (cEq K) (cVar 1) (tC (.int 2)))) (tRet (tTup (tCons (tC (.str "scale")) (tCons (tOp rSubC (cCall f_L_draw (tCons (cVar 0) (tCons (tC (.int 7)) tNil))) (tC (.int 3))) tNil)))) tNext)
  (tSeq (tIfS (cB (tOp rLtC (cVar 1) (tC (.int 5)))) (tRet (tTup (tCons (tOp (cIx K) (tTup (tCons (tC (.str "aim")) (tCons (tC (.str "place")) tNil))) (tOp rSubC (cVar 1) (tC (.int 3)))) (tCons (tOp rSubC (cCall f_L_draw (tCons (cVar 0) (tCons (tC (.int 19)) tNil))) (tC (.int 9))) (tCons (tOp rSubC (cCall f_L_draw (tCons (cVar 0) (tCons (tC (.int 19)) tNil))) (tC (.int 9))) tNil))))) tNext)
  (tRet (tTup (tCons (tOp (cIx K) (tTup (tCons (tC (.str "mirror")) (tCons (tC (.str "mark")) (tCons (tC (.str "return")) (tCons (tC (.str "exchange")) tNil))))) (tOp rSubC (cVar 1) (tC (.int 5)))) tNil))))))))
def t_L_is_row (K : PySem.W.Frag)  : TS :=
  (tRet (cAndV (tOp (cEq K) (tCB (c1 (cLen K)) (tCons (cVar 0) tNil)) (cVar 1)) (tCB (c1 (cAll K)) (tCons (tLc (iSeq K (cVar 0)) (gName 2) tYes (cAndV (cIsE K "int" (cVar 2)) (cNotV K (cIsE K "bool" (cVar 2)))) [2]) tNil))))
def t_law_k01 (K : PySem.W.Frag) (f_L_pool : Sp) (f_L_draw : Sp) (f_L_pen : Sp) (f_L_any_command : Sp) (f_moved : Sp) (f_L_is_pen : Sp) (f_L_move : Sp) : TS :=
  (tSeq (tAsg (cCall f_L_pool (tCons (cVar 0) tNil)) (gName 1))
  (tSeq (tAsg (tTup (tCons (tC (.int 0)) (tCons (tC (.int 0)) (tCons (tC (.int 1)) (tCons (tC (.int 0)) (tCons (tC (.int 0)) (tCons (tC (.int 0)) tNil))))))) (gName 2))
  (tSeq (tIfS (cB (tOp (cNe K) (tC (.ref (He.ga K "HOME"))) (cVar 2))) (tRet (tC (.bl false))) tNext)
  (tSeq (tFor (iRng1 (tCons (tOp rSubC (tCB (c1 (cLen K)) (tCons (cVar 1) tNil)) (tC (.int 1))) tNil)) (gName 3) (tSeq (tIfS (cB (tOp (cEq K) (cCall f_L_draw (tCons (cVar 1) (tCons (tC (.int 2)) tNil))) (tC (.int 0)))) (tAsg (cCall f_L_pen (tCons (cVar 1) tNil)) (gName 2)) tNext)
  (tSeq (tAsg (cCall f_L_any_command (tCons (cVar 1) tNil)) (gName 4))
  (tSeq (tAsg (cCall f_moved (tCons (cVar 2) (tCons (cVar 4) tNil))) (gName 5))
  (tSeq (tIfS (tOr (tNot (cTest K (cCall f_L_is_pen (tCons (cVar 5) tNil)))) (cB (tOp (cNe K) (cVar 5) (cCall f_L_move (tCons (cVar 2) (tCons (cVar 4) tNil)))))) (tRet (tC (.bl false))) tNext)
  (tAsg (cVar 5) (gName 2)))))))
  (tRet (tC (.bl true)))))))
end PH

namespace PH
open PySem PySem.Spec PyProof.Rows L2
def Pool (H : Hp) (p : Addr) (n : Nat) : Prop := ∃ ns : List Int, H p = some (.lst (ns.map V.int)) ∧ ns.length = n + 2
/-- the pool has turned, all else is as it was -/
def PStep (p : Addr) (n : Nat) (H H' : Hp) : Prop := ∃ ns : List Int, ns.length = n + 2 ∧ H' = upd H p (.lst (ns.map V.int))
theorem PStep.pool {p : Addr} {n : Nat} {H H' : Hp} (h : PStep p n H H') : Pool H' p n := by
  obtain ⟨ns, h1, rfl⟩ := h
  exact ⟨ns, upd_same, h1⟩
theorem PStep.trans {p : Addr} {n : Nat} {H H1 H2 : Hp} (h : PStep p n H H1) (k : PStep p n H1 H2) : PStep p n H H2 := by
  obtain ⟨ns, h1, rfl⟩ := h
  obtain ⟨ms, h2, rfl⟩ := k
  exact ⟨ms, h2, by rw [upd_upd]⟩
theorem PStep.at {p b : Addr} {n : Nat} {H H' : Hp} (h : PStep p n H H') (hb : b ≠ p) : H' b = H b := by
  obtain ⟨ns, h1, rfl⟩ := h
  rw [upd_ne hb]
abbrev dEnds (Q : VK) : Ends := { nx := fun _ H' => Q .non H', rt := Q }
def pDraw : V → V → Hp → VK → Prop := fun a b H Q => ∃ (p : Addr) (n : Nat) (m : Int), a = .ref p ∧ b = .int m ∧ Pool H p n ∧ 0 < m ∧ m < 1073741824 ∧ ∀ d H', 0 ≤ d → d < m → PStep p n H H' → Q (.int d) H'
theorem emod_lt' {a b : Int} (h : 0 < b) : 0 ≤ a % b ∧ a % b < b := ⟨Int.emod_nonneg _ (by omega), Int.emod_lt_of_pos _ h⟩
theorem map_at {ns : List Int} {i : Int} {n : Nat} (h0 : 0 ≤ i) (h1 : i < n) (hl : n ≤ ns.length) : ∃ c, atI (ns.map V.int) i = some (.int c) ∧ (ns.map V.int)[i.toNat]? = some (.int c) := by
  have hi : i.toNat < ns.length := by omega
  have e : (ns.map V.int)[i.toNat]? = some (.int ns[i.toNat]) := by rw [List.getElem?_map, List.getElem?_eq_getElem hi]; rfl
  refine ⟨ns[i.toNat], ?_, e⟩
  have := atI_nat (xs := ns.map V.int) (j := i.toNat) e
  rwa [show ((i.toNat : Nat) : Int) = i by omega] at this
theorem r_L_draw {K : PySem.W.Frag} {a b : V} {H : Hp} {Q : VK} (h : pDraw a b H Q) : t_L_draw K (dEnds Q) [some a, some b, none, none, none] H := by
  obtain ⟨p, n, m, rfl, rfl, ⟨ns, hp, hl⟩, hm0, hm1, q⟩ := h
  obtain ⟨c, r, rfl⟩ : ∃ c r, ns = c :: r := by
    cases ns with
    | nil => cases hl
    | cons c r => exact ⟨c, r, rfl⟩
  have hr : r.length = n + 1 := by simpa using hl
  -- pool[0] += 1
  refine ⟨_, .int c, hp, by decide, rfl, _, hp, by decide, by simp, ?_⟩
  have e1 : upd H p (.lst (((c :: r).map V.int).set (Int.toNat 0) (.int (c + 1)))) p = some (.lst (((c + 1) :: r).map V.int)) := upd_same
  generalize hH1 : upd H p (.lst (((c :: r).map V.int).set (Int.toNat 0) (.int (c + 1)))) = H1 at e1
  have s1 : PStep p n H H1 := ⟨(c + 1) :: r, by simpa using hr, hH1.symm⟩
  -- at = 1 + int(pool[0]) % (len(pool) - 1)
  refine ⟨_, _, .inl (SqL.of e1), atI_nat (j := 0) rfl, _, .inl (SqL.of e1), ?_, ?_⟩
  · simp; omega
  have hn : (((((c + 1) :: r).map V.int).length : Int) - 1) = ((n : Int) + 1) := by simp [hr]
  rw [hn]
  obtain ⟨i0, i1⟩ := emod_lt' (a := c + 1) (b := (n : Int) + 1) (by omega)
  generalize hi : (c + 1) % ((n : Int) + 1) = i at i0 i1 ⊢
  obtain ⟨z, hz1, hz2⟩ := map_at (ns := (c + 1) :: r) (i := 1 + i) (n := n + 2) (by omega) (by omega) (by simp [hr])
  -- cell = int(pool[at])
  refine ⟨_, _, .inl (SqL.of e1), hz1, ⟨by decide, by decide, by decide⟩, ?_⟩
  refine if2 (fun hg => ?_) (fun hg => ?_)
  · -- pool[at] = cell // many
    refine ⟨⟨hm0, hm1⟩, _, e1, by omega, ?_, hm0, ?_⟩
    · have : (1 + i).toNat < ((c + 1) :: r).length := by simp [hr]; omega
      simpa using this
    · obtain ⟨d0, d1⟩ := emod_lt' (a := z) hm0
      refine q _ _ d0 d1 (s1.trans ⟨(((c + 1) :: r).set (1 + i).toNat (z / m)), by simpa using hr, ?_⟩)
      rw [List.map_set]
  · -- the number
    refine ⟨_, _, .inl (SqL.of e1), atI_nat (j := 0) rfl, mulL (by decide) (by decide), mulR (by decide) (by decide), by decide, ?_⟩
    generalize hx : ((z + 7919 * (c + 1) + 1) * 48271) % 2147483647 = x
    have hx' := emod_lt' (a := (z + 7919 * (c + 1) + 1) * 48271) (b := 2147483647) (by decide)
    rw [hx] at hx'
    refine ⟨⟨by decide, by decide⟩, mulL (by omega) (by omega), by decide, ?_⟩
    generalize hy : (x * (x / 1009 + 69621)) % 2147483647 = y
    have hy' := emod_lt' (a := x * (x / 1009 + 69621)) (b := 2147483647) (by decide)
    rw [hy] at hy'
    refine ⟨⟨by decide, by decide⟩, mulL (by omega) (by omega), by decide, ⟨by decide, by decide⟩, hm0, ?_⟩
    obtain ⟨d0, d1⟩ := emod_lt' (a := (y * (y / 2003 + 40692)) % 2147483399 / 11) hm0
    exact q _ _ d0 d1 s1
end PH

namespace PH
open PySem PySem.Spec PyProof.Rows L2
def SB (p : Addr) (H H' : Hp) : Prop := ∀ b o, b ≠ p → H b = some o → H' b = some o
/-- the pool may have turned, objects may be new -/
structure Drew (p : Addr) (n : Nat) (H H' : Hp) : Prop where
  sb : SB p H H'
  pool : Pool H' p n
theorem Drew.refl {p : Addr} {n : Nat} {H : Hp} (h : Pool H p n) : Drew p n H H := ⟨fun _ _ _ e => e, h⟩
theorem Drew.trans {p : Addr} {n : Nat} {H H1 H2 : Hp} (a : Drew p n H H1) (b : Drew p n H1 H2) : Drew p n H H2 := ⟨fun c o hc e => b.sb c o hc (a.sb c o hc e), b.pool⟩
theorem PStep.drew {p : Addr} {n : Nat} {H H' : Hp} (h : PStep p n H H') : Drew p n H H' := ⟨fun b o hb e => by rw [h.at hb]; exact e, h.pool⟩
theorem Pool.ne {p q : Addr} {n : Nat} {H : Hp} (h : Pool H p n) (hq : H q = none) : q ≠ p := fun e => by
  obtain ⟨ns, h1, _⟩ := h
  rw [e, h1] at hq
  cases hq
theorem same_upd {H : Hp} {p : Addr} {o : HO} (h : H p = none) : Same H (upd H p o) := fun b x e => by
  rw [upd_ne (ne_of_none e h)]
  exact e
theorem Same.pool {p : Addr} {n : Nat} {H H' : Hp} (s : Same H H') (h : Pool H p n) : Pool H' p n := by
  obtain ⟨ns, h1, h2⟩ := h
  exact ⟨ns, s _ _ h1, h2⟩
theorem Same.drew {p : Addr} {n : Nat} {H H' : Hp} (s : Same H H') (h : Pool H p n) : Drew p n H H' := ⟨fun b o _ e => s b o e, Same.pool s h⟩
/-- an object that is new, or changed and not the pool -/
theorem Drew.set {p q : Addr} {n : Nat} {H H' : Hp} {o : HO} (d : Drew p n H H') (h : H q = none) (hq : q ≠ p) : Drew p n H (upd H' q o) := by
  refine ⟨fun b x hb e => ?_, ?_⟩
  · rw [upd_ne (ne_of_none e h)]
    exact d.sb b x hb e
  · obtain ⟨ns, h1, h2⟩ := d.pool
    exact ⟨ns, by rw [upd_ne (Ne.symm hq)]; exact h1, h2⟩
theorem Drew.free {p q : Addr} {n : Nat} {H H' : Hp} (d : Drew p n H H') (h : H' q = none) : H q = none := by
  cases e : H q with
  | none => rfl
  | some o =>
    have hq : q ≠ p := d.pool.ne h
    rw [d.sb q o hq e] at h
    cases h
theorem Drew.new {p q : Addr} {n : Nat} {H H' : Hp} {o : HO} (d : Drew p n H H') (h : H' q = none) : Drew p n H (upd H' q o) := d.set (d.free h) (d.pool.ne h)
def Bd (n : Nat) (i : Int) : Prop := i.natAbs < 2 ^ n
def pNumber : V → Hp → VK → Prop := fun a H Q => ∃ (p : Addr) (n : Nat), a = .ref p ∧ Pool H p n ∧ ∀ d H', Bd 137 d → PStep p n H H' → Q (.int d) H'
theorem r_L_number {K : PySem.W.Frag} {a : V} {H : Hp} {Q : VK} (h : pNumber a H Q) : t_L_number K (sp2 pDraw) (dEnds Q) [some a, none, none, none] H := by
  obtain ⟨p, n, rfl, hP, q⟩ := h
  refine ⟨p, n, 3, rfl, rfl, hP, by decide, by decide, fun d H1 _ _ s1 => ?_⟩
  refine if2 (fun _ => ?_) (fun _ => ?_)
  · exact ⟨p, n, 9, rfl, rfl, s1.pool, by decide, by decide, fun e H2 e0 e9 s2 => q _ _ (by unfold Bd; omega) (s1.trans s2)⟩
  · obtain ⟨ns, hp, hl⟩ := s1.pool
    obtain ⟨c, r, rfl⟩ : ∃ c r, ns = c :: r := by
      cases ns with
      | nil => cases hl
      | cons c r => exact ⟨c, r, rfl⟩
    have hr : r.length = n + 1 := by simpa using hl
    refine ⟨_, .int c, hp, by decide, rfl, _, hp, by decide, by simp, ?_⟩
    have e1 : upd H1 p (.lst (((c :: r).map V.int).set (Int.toNat 0) (.int (c + 1)))) p = some (.lst (((c + 1) :: r).map V.int)) := upd_same
    generalize hH1 : upd H1 p (.lst (((c :: r).map V.int).set (Int.toNat 0) (.int (c + 1)))) = H2 at e1
    have s2 : PStep p n H1 H2 := ⟨(c + 1) :: r, by simpa using hr, hH1.symm⟩
    refine ⟨_, _, .inl (SqL.of e1), atI_nat (j := 0) rfl, _, .inl (SqL.of e1), ?_, ?_⟩
    · simp; omega
    have hn : (((((c + 1) :: r).map V.int).length : Int) - 1) = ((n : Int) + 1) := by simp [hr]
    rw [hn]
    obtain ⟨i0, i1⟩ := emod_lt' (a := c + 1) (b := (n : Int) + 1) (by omega)
    generalize hi : (c + 1) % ((n : Int) + 1) = i at i0 i1 ⊢
    obtain ⟨z, hz1, hz2⟩ := map_at (ns := (c + 1) :: r) (i := 1 + i) (n := n + 2) (by omega) (by omega) (by simp [hr])
    refine ⟨_, _, .inl (SqL.of e1), hz1, mulR (by decide) (by decide), _, _, .inl (SqL.of e1), atI_nat (j := 0) rfl, mulR (by decide) (by decide), ⟨by decide, by decide, by decide⟩, by decide, ?_⟩
    obtain ⟨b0, b1⟩ := emod_lt' (a := z * 48271 + (c + 1) * 69621) (b := 10 ^ Int.toNat 40) (by decide)
    have b2 : (10 : Int) ^ Int.toNat 40 = 10000000000000000000000000000000000000000 := by decide
    generalize hv : (z * 48271 + (c + 1) * 69621) % (10 ^ Int.toNat 40) = v at b0 b1 ⊢
    rw [b2] at b1
    refine ⟨p, n, 2, rfl, rfl, s2.pool, by decide, by decide, fun e H3 _ _ s3 => ?_⟩
    refine if2 (fun _ => ?_) (fun _ => ?_)
    · exact q _ _ (by unfold Bd; omega) ((s1.trans s2).trans s3)
    · exact q _ _ (by unfold Bd; omega) ((s1.trans s2).trans s3)
structure Pen where
  x : Int
  y : Int
  u : Int
  v : Int
  p : Int
  q : Int
def Pen.ns (z : Pen) : List Int := [z.x, z.y, z.u, z.v, z.p, z.q]
def Pen.vs (z : Pen) : List V := [.int z.x, .int z.y, .int z.u, .int z.v, .int z.p, .int z.q]
def pPen : V → Hp → VK → Prop := fun a H Q => ∃ (p : Addr) (n : Nat), a = .ref p ∧ Pool H p n ∧ ∀ t H' z, (∀ x ∈ z.ns, Bd 137 x) → Drew p n H H' → H' t = some (.tup (Pen.vs z)) → Q (.ref t) H'
theorem le1 : (1 : Nat) ≤ sizeLine := by decide
theorem le2 : (2 : Nat) ≤ sizeLine := by decide
theorem le3 : (3 : Nat) ≤ sizeLine := by decide
theorem le4 : (4 : Nat) ≤ sizeLine := by decide
theorem le5 : (5 : Nat) ≤ sizeLine := by decide
theorem le6 : (6 : Nat) ≤ sizeLine := by decide
theorem le7 : (7 : Nat) ≤ sizeLine := by decide
local macro_rules | `(tactic| walk_at "words") => `(tactic| repeat (first | refine st_wF rfl (by decide +kernel) ?_ | refine st_wT rfl (by decide +kernel) ?_))
theorem st_wF {K : PySem.W.Frag} {i : Nat} {x y : Str} {A rest : TS} {D : Ends} {σ : L2.St} {H : Hp} (hs : sl σ i = some (.str x)) (e : decide (x = y) = false) (h : rest D σ H) : tSeq (tIfS (cB (tOp (cEq K) (cVar i) (tC (.str y)))) A tNext) rest D σ H := by
  simp only [tSeq, tIfS, cB, tOp, cVar, tC, hs, cEq, e]
  exact iteF h
theorem st_wT {K : PySem.W.Frag} {i : Nat} {x y : Str} {A rest : TS} {D : Ends} {σ : L2.St} {H : Hp} (hs : sl σ i = some (.str x)) (e : decide (x = y) = true) (h : A { D with nx := rest D } σ H) : tSeq (tIfS (cB (tOp (cEq K) (cVar i) (tC (.str y)))) A tNext) rest D σ H := by
  simp only [tSeq, tIfS, cB, tOp, cVar, tC, hs, cEq, e, if_true]
  exact h
theorem sz {n : Nat} (h : n ≤ 100000) : n < sizeLine := Nat.lt_of_le_of_lt h (by decide)
theorem r_L_pen {K : PySem.W.Frag} {a : V} {H : Hp} {Q : VK} (h : pPen a H Q) : t_L_pen K (sp1 pNumber) (dEnds Q) [some a, none, none] H := by
  obtain ⟨p, n, rfl, hP, q⟩ := h
  refine ⟨6, rfl, by decide, by decide, fun D nD => lc_range (n := 6) (fun i H' => Drew p n H H' ∧ ∃ ns : List Int, ns.length = i ∧ (∀ x ∈ ns, Bd 137 x) ∧ H' D = some (.lst (ns.map V.int))) ?_ (fun i H' hi hv => ?_) (fun H' hv => ?_)⟩
  · exact ⟨(Drew.refl hP).new nD, [], rfl, (fun x hx => by cases hx), upd_same⟩
  · obtain ⟨d1, ns, hl, hb, hD⟩ := hv
    have hne : D ≠ p := hP.ne nD
    refine ⟨rfl, p, n, rfl, d1.pool, fun d H2 hd s2 => ⟨ns.map V.int, by rw [s2.at hne]; exact hD, sz (by rw [List.length_map]; omega), ?_⟩⟩
    refine ⟨(d1.trans s2.drew).set nD hne, ns ++ [d], by simp [hl], fun x hx => ?_, by rw [upd_same, List.map_append]; rfl⟩
    rcases List.mem_append.mp hx with h | h
    · exact hb x h
    · rw [List.mem_singleton.mp h]; exact hd
  · obtain ⟨d1, ns, hl, hb, hD⟩ := hv
    match ns, hl, hb, hD with
    | [a, b, c, d, e, f], _, hb, hD =>
      have hs := SqL.of (K := K) hD
      refine ⟨_, _, .inl hs, atI_nat (j := 0) rfl, _, _, .inl hs, atI_nat (j := 1) rfl, _, _, .inl hs, atI_nat (j := 2) rfl, _, _, .inl hs, atI_nat (j := 3) rfl, _, _, .inl hs, atI_nat (j := 4) rfl, _, _, .inl hs, atI_nat (j := 5) rfl, le6, fun t nt => ?_⟩
      exact q t _ ⟨a, b, c, d, e, f⟩ hb (d1.new nt) upd_same
inductive Cmd where
  | go (k : Int) | turn (k : Int) | mirror | scale (k : Int) | aim (a b : Int) | place (a b : Int) | mark | ret | exch
def Cmd.vs : Cmd → List V
  | .go k => [.str "go", .int k]
  | .turn k => [.str "turn", .int k]
  | .mirror => [.str "mirror"]
  | .scale k => [.str "scale", .int k]
  | .aim a b => [.str "aim", .int a, .int b]
  | .place a b => [.str "place", .int a, .int b]
  | .mark => [.str "mark"]
  | .ret => [.str "return"]
  | .exch => [.str "exchange"]
def Cmd.Ok : Cmd → Prop
  | .go k => -9 ≤ k ∧ k ≤ 9
  | .turn k => 1 ≤ k ∧ k ≤ 3
  | .scale k => -3 ≤ k ∧ k ≤ 3
  | .aim a b => (-9 ≤ a ∧ a ≤ 9) ∧ -9 ≤ b ∧ b ≤ 9
  | .place a b => (-9 ≤ a ∧ a ≤ 9) ∧ -9 ≤ b ∧ b ≤ 9
  | _ => True
def turnN : Nat → Int × Int → Int × Int
  | 0, w => w
  | n + 1, w => turnN n (-w.2, w.1)
def Cmd.run : Cmd → Pen → Pen
  | .go k, z => { z with x := z.x + k * z.u, y := z.y + k * z.v }
  | .turn k, z => { z with u := (turnN k.toNat (z.u, z.v)).1, v := (turnN k.toNat (z.u, z.v)).2 }
  | .mirror, z => { z with v := -z.v }
  | .scale k, z => { z with u := k * z.u, v := k * z.v }
  | .aim a b, z => { z with u := a, v := b }
  | .place a b, z => { z with x := a, y := b }
  | .mark, z => { z with p := z.x, q := z.y }
  | .ret, z => { z with x := z.p, y := z.q }
  | .exch, z => ⟨z.p, z.q, z.u, z.v, z.x, z.y⟩
theorem turnN_succ : ∀ (n : Nat) (w : Int × Int), turnN (n + 1) w = (-(turnN n w).2, (turnN n w).1)
  | 0, _ => rfl
  | n + 1, w => turnN_succ n (-w.2, w.1)
theorem ix0 {α : Type} {x : α} {r : List α} : atI (x :: r) 0 = some x := atI_nat (j := 0) rfl
theorem ix1 {α : Type} {x y : α} {r : List α} : atI (x :: y :: r) 1 = some y := atI_nat (j := 1) rfl
theorem ix2 {α : Type} {x y z : α} {r : List α} : atI (x :: y :: z :: r) 2 = some z := atI_nat (j := 2) rfl
/-- the pen behind the command, new -/
def pRun (K : PySem.W.Frag) : V → V → Hp → VK → Prop := fun a b H Q => ∃ (p c : Addr) (z : Pen) (m : Cmd), a = .ref p ∧ b = .ref c ∧ SqT K H p z.vs ∧ SqT K H c m.vs ∧ m.Ok ∧ ∀ t H', Same H H' → H' t = some (.tup (m.run z).vs) → Q (.ref t) H'
theorem mul9 {k j : Int} (h : -9 ≤ k ∧ k ≤ 9) : IntMulOk k j := mulL (by omega) (by omega)
theorem mul9r {k j : Int} (h : -9 ≤ k ∧ k ≤ 9) : IntMulOk j k := mulR (by omega) (by omega)
theorem r_executed {K : PySem.W.Frag} {a b : V} {H : Hp} {Q : VK} (h : pRun K a b H Q) : t_executed K (dEnds Q) [some a, some b, none, none, none, none, none, none, none, none] H := by
  obtain ⟨p, c, z, m, rfl, rfl, hp, hc, ok, q⟩ := h
  refine ⟨p, z.vs, rfl, hp, rfl, _, _, rfl, _, _, rfl, _, _, rfl, _, _, rfl, _, _, rfl, _, _, rfl, rfl, ?_⟩
  dsimp only [List.set]
  cases m with
  | go k =>
    refine ⟨_, _, .inr hc, ix0, ?_⟩
    dsimp only [gName, List.set]
    walk_at "words"
    exact ⟨_, _, .inr hc, ix1, mul9 ok, _, _, .inr hc, ix1, mul9 ok, le6, fun t nt => q t _ (same_upd nt) upd_same⟩
  | turn k =>
    refine ⟨_, _, .inr hc, ix0, ?_⟩
    dsimp only [gName, List.set]
    walk_at "words"
    refine ⟨_, _, .inr hc, ix1, k, rfl, by have := ok.1; omega, by have := ok.2; omega, ?_⟩
    refine for_range (n := k.toNat) (fun i σ H' => H' = H ∧ ∃ y, σ = [some (.ref p), some (.ref c), some (.int z.x), some (.int z.y), some (.int (turnN i (z.u, z.v)).1), some (.int (turnN i (z.u, z.v)).2), some (.int z.p), some (.int z.q), some (.str "turn"), y]) ⟨rfl, _, rfl⟩ (fun i σ H' hi hv => ?_) (fun σ H' hv => ?_)
    · obtain ⟨rfl, y, rfl⟩ := hv
      refine ⟨_, _, rfl, rfl, some (.int (0 + i)), ?_⟩
      rw [turnN_succ]
      rfl
    · obtain ⟨rfl, y, rfl⟩ := hv
      exact ⟨le6, fun t nt => q t _ (same_upd nt) upd_same⟩
  | mirror =>
    refine ⟨_, _, .inr hc, ix0, ?_⟩
    dsimp only [gName, List.set]
    walk_at "words"
    exact ⟨le6, fun t nt => q t _ (same_upd nt) upd_same⟩
  | scale k =>
    refine ⟨_, _, .inr hc, ix0, ?_⟩
    dsimp only [gName, List.set]
    walk_at "words"
    exact ⟨_, _, .inr hc, ix1, mul9 (by have := ok.1; have := ok.2; omega), _, _, .inr hc, ix1, mul9 (by have := ok.1; have := ok.2; omega), le6, fun t nt => q t _ (same_upd nt) upd_same⟩
  | aim a b =>
    refine ⟨_, _, .inr hc, ix0, ?_⟩
    dsimp only [gName, List.set]
    walk_at "words"
    exact ⟨_, _, .inr hc, ix1, _, _, .inr hc, ix2, le6, fun t nt => q t _ (same_upd nt) upd_same⟩
  | place a b =>
    refine ⟨_, _, .inr hc, ix0, ?_⟩
    dsimp only [gName, List.set]
    walk_at "words"
    exact ⟨_, _, .inr hc, ix1, _, _, .inr hc, ix2, le6, fun t nt => q t _ (same_upd nt) upd_same⟩
  | mark =>
    refine ⟨_, _, .inr hc, ix0, ?_⟩
    dsimp only [gName, List.set]
    walk_at "words"
    exact ⟨le6, fun t nt => q t _ (same_upd nt) upd_same⟩
  | ret =>
    refine ⟨_, _, .inr hc, ix0, ?_⟩
    dsimp only [gName, List.set]
    walk_at "words"
    exact ⟨le6, fun t nt => q t _ (same_upd nt) upd_same⟩
  | exch =>
    refine ⟨_, _, .inr hc, ix0, ?_⟩
    dsimp only [gName, List.set]
    walk_at "words"
    exact ⟨le6, fun t nt => q t _ (same_upd nt) upd_same⟩
end PH

namespace PH
open PySem PySem.Spec PyProof.Rows L2
theorem wipe1 (σ : L2.St) (i : Nat) : wipe σ [i] = σ.set i none := rfl
theorem wipe_put (σ : L2.St) (i : Nat) (x : V) : wipe ((wipe σ [i]).set i (some x)) [i] = wipe σ [i] := by
  rw [wipe1, wipe1, List.set_set, List.set_set]
theorem put_put (σ : L2.St) (i : Nat) (x : V) : (wipe σ [i]).set i (some x) = σ.set i (some x) := by
  rw [wipe1, List.set_set]
theorem Same.tup {K : PySem.W.Frag} {H H' : Hp} {a : Addr} {xs : List V} (e : Same H H') (h : SqT K H a xs) : SqT K H' a xs := by
  rcases h with (h | ⟨o, h⟩) | h
  · exact .inl (.inl (e _ _ h))
  · exact .inl (.inr ⟨o, e _ _ h⟩)
  · exact .inr h
theorem Same.put {H H' : Hp} {p : Addr} {o : HO} (s : Same H H') (h : H p = none) : Same H (upd H' p o) := fun b x e => by
  rw [upd_ne (ne_of_none e h)]
  exact s b x e
/-- a comprehension whose element is a value of the item, nothing else is changed: over a tuple, over a list -/
theorem lc_mapT {K : PySem.W.Frag} {a : Addr} {xs : List V} {i : Nat} {te : TE} {σ : L2.St} {H : Hp} {D : Addr} {Qd : Hp → Prop} (f : V → V) (hx : SqT K H a xs) (nD : H D = none) (hl : xs.length ≤ 100000)
    (he : ∀ x H2 Q, x ∈ xs → Same H H2 → (∀ H3, Same H2 H3 → Q (f x) H3) → te (σ.set i (some x)) H2 Q) (hd : ∀ H2, Same H H2 → H2 D = some (.lst (xs.map f)) → Qd H2) :
    ∃ W : Nat → Nat → Hp → Prop, (∃ m, W 0 m (upd H D (.lst []))) ∧ ∀ j m H, W j m H →
      ((Itt K a).stop j H ∧ Qd H) ∨ ((Itt K a).go j H ∧ ∃ Nx : Hp → Prop, (∀ H', Nx H' → ∃ m', m' < m ∧ W (j + 1) m' H') ∧ ∀ x H', (Itt K a).yld j H x H' → gName i x (wipe σ [i]) H' fun σ2 H2 => wipe σ2 [i] = wipe σ [i] ∧ tYes σ2 H2 fun b H3 =>
        if b = true then te σ2 H3 fun y H4 => ∃ acc, H4 D = some (.lst acc) ∧ acc.length < sizeLine ∧ Nx (upd H4 D (.lst (acc ++ [y]))) else Nx H3) := by
  refine lc_tup (xs := xs) (fun j H' => Same H H' ∧ H' D = some (.lst ((xs.take j).map f))) ⟨same_upd nD, upd_same⟩ (fun j H' _ hv => Same.tup hv.1 hx) (fun j x H' hj hv => ?_) (fun H' hv => hd H' hv.1 (by rw [hv.2, List.take_length]))
  obtain ⟨s, hD⟩ := hv
  refine ⟨wipe_put σ i x, ?_⟩
  show te ((wipe σ [i]).set i (some x)) H' _
  rw [put_put]
  refine he x H' _ (List.mem_of_getElem? hj) s fun H3 s3 => ⟨_, s3 _ _ hD, sz (Nat.le_trans (by rw [List.length_map, List.length_take]; exact Nat.min_le_right _ _) hl), Same.put (s.trans s3) nD, ?_⟩
  rw [upd_same, List.take_add_one, hj, List.map_append]
  rfl
theorem lc_mapL {K : PySem.W.Frag} {a : Addr} {xs : List V} {i : Nat} {te : TE} {σ : L2.St} {H : Hp} {D : Addr} {Qd : Hp → Prop} (f : V → V) (hx : SqL K H a xs) (nD : H D = none) (hl : xs.length ≤ 100000)
    (he : ∀ x H2 Q, x ∈ xs → Same H H2 → (∀ H3, Same H2 H3 → Q (f x) H3) → te (σ.set i (some x)) H2 Q) (hd : ∀ H2, Same H H2 → H2 D = some (.lst (xs.map f)) → Qd H2) :
    ∃ W : Nat → Nat → Hp → Prop, (∃ m, W 0 m (upd H D (.lst []))) ∧ ∀ j m H, W j m H →
      ((Itl K a).stop j H ∧ Qd H) ∨ ((Itl K a).go j H ∧ ∃ Nx : Hp → Prop, (∀ H', Nx H' → ∃ m', m' < m ∧ W (j + 1) m' H') ∧ ∀ x H', (Itl K a).yld j H x H' → gName i x (wipe σ [i]) H' fun σ2 H2 => wipe σ2 [i] = wipe σ [i] ∧ tYes σ2 H2 fun b H3 =>
        if b = true then te σ2 H3 fun y H4 => ∃ acc, H4 D = some (.lst acc) ∧ acc.length < sizeLine ∧ Nx (upd H4 D (.lst (acc ++ [y]))) else Nx H3) := by
  refine lc_list (xs := xs) (fun j H' => Same H H' ∧ H' D = some (.lst ((xs.take j).map f))) ⟨same_upd nD, upd_same⟩ (fun j H' _ hv => hv.1.seq hx) (fun j x H' hj hv => ?_) (fun H' hv => hd H' hv.1 (by rw [hv.2, List.take_length]))
  obtain ⟨s, hD⟩ := hv
  refine ⟨wipe_put σ i x, ?_⟩
  show te ((wipe σ [i]).set i (some x)) H' _
  rw [put_put]
  refine he x H' _ (List.mem_of_getElem? hj) s fun H3 s3 => ⟨_, s3 _ _ hD, sz (Nat.le_trans (by rw [List.length_map, List.length_take]; exact Nat.min_le_right _ _) hl), Same.put (s.trans s3) nD, ?_⟩
  rw [upd_same, List.take_add_one, hj, List.map_append]
  rfl
theorem lc_mapR {n : Nat} {i : Nat} {te : TE} {σ : L2.St} {H : Hp} {D : Addr} {Qd : Hp → Prop} (f : Nat → V) (nD : H D = none) (hl : n ≤ 100000)
    (he : ∀ j H2 Q, j < n → Same H H2 → (∀ H3, Same H2 H3 → Q (f j) H3) → te (σ.set i (some (.int (0 + (j : Nat))))) H2 Q) (hd : ∀ H2, Same H H2 → H2 D = some (.lst ((List.range n).map f)) → Qd H2) :
    ∃ W : Nat → Nat → Hp → Prop, (∃ m, W 0 m (upd H D (.lst []))) ∧ ∀ j m H, W j m H →
      ((Itr 0 n).stop j H ∧ Qd H) ∨ ((Itr 0 n).go j H ∧ ∃ Nx : Hp → Prop, (∀ H', Nx H' → ∃ m', m' < m ∧ W (j + 1) m' H') ∧ ∀ x H', (Itr 0 n).yld j H x H' → gName i x (wipe σ [i]) H' fun σ2 H2 => wipe σ2 [i] = wipe σ [i] ∧ tYes σ2 H2 fun b H3 =>
        if b = true then te σ2 H3 fun y H4 => ∃ acc, H4 D = some (.lst acc) ∧ acc.length < sizeLine ∧ Nx (upd H4 D (.lst (acc ++ [y]))) else Nx H3) := by
  refine lc_range (fun j H' => Same H H' ∧ H' D = some (.lst ((List.range j).map f))) ⟨same_upd nD, upd_same⟩ (fun j H' hj hv => ?_) (fun H' hv => hd H' hv.1 hv.2)
  obtain ⟨s, hD⟩ := hv
  refine ⟨wipe_put σ i _, ?_⟩
  show te ((wipe σ [i]).set i (some (.int (0 + (j : Nat))))) H' _
  rw [put_put]
  refine he j H' _ hj s fun H3 s3 => ⟨_, s3 _ _ hD, sz (by rw [List.length_map, List.length_range]; omega), Same.put (s.trans s3) nD, ?_⟩
  rw [upd_same, List.range_succ, List.map_append]
  rfl
def intB : V → Bool
  | .int _ => true
  | _ => false
/-- what isinstance can tell -/
def Told (K : PySem.W.Frag) (H : Hp) : V → Prop
  | .non => True
  | .bl _ => True
  | .int _ => True
  | .str _ => True
  | .ref a => ∃ n, KindAt K H a n
  | _ => False
theorem Told.same {K : PySem.W.Frag} {H H' : Hp} (s : Same H H') : ∀ {x : V}, Told K H x → Told K H' x
  | .non, _ => trivial
  | .bl _, _ => trivial
  | .int _, _ => trivial
  | .str _, _ => trivial
  | .ref a, ⟨n, hn, ty⟩ => by
    refine ⟨n, hn, ?_⟩
    cases ty with
    | base b => cases b with
      | lst e => exact .base (.lst (s _ _ e))
      | frz e => exact .base (.frz (s _ _ e))
      | tup e => exact .base (.tup (s _ _ e))
      | dK e => exact .base (.dK (s _ _ e))
      | dT e => exact .base (.dT (s _ _ e))
    | set e => exact .set (s _ _ e)
    | kList e c => exact .kList e c
    | kTuple e c => exact .kTuple e c
    | kDict e c => exact .kDict e c
    | fTuple e => exact .fTuple (s _ _ e)
    | fDict e => exact .fDict (s _ _ e)
def pIsInt (K : PySem.W.Frag) : V → Hp → VK → Prop := fun a H Q => Told K H a ∧ Q (.bl (intB a)) H
theorem r_is_integer {K : PySem.W.Frag} {a : V} {H : Hp} {Q : VK} (h : pIsInt K a H Q) : t_is_integer K (dEnds Q) [some a] H := by
  obtain ⟨ht, q⟩ := h
  cases a with
  | non => exact q
  | bl b => exact q
  | int i => exact q
  | str z => exact q
  | ref a =>
    obtain ⟨n, hn, ty⟩ := ht
    have h3 : n = "list" ∨ n = "tuple" ∨ n = "dict" := by simpa using hn
    refine ⟨n, ⟨hn, ty⟩, ifF (by rcases h3 with e | e | e <;> subst e <;> decide) q⟩
  | _ => exact ht.elim
/-- all items ints -/
def pIsRow (K : PySem.W.Frag) : V → V → Hp → VK → Prop := fun a b H Q => ∃ (p : Addr) (xs : List V) (m : Int), a = .ref p ∧ b = .int m ∧ (SqL K H p xs ∨ SqT K H p xs) ∧ xs.length ≤ 100000 ∧ (∀ x ∈ xs, Told K H x) ∧
  ∀ H', Same H H' → Q (.bl (decide ((xs.length : Int) = m) && xs.all intB)) H'
theorem all_map (xs : List V) : (xs.map intB).all id = xs.all intB := by
  induction xs with
  | nil => rfl
  | cons x r ih => simp
theorem r_L_is_row {K : PySem.W.Frag} {a b : V} {H : Hp} {Q : VK} (h : pIsRow K a b H Q) : t_L_is_row K (dEnds Q) [some a, some b, none] H := by
  obtain ⟨p, xs, m, rfl, rfl, hx, hl, ht, q⟩ := h
  refine ⟨xs, hx, ?_⟩
  refine if2 (fun e => ?_) (fun e => ?_)
  · have q2 : ∀ H2 D, Same H H2 → H2 D = some (.lst (xs.map fun x => V.bl (intB x))) → tCB (c1 (cAll K)) (tCons (tC (.ref D)) tNil) [some (.ref p), some (.int m), none] H2 Q := fun H2 D s hD => by
      refine ⟨xs.map intB, SqL.of (by rw [hD, List.map_map]; rfl), ?_⟩
      have z := q H2 s
      rw [e] at z
      rw [all_map]
      exact z
    have he : ∀ x H2 (Q : VK), x ∈ xs → Same H H2 → (∀ H3, Same H2 H3 → Q (V.bl (intB x)) H3) → cAndV (cIsE K "int" (cVar 2)) (cNotV K (cIsE K "bool" (cVar 2))) [some (.ref p), some (.int m), some x] H2 Q := fun x H2 Q hm s k =>
      r_is_integer (K := K) (Q := Q) (a := x) ⟨(ht x hm).same s, k H2 (Same.refl _)⟩
    rcases hx with hx | hx
    · exact .inl ⟨⟨_, hx⟩, fun D nD => lc_mapL (fun x => .bl (intB x)) hx nD hl he (fun H2 s hD => q2 H2 D s hD)⟩
    · exact .inr ⟨⟨_, hx⟩, fun D nD => lc_mapT (fun x => .bl (intB x)) hx nD hl he (fun H2 s hD => q2 H2 D s hD)⟩
  · have z := q H (Same.refl _)
    rw [e] at z
    exact z
end PH

namespace PH
open PySem PySem.Spec PyProof.Rows L2
theorem kind_tup {K : PySem.W.Frag} {H : Hp} {a : Addr} {xs : List V} (h : SqT K H a xs) : KindAt K H a "tuple" := by
  refine ⟨by decide, ?_⟩
  rcases h with (h | ⟨o, h⟩) | ⟨o, its, n, h, hc, _⟩
  · exact .base (.tup h)
  · exact .fTuple h
  · exact .kTuple h hc
theorem kind_lst {K : PySem.W.Frag} {H : Hp} {a : Addr} {xs : List V} (h : SqL K H a xs) : KindAt K H a "list" := by
  refine ⟨by decide, ?_⟩
  rcases h with (h | ⟨o, h⟩) | ⟨o, its, n, h, hc, _⟩
  · exact .base (.lst h)
  · exact .base (.frz h)
  · exact .kList h hc
/-- no tuple -/
def NoTup (K : PySem.W.Frag) (H : Hp) : V → Prop
  | .non => True
  | .bl _ => True
  | .int _ => True
  | .str _ => True
  | .ref a => ∃ n, n ≠ "tuple" ∧ KindAt K H a n
  | _ => False
/-- a value whose kind is known; of a tuple the items -/
def Seen (K : PySem.W.Frag) (H : Hp) (a : V) (o : Option (List V)) : Prop := match o with
  | some xs => ∃ p, a = .ref p ∧ SqT K H p xs ∧ xs.length ≤ 100000 ∧ ∀ x ∈ xs, Told K H x
  | none => NoTup K H a
def penB : Option (List V) → Bool
  | some xs => decide (xs.length = 6) && xs.all intB
  | none => false
def pIsPen (K : PySem.W.Frag) : V → Hp → VK → Prop := fun a H Q => ∃ o, Seen K H a o ∧ ∀ H', Same H H' → Q (.bl (penB o)) H'
theorem cast_len {n m : Nat} : decide ((n : Int) = (m : Int)) = decide (n = m) := by
  by_cases h : n = m
  · rw [decide_eq_true h, decide_eq_true (by omega)]
  · rw [decide_eq_false h, decide_eq_false (by omega)]
theorem all_intB {K : PySem.W.Frag} {H : Hp} {xs : List V} {D : Addr} {Q : VK} (hD : H D = some (.lst (xs.map fun x => V.bl (intB x)))) (h : Q (.bl (xs.all intB)) H) : cAll K (.ref D) H Q := ⟨xs.map intB, SqL.of (by rw [hD, List.map_map]; rfl), by rw [all_map]; exact h⟩
theorem r_is_pen {K : PySem.W.Frag} {a : V} {H : Hp} {Q : VK} (h : pIsPen K a H Q) : t_is_pen K (sp1 (pIsInt K)) (dEnds Q) [some a, none] H := by
  obtain ⟨o, hs, q⟩ := h
  cases o with
  | none =>
    have z := q H (Same.refl _)
    cases a with
    | non => exact z
    | bl b => exact z
    | int i => exact z
    | str s => exact z
    | ref p =>
      obtain ⟨n, hn, hk⟩ := hs
      exact ⟨n, hk, ifF (by simpa using hn) z⟩
    | _ => exact hs.elim
  | some xs =>
    obtain ⟨p, rfl, hx, hl, ht⟩ := hs
    refine ⟨"tuple", kind_tup hx, xs, .inr hx, ?_⟩
    refine if2 (fun e => ?_) (fun e => ?_)
    · refine Or.inr ⟨⟨_, hx⟩, fun D nD => lc_mapT (fun x => .bl (intB x)) hx nD hl (fun x H2 Q2 hm s k => ⟨(ht x hm).same s, k H2 (Same.refl _)⟩) (fun H2 s hD => all_intB hD ?_)⟩
      have z : Q (.bl (decide (xs.length = 6) && xs.all intB)) H2 := q H2 s
      rw [show decide (xs.length = 6) = true from by rw [← cast_len]; exact e] at z
      exact z
    · have z : Q (.bl (decide (xs.length = 6) && xs.all intB)) H := q H (Same.refl _)
      rw [show decide (xs.length = 6) = false from by rw [← cast_len]; exact e] at z
      exact z
theorem r_L_is_pen {K : PySem.W.Frag} {a : V} {H : Hp} {Q : VK} (h : pIsPen K a H Q) : t_L_is_pen K (sp2 (pIsRow K)) (dEnds Q) [some a] H := by
  obtain ⟨o, hs, q⟩ := h
  cases o with
  | none =>
    have z := q H (Same.refl _)
    cases a with
    | non => exact z
    | bl b => exact z
    | int i => exact z
    | str s => exact z
    | ref p =>
      obtain ⟨n, hn, hk⟩ := hs
      exact ⟨n, hk, ifF (by simpa using hn) z⟩
    | _ => exact hs.elim
  | some xs =>
    obtain ⟨p, rfl, hx, hl, ht⟩ := hs
    refine ⟨"tuple", kind_tup hx, p, xs, 6, rfl, rfl, .inr hx, hl, ht, fun H' s => ?_⟩
    have z := q H' s
    unfold penB at z
    rw [show decide ((xs.length : Int) = 6) = decide (xs.length = 6) from cast_len (m := 6)]
    exact z
def limits : List (Str × Nat × Int × Int) := [("go", 1, -9, 9), ("turn", 1, 1, 3), ("mirror", 0, 0, 0), ("scale", 1, -3, 3), ("aim", 2, -9, 9), ("place", 2, -9, 9), ("mark", 0, 0, 0), ("return", 0, 0, 0), ("exchange", 0, 0, 0)]
def limAt (K : PySem.W.Frag) (z : Str) : Addr := match PySem.W.nsIn K (He.ga K "LIMITS") z with
  | some (some (.ref a)) => a
  | _ => 0
structure Lim (K : PySem.W.Frag) : Prop where
  pos : ∀ z m lo hi, limits.lookup z = some (m, lo, hi) → PySem.W.nsIn K (He.ga K "LIMITS") z = some (some (.ref (limAt K z))) ∧ ∀ H, SqT K H (limAt K z) [.int (m : Nat), .int lo, .int hi]
  neg : ∀ z, limits.lookup z = none → PySem.W.nsIn K (He.ga K "LIMITS") z = some none
def inB (lo hi : Int) : V → Bool
  | .int i => decide (lo ≤ i) && decide (i ≤ hi)
  | _ => false
def cmdB : Option (List V) → Bool
  | some (.str z :: r) => (match limits.lookup z with
    | some (m, lo, hi) => decide (r.length = m) && r.all (inB lo hi)
    | none => false)
  | _ => false
def pIsCmd (K : PySem.W.Frag) : V → Hp → VK → Prop := fun a H Q => ∃ o, Seen K H a o ∧ ∀ H', Same H H' → Q (.bl (cmdB o)) H'
theorem cut1 (x : V) (r : List V) : cutV (x :: r) (some 1) none = r := by
  unfold cutV
  rw [show HT.sIx (x :: r).length 0 (some 1) = min 1 (x :: r).length from HT.sIx_nat _ 0 1, HT.sIx_none, show min 1 (x :: r).length = 1 by rw [List.length_cons]; omega]
  show List.take ((x :: r).length - 1) r = r
  rw [List.length_cons, Nat.add_sub_cancel, List.take_length]
theorem cut1_part (x : V) (r : List V) : ¬ (HT.sIx (x :: r).length 0 (some 1) = 0 ∧ HT.sIx (x :: r).length (x :: r).length none = (x :: r).length) := by
  rw [show HT.sIx (x :: r).length 0 (some 1) = min 1 (x :: r).length from HT.sIx_nat _ 0 1, List.length_cons]
  omega
theorem all_inB {K : PySem.W.Frag} {H : Hp} {xs : List V} {D : Addr} {Q : VK} {lo hi : Int} (hD : H D = some (.lst (xs.map fun x => V.bl (inB lo hi x)))) (h : Q (.bl (xs.all (inB lo hi))) H) : cAll K (.ref D) H Q :=
  ⟨xs.map (inB lo hi), SqL.of (by rw [hD, List.map_map]; rfl), by rw [show (xs.map (inB lo hi)).all id = xs.all (inB lo hi) by simp]; exact h⟩
theorem r_is_command {K : PySem.W.Frag} (L : Lim K) {a : V} {H : Hp} {Q : VK} (h : pIsCmd K a H Q) : t_is_command K (sp1 (pIsInt K)) (dEnds Q) [some a, none, none, none, none] H := by
  obtain ⟨o, hs, q⟩ := h
  cases o with
  | none =>
    have z := q H (Same.refl _)
    cases a with
    | non => exact z
    | bl b => exact z
    | int i => exact z
    | str s => exact z
    | ref p =>
      obtain ⟨n, hn, hk⟩ := hs
      exact ⟨n, hk, ifT (by simpa using hn) (ifT rfl z)⟩
    | _ => exact hs.elim
  | some xs =>
    obtain ⟨p, rfl, hx, hl, ht⟩ := hs
    refine ⟨"tuple", kind_tup hx, xs, .inr hx, ?_⟩
    cases xs with
    | nil => exact q H (Same.refl _)
    | cons x r =>
      refine ⟨_, _, .inr hx, ix0, ?_⟩
      have z0 := q H (Same.refl _)
      cases x with
      | str w =>
        refine ⟨_, _, .inr hx, ix0, rfl, ?_⟩
        cases e : limits.lookup w with
        | none =>
          refine ⟨none, L.neg w e, ?_⟩
          simp only [cmdB, e] at z0
          exact z0
        | some t =>
          obtain ⟨m, lo, hi⟩ := t
          obtain ⟨e1, e2⟩ := L.pos w m lo hi e
          refine ⟨_, e1, _, _, .inr hx, ix0, rfl, _, .ref (limAt K w), e1, rfl, _, _, rfl, e2 H, rfl, _, _, rfl, _, _, rfl, _, _, rfl, rfl, ?_⟩
          dsimp only [List.set]
          refine ⟨_, .inr hx, ?_⟩
          have hlen : decide (((V.str w :: r).length : Int) = (m : Int) + 1) = decide (r.length = m) := by
            rw [show (m : Int) + 1 = ((m + 1 : Nat) : Int) from rfl, cast_len, List.length_cons]
            by_cases h : r.length = m
            · rw [decide_eq_true h, decide_eq_true (by omega)]
            · rw [decide_eq_false h, decide_eq_false (by omega)]
          refine if2 (fun g => ?_) (fun g => ?_)
          · have g' : decide (r.length = m) = false := by rw [← hlen]; simpa using g
            simp only [cmdB, e, g', Bool.false_and] at z0
            exact z0
          · have g' : decide (r.length = m) = true := by rw [← hlen]; simpa using g
            show _ ∨ _
            refine Or.inr ⟨_, hx, fun h => absurd h (cut1_part _ _), fun _ c nc => ?_⟩
            rw [cut1]
            have hc : SqT K (upd H c (.tup r)) c r := SqT.of upd_same
            have sc : Same H (upd H c (.tup r)) := same_upd nc
            refine Or.inr ⟨⟨_, hc⟩, fun D nD => lc_mapT (fun x => .bl (inB lo hi x)) hc nD (by rw [List.length_cons] at hl; omega) (fun x H2 Q2 hm s k => ⟨(ht x (List.mem_cons_of_mem _ hm)).same (sc.trans s), ?_⟩) (fun H2 s hD => all_inB hD ?_)⟩
            · cases x with
              | int i =>
                show if decide (lo ≤ i) = true then Q2 (.bl (decide (i ≤ hi))) H2 else Q2 (.bl false) H2
                have k2 : Q2 (.bl (decide (lo ≤ i) && decide (i ≤ hi))) H2 := k H2 (Same.refl _)
                by_cases h1 : lo ≤ i
                · rw [decide_eq_true h1] at k2 ⊢
                  exact k2
                · rw [decide_eq_false h1] at k2 ⊢
                  exact k2
              | _ => exact k H2 (Same.refl _)
            · have z := q H2 (sc.trans s)
              simp only [cmdB, e, g', Bool.true_and] at z
              exact z
      | ref y =>
        obtain ⟨n, hk⟩ := ht (.ref y) (List.mem_cons_self ..)
        have hn : n ≠ "str" := by
          have h3 : n = "list" ∨ n = "tuple" ∨ n = "dict" := by simpa using hk.1
          rcases h3 with e | e | e <;> subst e <;> decide
        exact ⟨n, hk, ifT (by simpa using hn) (ifT rfl z0)⟩
      | non => exact z0
      | bl b => exact z0
      | int i => exact z0
      | byt b => exact (ht _ (List.mem_cons_self ..)).elim
      | flt b => exact (ht _ (List.mem_cons_self ..)).elim
      | ty b => exact (ht _ (List.mem_cons_self ..)).elim
end PH

namespace PH
open PySem PySem.Spec PyProof.Rows L2
theorem told_int {K : PySem.W.Frag} {H : Hp} {xs : List V} (h : xs.all intB = true) : ∀ x ∈ xs, Told K H x := fun x hx => by
  have := List.all_eq_true.mp h x hx
  cases x with
  | int i => trivial
  | _ => cases this
theorem seen_pen {K : PySem.W.Frag} {H : Hp} {p : Addr} {z : Pen} (h : SqT K H p z.vs) : Seen K H (.ref p) (some z.vs) := ⟨p, rfl, h, by show 6 ≤ 100000; decide, told_int rfl⟩
def scalB : V → Bool
  | .non => true
  | .bl _ => true
  | .int _ => true
  | .str _ => true
  | _ => false
theorem told_scal {K : PySem.W.Frag} {H : Hp} {xs : List V} (h : xs.all scalB = true) : ∀ x ∈ xs, Told K H x := fun x hx => by
  have := List.all_eq_true.mp h x hx
  cases x with
  | non => trivial
  | bl _ => trivial
  | int _ => trivial
  | str _ => trivial
  | _ => cases this
theorem Cmd.told {K : PySem.W.Frag} {H : Hp} (m : Cmd) : ∀ x ∈ m.vs, Told K H x := told_scal (by cases m <;> rfl)
theorem Cmd.small (m : Cmd) : m.vs.length ≤ 100000 := by cases m <;> (simp [Cmd.vs])
theorem seen_cmd {K : PySem.W.Frag} {H : Hp} {p : Addr} {m : Cmd} (h : SqT K H p m.vs) : Seen K H (.ref p) (some m.vs) := ⟨p, rfl, h, m.small, m.told⟩
theorem cmdB_ok {m : Cmd} (h : m.Ok) : cmdB (some m.vs) = true := by
  cases m with
  | go k =>
    obtain ⟨h1, h2⟩ := h
    show (match limits.lookup ("go" : Str) with | some (m, lo, hi) => decide (1 = m) && [V.int k].all (inB lo hi) | none => false) = true
    rw [show limits.lookup ("go" : Str) = some (1, -9, 9) by decide +kernel]
    simp [inB, h1, h2]
  | turn k =>
    obtain ⟨h1, h2⟩ := h
    show (match limits.lookup ("turn" : Str) with | some (m, lo, hi) => decide (1 = m) && [V.int k].all (inB lo hi) | none => false) = true
    rw [show limits.lookup ("turn" : Str) = some (1, 1, 3) by decide +kernel]
    simp [inB, h1, h2]
  | scale k =>
    obtain ⟨h1, h2⟩ := h
    show (match limits.lookup ("scale" : Str) with | some (m, lo, hi) => decide (1 = m) && [V.int k].all (inB lo hi) | none => false) = true
    rw [show limits.lookup ("scale" : Str) = some (1, -3, 3) by decide +kernel]
    simp [inB, h1, h2]
  | aim a b =>
    obtain ⟨⟨h1, h2⟩, h3, h4⟩ := h
    show (match limits.lookup ("aim" : Str) with | some (m, lo, hi) => decide (2 = m) && [V.int a, V.int b].all (inB lo hi) | none => false) = true
    rw [show limits.lookup ("aim" : Str) = some (2, -9, 9) by decide +kernel]
    simp [inB, h1, h2, h3, h4]
  | place a b =>
    obtain ⟨⟨h1, h2⟩, h3, h4⟩ := h
    show (match limits.lookup ("place" : Str) with | some (m, lo, hi) => decide (2 = m) && [V.int a, V.int b].all (inB lo hi) | none => false) = true
    rw [show limits.lookup ("place" : Str) = some (2, -9, 9) by decide +kernel]
    simp [inB, h1, h2, h3, h4]
  | mirror => decide +kernel
  | mark => decide +kernel
  | ret => decide +kernel
  | exch => decide +kernel
/-- a pen is a pen, here -/
def pCheckPen (K : PySem.W.Frag) : V → Hp → VK → Prop := fun a H Q => ∃ (p : Addr) (z : Pen), a = .ref p ∧ SqT K H p z.vs ∧ ∀ H', Same H H' → Q .non H'
theorem r_check_pen {K : PySem.W.Frag} {a : V} {H : Hp} {Q : VK} (h : pCheckPen K a H Q) : t_check_pen K (sp1 (pIsPen K)) (dEnds Q) [some a] H := by
  obtain ⟨p, z, rfl, hz, q⟩ := h
  exact ⟨some z.vs, seen_pen hz, fun H' s => q H' s⟩
theorem r_moved {K : PySem.W.Frag} {a b : V} {H : Hp} {Q : VK} (h : pRun K a b H Q) : t_moved K (sp1 (pCheckPen K)) (sp1 (pIsCmd K)) (sp2 (pRun K)) (dEnds Q) [some a, some b] H := by
  obtain ⟨p, c, z, m, rfl, rfl, hp, hc, ok, q⟩ := h
  refine ⟨p, z, rfl, hp, fun H1 s1 => ⟨some m.vs, seen_cmd (Same.tup s1 hc), fun H2 s2 => ?_⟩⟩
  rw [cmdB_ok ok]
  exact ⟨p, c, z, m, rfl, rfl, Same.tup (s1.trans s2) hp, Same.tup (s1.trans s2) hc, ok, fun t H' s3 e => q t H' ((s1.trans s2).trans s3) e⟩
local macro_rules | `(tactic| walk_at "words") => `(tactic| repeat (first | refine st_wF rfl (by decide +kernel) ?_ | refine st_wT rfl (by decide +kernel) ?_))
theorem r_L_move {K : PySem.W.Frag} {a b : V} {H : Hp} {Q : VK} (h : pRun K a b H Q) : t_L_move K (dEnds Q) [some a, some b, none, none, none, none, none, none, none, none, none] H := by
  obtain ⟨p, c, z, m, rfl, rfl, hp, hc, ok, q⟩ := h
  refine ⟨p, z.vs, rfl, hp, rfl, _, _, rfl, _, _, rfl, _, _, rfl, _, _, rfl, _, _, rfl, _, _, rfl, rfl, ?_⟩
  dsimp only [List.set]
  have go : ∀ (w : Str) (r : List V) (k : V) (Q2 : VK), m.vs = .str w :: r → (r ++ [.int 0])[0]? = some k → (∀ H', Same H H' → Q2 k H') → tOp (cIx K) (tOp (cAdd K) (cVar 1) (tTup (tCons (tC (.int 0)) tNil))) (tC (.int 1)) [some (.ref p), some (.ref c), some (.int z.x), some (.int z.y), some (.int z.u), some (.int z.v), some (.int z.p), some (.int z.q), some (.str w), none, none] H Q2 := fun w r k Q2 e hk q2 => by
    refine ⟨le1, fun t nt => ?_⟩
    have s1 : Same H (upd H t (.tup [.int 0])) := same_upd nt
    refine Or.inr ⟨c, t, m.vs, [.int 0], rfl, rfl, Same.tup s1 hc, SqT.of upd_same, by rw [e]; exact Nat.le_trans (Nat.add_le_add_right (by have := m.small; rw [e] at this; exact this) 1) (by decide), fun e2 => (by rw [e] at e2; cases e2), fun _ e2 => (by cases e2), fun _ _ t2 nt2 => ?_⟩
    refine ⟨_, k, .inr (SqT.of upd_same), ?_, q2 _ (s1.trans (same_upd nt2))⟩
    rw [e]
    exact atI_nat (j := 1) hk
  cases m with
  | go k =>
    refine ⟨_, _, .inr hc, ix0, ?_⟩
    refine go "go" _ (.int k) _ rfl rfl fun H1 s1 => ?_
    dsimp only [gName, List.set]
    walk_at "words"
    exact ⟨mul9 ok, mul9 ok, le6, fun t nt => q t _ (Same.trans s1 (same_upd nt)) upd_same⟩
  | turn k =>
    refine ⟨_, _, .inr hc, ix0, ?_⟩
    refine go "turn" _ (.int k) _ rfl rfl fun H1 s1 => ?_
    dsimp only [gName, List.set]
    walk_at "words"
    refine ⟨le2, fun t1 n1 => ⟨le2, fun t2 n2 => ⟨le2, fun t3 n3 => ⟨le3, fun l nl => ?_⟩⟩⟩⟩
    have u1 : Same H1 (upd H1 t1 (.tup [.int (-z.v), .int z.u])) := same_upd n1
    have u2 := same_upd (o := .tup [.int (-z.u), .int (-z.v)]) n2
    have u3 := same_upd (o := .tup [.int z.v, .int (-z.u)]) n3
    have u4 := same_upd (o := .lst [.ref t1, .ref t2, .ref t3]) nl
    have hk : k = 1 ∨ k = 2 ∨ k = 3 := by have := ok.1; have := ok.2; omega
    rcases hk with e | e | e <;> subst e
    · have ht := u4 _ _ (u3 _ _ (u2 _ _ (upd_same (H := H1) (a := t1) (o := .tup [.int (-z.v), .int z.u]))))
      refine ⟨_, _, .inl (SqL.of upd_same), atI_nat (j := 0) rfl, ?_⟩
      exact ⟨_, _, .inr (SqT.of ht), ix0, _, _, .inr (SqT.of ht), ix1, le6, fun t nt => q t _ (((((s1.trans u1).trans u2).trans u3).trans u4).trans (same_upd nt)) upd_same⟩
    · have ht := u4 _ _ (u3 _ _ (upd_same (H := (upd H1 t1 (.tup [.int (-z.v), .int z.u]))) (a := t2) (o := .tup [.int (-z.u), .int (-z.v)])))
      refine ⟨_, _, .inl (SqL.of upd_same), atI_nat (j := 1) rfl, ?_⟩
      exact ⟨_, _, .inr (SqT.of ht), ix0, _, _, .inr (SqT.of ht), ix1, le6, fun t nt => q t _ (((((s1.trans u1).trans u2).trans u3).trans u4).trans (same_upd nt)) upd_same⟩
    · have ht := u4 _ _ (upd_same (H := upd (upd H1 t1 (.tup [.int (-z.v), .int z.u])) t2 (.tup [.int (-z.u), .int (-z.v)])) (a := t3) (o := .tup [.int z.v, .int (-z.u)]))
      refine ⟨_, _, .inl (SqL.of upd_same), atI_nat (j := 2) rfl, ?_⟩
      refine ⟨_, _, .inr (SqT.of ht), ix0, _, _, .inr (SqT.of ht), ix1, le6, fun t nt => q t _ (((((s1.trans u1).trans u2).trans u3).trans u4).trans (same_upd nt)) ?_⟩
      rw [upd_same]
      show some (HO.tup [.int z.x, .int z.y, .int z.v, .int (-z.u), .int z.p, .int z.q]) = some (HO.tup [.int z.x, .int z.y, .int (- -z.v), .int (-z.u), .int z.p, .int z.q])
      rw [Int.neg_neg]
  | mirror =>
    refine ⟨_, _, .inr hc, ix0, ?_⟩
    refine go "mirror" _ (.int 0) _ rfl rfl fun H1 s1 => ?_
    dsimp only [gName, List.set]
    walk_at "words"
    exact ⟨le6, fun t nt => q t _ (Same.trans s1 (same_upd nt)) upd_same⟩
  | scale k =>
    refine ⟨_, _, .inr hc, ix0, ?_⟩
    refine go "scale" _ (.int k) _ rfl rfl fun H1 s1 => ?_
    dsimp only [gName, List.set]
    walk_at "words"
    refine ⟨mul9r (by have := ok.1; have := ok.2; omega), mul9r (by have := ok.1; have := ok.2; omega), le6, fun t nt => q t _ (Same.trans s1 (same_upd nt)) ?_⟩
    rw [upd_same]
    show some (HO.tup [.int z.x, .int z.y, .int (z.u * k), .int (z.v * k), .int z.p, .int z.q]) = some (HO.tup [.int z.x, .int z.y, .int (k * z.u), .int (k * z.v), .int z.p, .int z.q])
    rw [Int.mul_comm z.u, Int.mul_comm z.v]
  | aim a b =>
    refine ⟨_, _, .inr hc, ix0, ?_⟩
    refine go "aim" _ (.int a) _ rfl rfl fun H1 s1 => ?_
    dsimp only [gName, List.set]
    walk_at "words"
    exact ⟨_, _, .inr (Same.tup s1 hc), ix2, le6, fun t nt => q t _ (Same.trans s1 (same_upd nt)) upd_same⟩
  | place a b =>
    refine ⟨_, _, .inr hc, ix0, ?_⟩
    refine go "place" _ (.int a) _ rfl rfl fun H1 s1 => ?_
    dsimp only [gName, List.set]
    walk_at "words"
    exact ⟨_, _, .inr (Same.tup s1 hc), ix2, le6, fun t nt => q t _ (Same.trans s1 (same_upd nt)) upd_same⟩
  | mark =>
    refine ⟨_, _, .inr hc, ix0, ?_⟩
    refine go "mark" _ (.int 0) _ rfl rfl fun H1 s1 => ?_
    dsimp only [gName, List.set]
    walk_at "words"
    exact ⟨le6, fun t nt => q t _ (Same.trans s1 (same_upd nt)) upd_same⟩
  | ret =>
    refine ⟨_, _, .inr hc, ix0, ?_⟩
    refine go "return" _ (.int 0) _ rfl rfl fun H1 s1 => ?_
    dsimp only [gName, List.set]
    walk_at "words"
    exact ⟨le6, fun t nt => q t _ (Same.trans s1 (same_upd nt)) upd_same⟩
  | exch =>
    refine ⟨_, _, .inr hc, ix0, ?_⟩
    refine go "exchange" _ (.int 0) _ rfl rfl fun H1 s1 => ?_
    dsimp only [gName, List.set]
    walk_at "words"
    exact ⟨le6, fun t nt => q t _ (Same.trans s1 (same_upd nt)) upd_same⟩
end PH

namespace PH
open PySem PySem.Spec PyProof.Rows L2
def pAnyCmd : V → Hp → VK → Prop := fun a H Q => ∃ (p : Addr) (n : Nat), a = .ref p ∧ Pool H p n ∧ ∀ t H' (m : Cmd), Drew p n H H' → H' t = some (.tup m.vs) → m.Ok → Q (.ref t) H'
theorem r_L_any_command {K : PySem.W.Frag} {a : V} {H : Hp} {Q : VK} (h : pAnyCmd a H Q) : t_L_any_command K (sp2 pDraw) (dEnds Q) [some a, none] H := by
  obtain ⟨p, n, rfl, hP, q⟩ := h
  refine ⟨p, n, 9, rfl, rfl, hP, by decide, by decide, fun d H1 d0 d9 s1 => ?_⟩
  dsimp only [gName, List.set]
  refine if2 (fun e => ?_) (fun e0 => ?_)
  · refine ⟨p, n, 19, rfl, rfl, s1.pool, by decide, by decide, fun k H2 k0 k1 s2 => ⟨le2, fun t nt => ?_⟩⟩
    exact q t _ (.go (k - 9)) ((s1.trans s2).drew.new nt) upd_same ⟨by omega, by omega⟩
  refine if2 (fun e => ?_) (fun e1 => ?_)
  · refine ⟨p, n, 3, rfl, rfl, s1.pool, by decide, by decide, fun k H2 k0 k1 s2 => ⟨le2, fun t nt => ?_⟩⟩
    exact q t _ (.turn (1 + k)) ((s1.trans s2).drew.new nt) upd_same ⟨by omega, by omega⟩
  refine if2 (fun e => ?_) (fun e2 => ?_)
  · refine ⟨p, n, 7, rfl, rfl, s1.pool, by decide, by decide, fun k H2 k0 k1 s2 => ⟨le2, fun t nt => ?_⟩⟩
    exact q t _ (.scale (k - 3)) ((s1.trans s2).drew.new nt) upd_same ⟨by omega, by omega⟩
  have e0' : d ≠ 0 := of_decide_eq_false e0
  have e1' : d ≠ 1 := of_decide_eq_false e1
  have e2' : d ≠ 2 := of_decide_eq_false e2
  refine if2 (fun e => ?_) (fun e3 => ?_)
  · have e' : d < 5 := of_decide_eq_true e
    have hd : d = 3 ∨ d = 4 := by omega
    refine ⟨le2, fun u nu => ?_⟩
    have d1 := s1.drew.new (o := .tup [.str "aim", .str "place"]) nu
    rcases hd with hd | hd <;> subst hd
    · refine ⟨_, _, .inr (SqT.of upd_same), atI_nat (j := 0) rfl, p, n, 19, rfl, rfl, d1.pool, by decide, by decide, fun k H2 k0 k1 s2 => ⟨p, n, 19, rfl, rfl, s2.pool, by decide, by decide, fun l H3 l0 l1 s3 => ⟨le3, fun t nt => ?_⟩⟩⟩
      exact q t _ (.aim (k - 9) (l - 9)) ((d1.trans (s2.trans s3).drew).new nt) upd_same ⟨⟨by omega, by omega⟩, by omega, by omega⟩
    · refine ⟨_, _, .inr (SqT.of upd_same), atI_nat (j := 1) rfl, p, n, 19, rfl, rfl, d1.pool, by decide, by decide, fun k H2 k0 k1 s2 => ⟨p, n, 19, rfl, rfl, s2.pool, by decide, by decide, fun l H3 l0 l1 s3 => ⟨le3, fun t nt => ?_⟩⟩⟩
      exact q t _ (.place (k - 9) (l - 9)) ((d1.trans (s2.trans s3).drew).new nt) upd_same ⟨⟨by omega, by omega⟩, by omega, by omega⟩
  · have e3' : ¬ d < 5 := of_decide_eq_false e3
    have hd : d = 5 ∨ d = 6 ∨ d = 7 ∨ d = 8 := by omega
    refine ⟨le4, fun u nu => ?_⟩
    have d1 := s1.drew.new (o := .tup [.str "mirror", .str "mark", .str "return", .str "exchange"]) nu
    rcases hd with hd | hd | hd | hd <;> subst hd
    · exact ⟨_, _, .inr (SqT.of upd_same), atI_nat (j := 0) rfl, le1, fun t nt => q t _ .mirror (d1.new nt) upd_same trivial⟩
    · exact ⟨_, _, .inr (SqT.of upd_same), atI_nat (j := 1) rfl, le1, fun t nt => q t _ .mark (d1.new nt) upd_same trivial⟩
    · exact ⟨_, _, .inr (SqT.of upd_same), atI_nat (j := 2) rfl, le1, fun t nt => q t _ .ret (d1.new nt) upd_same trivial⟩
    · exact ⟨_, _, .inr (SqT.of upd_same), atI_nat (j := 3) rfl, le1, fun t nt => q t _ .exch (d1.new nt) upd_same trivial⟩
def pMkPool (K : PySem.W.Frag) : V → Hp → VK → Prop := fun a H Q => ∃ (s : Addr) (ns : List Int), a = .ref s ∧ SqL K H s (ns.map V.int) ∧ ns.length ≤ 63 ∧ ∀ p H' n, Same H H' → H p = none → Pool H' p n → n ≤ 62 → Q (.ref p) H'
theorem cut63 (xs : List V) (h : xs.length ≤ 63) : cutV xs none (some 63) = xs := by
  unfold cutV
  rw [HT.sIx_none, show HT.sIx xs.length xs.length (some 63) = min 63 xs.length from HT.sIx_nat _ _ 63, show min 63 xs.length = xs.length by omega]
  simp
theorem r_L_pool {K : PySem.W.Frag} {a : V} {H : Hp} {Q : VK} (h : pMkPool K a H Q) : t_L_pool K (dEnds Q) [some a, none] H := by
  obtain ⟨s, ns, rfl, hs, hl, q⟩ := h
  refine ⟨le1, fun l nl => ?_⟩
  have s1 : Same H (upd H l (.lst [.int 0])) := same_upd nl
  refine Or.inl ⟨_, s1.seq hs, fun c nc => ?_⟩
  rw [cut63 _ (by rw [List.length_map]; exact hl)]
  have s2 : Same (upd H l (.lst [.int 0])) (upd (upd H l (.lst [.int 0])) c (.lst (ns.map V.int))) := same_upd nc
  have hc : SqL K (upd (upd H l (.lst [.int 0])) c (.lst (ns.map V.int))) c (ns.map V.int) := SqL.of upd_same
  refine Or.inl ⟨⟨_, hc⟩, fun D nD => lc_mapL (fun x => x) hc nD (by rw [List.length_map]; omega) (fun x H2 Q2 hm s k => ?_) (fun H2 s3 hD => ?_)⟩
  · obtain ⟨i, _, rfl⟩ := List.mem_map.mp hm
    exact k H2 (Same.refl _)
  · rw [List.map_id'] at hD
    have sl := (s2.trans s3) l _ upd_same
    refine ⟨!(ns.map V.int).isEmpty, .inl ⟨_, SqL.of hD, rfl⟩, ?_⟩
    cases ns with
    | nil =>
      refine ⟨le1, fun z nz => ?_⟩
      have s4 := same_upd (o := .lst [.int 0]) nz
      refine Or.inl ⟨l, z, [.int 0], [.int 0], rfl, rfl, s4 _ _ sl, upd_same, le2, fun p np => ?_⟩
      exact q p _ 0 (((s1.trans (s2.trans s3)).trans s4).trans (same_upd np)) (((s1.trans (s2.trans s3)).trans s4).free np) ⟨[0, 0], upd_same, rfl⟩ (by decide)
    | cons i r =>
      refine Or.inl ⟨l, D, [.int 0], _, rfl, rfl, sl, hD, Nat.le_trans (by simp at hl ⊢; omega : _ ≤ 100000) (by decide), fun p np => ?_⟩
      exact q p _ r.length ((s1.trans (s2.trans s3)).trans (same_upd np)) ((s1.trans (s2.trans s3)).free np) ⟨0 :: i :: r, upd_same, by simp⟩ (by simp at hl; omega)
def penD (z : Pen) : PyData := .tuple (z.ns.map PyData.int)
theorem dp_pen {K : PySem.W.Frag} {H : Hp} {p : Addr} {z : Pen} (h : SqT K H p z.vs) : Dp K H (.ref p) (penD z) := .tup h (.cons (.int _) (.cons (.int _) (.cons (.int _) (.cons (.int _) (.cons (.int _) (.cons (.int _) .nil))))))
theorem penD_shaped (z : Pen) : SeqAt.shaped (penD z) = true := rfl
theorem penD_eq (z : Pen) : PyData.eqv (penD z) (penD z) = true := by simp [penD, Pen.ns, PyData.eqv, PyData.eqvAll]
theorem SB.tup {K : PySem.W.Frag} {p a : Addr} {n : Nat} {xs : List V} {H H' : Hp} (d : Drew p n H H') (hP : Pool H p n) (h : SqT K H a xs) : SqT K H' a xs := by
  have ne : ∀ o, H a = some o → (∀ ys, o ≠ .lst ys) → a ≠ p := fun o e k z => by
    obtain ⟨ns, h1, _⟩ := hP
    rw [z, h1] at e
    exact k _ (Option.some.inj e).symm
  rcases h with (h | ⟨o, h⟩) | h
  · exact .inl (.inl (d.sb _ _ (ne _ h fun _ e => by cases e) h))
  · exact .inl (.inr ⟨o, d.sb _ _ (ne _ h fun _ e => by cases e) h⟩)
  · exact .inr h
def pLaw (K : PySem.W.Frag) : V → Hp → VK → Prop := fun a H Q => ∃ (s : Addr) (ns : List Int), a = .ref s ∧ SqL K H s (ns.map V.int) ∧ ns.length ≤ 63 ∧ ∀ H', Q (.bl true) H'
theorem r_law01 {K : PySem.W.Frag} (hHome : ∀ H, SqT K H (He.ga K "HOME") (Pen.vs ⟨0, 0, 1, 0, 0, 0⟩)) {a : V} {H : Hp} {Q : VK} (h : pLaw K a H Q) :
    t_law_k01 K (sp1 (pMkPool K)) (sp2 pDraw) (sp1 pPen) (sp1 pAnyCmd) (sp2 (pRun K)) (sp1 (pIsPen K)) (sp2 (pRun K)) (dEnds Q) [some a, none, none, none, none, none] H := by
  obtain ⟨s, ns, rfl, hs, hl, q⟩ := h
  refine ⟨s, ns, rfl, hs, hl, fun p H1 n s1 np hP hn => ⟨le6, fun t nt => ?_⟩⟩
  dsimp only [gName, List.set]
  have s2 : Same H1 (upd H1 t (.tup (Pen.vs ⟨0, 0, 1, 0, 0, 0⟩))) := same_upd nt
  have hP2 := Same.pool s2 hP
  have ht : SqT K (upd H1 t (.tup (Pen.vs ⟨0, 0, 1, 0, 0, 0⟩))) t (Pen.vs ⟨0, 0, 1, 0, 0, 0⟩) := SqT.of upd_same
  refine ⟨_, _, dp_pen (hHome _), dp_pen ht, rfl, rfl, ?_⟩
  rw [penD_eq]
  obtain ⟨ms, hp, hml⟩ := id hP2
  refine ⟨_, .inl (SqL.of hp), ((ms.map V.int).length : Int) - 1, rfl, by omega, by rw [List.length_map, hml]; omega, ?_⟩
  rw [List.length_map, hml]
  refine for_range (n := ((((n + 2 : Nat) : Int) - 1)).toNat) (fun i σ H' => Pool H' p n ∧ ∃ b z y3 y4 y5, σ = [some (.ref s), some (.ref p), some (.ref b), y3, y4, y5] ∧ SqT K H' b (Pen.vs z)) ⟨hP2, t, _, none, none, none, rfl, ht⟩ (fun i σ H' hi hv => ?_) (fun σ H' hv => ?_)
  · obtain ⟨hP3, b, z, y3, y4, y5, rfl, hb⟩ := hv
    dsimp only [gName, List.set]
    refine ⟨p, n, 2, rfl, rfl, hP3, by decide, by decide, fun d H4 d0 d1 s4 => ?_⟩
    have hb4 := SB.tup (K := K) s4.drew hP3 hb
    have rest : ∀ H5 b5 z5, Pool H5 p n → SqT K H5 b5 (Pen.vs z5) → (tSeq (tAsg (cCall (sp1 pAnyCmd) (tCons (cVar 1) tNil)) (gName 4))
  (tSeq (tAsg (cCall (sp2 (pRun K)) (tCons (cVar 2) (tCons (cVar 4) tNil))) (gName 5))
  (tSeq (tIfS (tOr (tNot (cTest K (cCall (sp1 (pIsPen K)) (tCons (cVar 5) tNil)))) (cB (tOp (cNe K) (cVar 5) (cCall (sp2 (pRun K)) (tCons (cVar 2) (tCons (cVar 4) tNil)))))) (tRet (tC (.bl false))) tNext)
  (tAsg (cVar 5) (gName 2))))) { nx := fun σ H' => Pool H' p n ∧ ∃ b z y3 y4 y5, σ = [some (.ref s), some (.ref p), some (.ref b), y3, y4, y5] ∧ SqT K H' b (Pen.vs z), rt := Q, bk := fun _ H' => Q (.bl true) H', ct := fun σ H' => Pool H' p n ∧ ∃ b z y3 y4 y5, σ = [some (.ref s), some (.ref p), some (.ref b), y3, y4, y5] ∧ SqT K H' b (Pen.vs z) } [some (.ref s), some (.ref p), some (.ref b5), some (.int (0 + (i : Nat))), y4, y5] H5 := fun H5 b5 z5 hP5 hb5 => by
      refine ⟨p, n, rfl, hP5, fun c H6 m d6 hc ok => ?_⟩
      have hb6 := SB.tup (K := K) d6 hP5 hb5
      dsimp only [gName, List.set]
      refine ⟨b5, c, z5, m, rfl, rfl, hb6, SqT.of hc, ok, fun u H7 s7 hu => ?_⟩
      dsimp only [gName, List.set]
      refine ⟨some (m.run z5).vs, seen_pen (SqT.of hu), fun H8 s8 => ?_⟩
      rw [show penB (some (m.run z5).vs) = true from rfl]
      refine ⟨b5, c, z5, m, rfl, rfl, Same.tup (s7.trans s8) hb6, SqT.of ((s7.trans s8) _ _ hc), ok, fun v H9 s9 hv9 => ?_⟩
      refine ⟨_, _, dp_pen (SqT.of ((s8.trans s9) _ _ hu)), dp_pen (SqT.of hv9), rfl, rfl, ?_⟩
      rw [penD_eq]
      exact ⟨Same.pool ((s7.trans s8).trans s9) d6.pool, u, _, _, _, _, rfl, SqT.of ((s8.trans s9) _ _ hu)⟩
    refine if2 (fun e => ?_) (fun e => ?_)
    · exact ⟨p, n, rfl, s4.pool, fun t5 H5 z5 _ d5 h5 => rest H5 t5 z5 d5.pool (SqT.of h5)⟩
    · exact rest H4 b z s4.pool hb4
  · exact q _
end PH

namespace PH
open PySem PySem.Spec PyProof.Rows L2
def tupAtB (K : PySem.W.Frag) (a : Addr) (vs : List V) : Bool := match K.lookup a with
  | some ⟨.type c, _, .seq its _, _⟩ => decide (c = "tuple") && (decide (its.size ≤ sizeLine) && He.relAll vs its.toList)
  | _ => false
theorem tupAtB_ok {K : PySem.W.Frag} {a : Addr} {vs : List V} (h : tupAtB K a vs = true) (H : Hp) : SqT K H a vs := by
  unfold tupAtB at h
  cases q : K.lookup a with
  | none => rw [q] at h; cases h
  | some o =>
    obtain ⟨oc, od, dt, osl⟩ := o
    rw [q] at h
    cases oc with
    | type c =>
      cases dt with
      | seq its n =>
        obtain ⟨h1, h2⟩ := He.ba (show (decide (c = "tuple") && (decide (its.size ≤ sizeLine) && He.relAll vs its.toList)) = true from h)
        obtain ⟨h3, h4⟩ := He.ba h2
        exact .inr ⟨_, its, n, q, congrArg Value.type (of_decide_eq_true h1), rfl, of_decide_eq_true h3, He.relAll_ok h4⟩
      | _ => cases h
    | _ => cases dt <;> cases h
/-- the keys that a table has -/
theorem SaysT_dic {fa : List He.Fa} {fn : List He.DefD} {ts : List He.Tab} {w : World} {K : PySem.W.Frag} (c : He.SaysT fa fn ts w K) (i : Nat) {t : He.Tab} (h : ts[i]? = some t := by rfl) : He.dicW K (t.1 K) = some (He.keysIn w.params t.2) := by
  have e : ts.map (fun t => He.dicW K (t.1 K)) = ts.map fun t => some (He.keysIn w.params t.2) := congrArg (fun z : He.AlT => z.2) c
  have e2 : (ts.map fun t => He.dicW K (t.1 K))[i]? = (ts.map fun t => some (He.keysIn w.params t.2))[i]? := by rw [e]
  rw [List.getElem?_map, List.getElem?_map, h] at e2
  exact Option.some.inj e2
theorem keys_miss {P : Params} {z : Str} : ∀ {l : List DictEntry} {ks : List Str}, l.map He.keyOf = He.keysIn P ks → z ∉ ks → (l.find? (·.key.isStr z) = none) ∧ l.any (·.refKey) = false
  | [], _, _, _ => ⟨rfl, rfl⟩
  | e :: r, [], h, _ => by cases h
  | e :: r, k :: ks, h, hz => by
    have h1 : He.keyOf e :: r.map He.keyOf = some (k, PyData.keyHash P k) :: He.keysIn P ks := h
    injection h1 with h2 h3
    obtain ⟨i1, i2⟩ := keys_miss h3 (fun m => hz (List.mem_cons_of_mem _ m))
    unfold He.keyOf at h2
    split at h2
    · rename_i x t q
      obtain ⟨h5, h6⟩ := Prod.mk.inj (Option.some.inj h2)
      have nz : e.key.isStr z = false := by
        rw [q]
        show decide (x = z) = false
        exact decide_eq_false fun e => hz (by rw [← e, h5]; exact List.mem_cons_self ..)
      constructor
      · rw [List.find?_cons, nz]; exact i1
      · rw [List.any_cons, i2, Bool.or_false]
        show e.refKey = false
        unfold DictEntry.refKey
        rw [q]
    · cases h2
theorem nsIn_miss {K : PySem.W.Frag} {P : Params} {a : Addr} {ks : List Str} {z : Str} (h : He.dicW K a = some (He.keysIn P ks)) (hz : z ∉ ks) : PySem.W.nsIn K a z = some none := by
  unfold He.dicW at h
  cases q : K.lookup a with
  | none => rw [q] at h; cases h
  | some o =>
    obtain ⟨oc, od, dt, osl⟩ := o
    rw [q] at h
    cases oc with
    | type c =>
      cases od with
      | none =>
        cases dt with
        | dict es n =>
          have h1 : (match decide (c = "dict") && (osl.isEmpty && !(a == sysModules)) with
            | true => some (es.toList.map He.keyOf)
            | false => none) = some (He.keysIn P ks) := h
          cases y : decide (c = "dict") && (osl.isEmpty && !(a == sysModules)) with
          | false => rw [y] at h1; cases h1
          | true =>
            rw [y] at h1
            obtain ⟨i1, i2⟩ := keys_miss (Option.some.inj h1) hz
            unfold PySem.W.nsIn
            rw [q]
            show (match es.toList.find? (·.key.isStr z) with | some e => some (some e.val) | none => if es.toList.any (·.refKey) then none else some none) = some none
            rw [i1, i2]
            rfl
        | _ => cases h
      | some b => cases dt <;> cases h
    | _ => cases od <;> cases dt <;> cases h
def limB (K : PySem.W.Frag) : Bool := limits.all fun q => He.eqO (PySem.W.nsIn K (He.ga K "LIMITS") q.1) (some (some (.ref (limAt K q.1)))) && tupAtB K (limAt K q.1) [.int (q.2.1 : Nat), .int q.2.2.1, .int q.2.2.2]
def limTab : He.Tab := (fun K => He.ga K "LIMITS", limits.map (·.1))
theorem lookup_mem' {κ β : Type} [BEq κ] [LawfulBEq κ] {z : κ} {v : β} : ∀ {l : List (κ × β)}, l.lookup z = some v → (z, v) ∈ l
  | [], h => by cases h
  | (k, u) :: r, h => by
    rw [List.lookup_cons] at h
    cases e : z == k with
    | true =>
      rw [e] at h
      have e2 : z = k := eq_of_beq e
      have e3 : u = v := Option.some.inj h
      rw [e2, e3]
      exact List.mem_cons_self ..
    | false =>
      rw [e] at h
      exact List.mem_cons_of_mem _ (lookup_mem' h)
theorem lookup_none {κ β : Type} [BEq κ] [LawfulBEq κ] {z : κ} : ∀ {l : List (κ × β)}, l.lookup z = none → z ∉ l.map (·.1)
  | [], _ => by simp
  | (k, u) :: r, h => by
    rw [List.lookup_cons] at h
    cases e : z == k with
    | true => rw [e] at h; cases h
    | false =>
      rw [e] at h
      have ne : z ≠ k := by simpa using e
      intro m
      rcases List.mem_cons.mp m with m | m
      · exact ne m
      · exact lookup_none h m
theorem lim_ok {K : PySem.W.Frag} {P : Params} (h : limB K = true) (d : He.dicW K (He.ga K "LIMITS") = some (He.keysIn P (limits.map (·.1)))) : Lim K where
  pos := fun z m lo hi e => by
    obtain ⟨h1, h2⟩ := He.ba (List.all_eq_true.mp h (z, m, lo, hi) (lookup_mem' e))
    exact ⟨He.eqO_ok h1, tupAtB_ok h2⟩
  neg := fun z e => nsIn_miss d (lookup_none e)
theorem sp1_e {p : V → Hp → VK → Prop} {vs : List V} {H : Hp} {Q : VK} {E : XK} (h : sp1 p vs H Q E) : ∃ a, vs = [a] ∧ p a H Q := by
  match vs, h with
  | [a], h => exact ⟨a, rfl, h⟩
theorem sp2_e {p : V → V → Hp → VK → Prop} {vs : List V} {H : Hp} {Q : VK} {E : XK} (h : sp2 p vs H Q E) : ∃ a b, vs = [a, b] ∧ p a b H Q := by
  match vs, h with
  | [a, b], h => exact ⟨a, b, rfl, h⟩
theorem sp3_e {p : V → V → V → Hp → VK → Prop} {vs : List V} {H : Hp} {Q : VK} {E : XK} (h : sp3 p vs H Q E) : ∃ a b c, vs = [a, b, c] ∧ p a b c H Q := by
  match vs, h with
  | [a, b, c], h => exact ⟨a, b, c, rfl, h⟩
theorem sp0_e {p : Hp → VK → Prop} {vs : List V} {H : Hp} {Q : VK} {E : XK} (h : sp0 p vs H Q E) : vs = [] ∧ p H Q := by
  match vs, h with
  | [], h => exact ⟨rfl, h⟩
/-- a def's object is one -/
theorem FunD_fd {K : PySem.W.Frag} {x q : Str} {pa : Arguments} {bo : List Stmt} {sc : Scope} {dv : List V} {kw : List (Str × V)} {f : Addr} {fd : FuncData} (F : FunD K x q pa bo sc dv kw f fd) : ∃ oc od osl, K.lookup f = some ⟨oc, od, .func fd, osl⟩ := by
  obtain ⟨oc, od, dV, kV, doc, pm, an, cdv, ct, osl, _, lk, _⟩ := F.ex
  exact ⟨oc, od, osl, lk⟩
theorem law_end {P : Program} {w : World} {K : PySem.W.Frag} {mg : Str → Option Value} {k : Nat} {x : Str} {st : Stmt} {ps : List Str} {sp : Sp} (F : FnP K x st)
    (bnd : ∀ (kV doc pm : Value) (an : Option Addr) (cdv ct : Value) (us : List Value), us.length = ps.length → bindArgs (PySem.W.fnOf x x (defArgs st) (defBody st) (defScope st) .none kV doc pm an cdv ct) ⟨us, []⟩ = pure (ps.zip us))
    (ok : ∀ base, Ok P w K mg base k x ps sp) : ∃ fd, (∀ (s : Shared) (us : List Value), us.length = ps.length → BindsTo s fd ⟨us, []⟩ (ps.zip us)) ∧ ∀ base, FnOk P w K mg base CX0 k (He.ga K x) fd ps sp := by
  obtain ⟨fd, F⟩ := F
  refine ⟨fd, fun s us hl => F.bindsA bnd s us hl, fun base => ?_⟩
  obtain ⟨fd', F', _, _, _, oc', od', osl', lk'⟩ := ok base
  obtain ⟨oc, od, osl, lk⟩ := FunD_fd F
  rw [lk] at lk'
  injection lk' with e
  injection e with _ _ e3 _
  injection e3 with e4
  rw [e4]
  exact F'
end PH

namespace PH
open PySem PySem.Spec PyProof.Rows L2
def t_vector (K : PySem.W.Frag) (f_is_pen : Sp) : TS :=
  (tSeq (tIfS (tNot (cTest K (cCall f_is_pen (tCons (cVar 0) tNil)))) tNever tNext)
  (tRet (tLst (tCons (tC (.int 1)) (StX.tStar K (cVar 0) tNil)))))
def t_applied (K : PySem.W.Frag) (f_vector : Sp) : TS :=
  (tSeq (tAsg (cCall f_vector (tCons (cVar 1) tNil)) (gName 2))
  (tSeq (tAsg (tLc (iRng2 (tCons (tC (.int 1)) (tCons (tC (.int 7)) tNil))) (gName 4) tYes (tCB (c1 (cSum K)) (tCons (tLc (iRng1 (tCons (tC (.int 7)) tNil)) (gName 5) tYes (tOp rMulC (tOp (cIx K) (cVar 0) (tOp (cAdd K) (tOp rMulC (tC (.int 7)) (cVar 4)) (cVar 5))) (tOp (cIx K) (cVar 2) (cVar 5))) [5]) tNil)) [4]) (gName 3))
  (tRet (tCB (c1 (cTuple K)) (tCons (cVar 3) tNil)))))
def t_L_is_integer (K : PySem.W.Frag)  : TS :=
  (tRet (cAndV (cIsE K "int" (cVar 0)) (cNotV K (cIsE K "bool" (cVar 0)))))
def t_L_image (K : PySem.W.Frag)  : TS :=
  (tSeq (tAsg (tLst (tCons (tC (.int 1)) (tCons (tOp (cIx K) (cVar 1) (tC (.int 0))) (tCons (tOp (cIx K) (cVar 1) (tC (.int 1))) (tCons (tOp (cIx K) (cVar 1) (tC (.int 2))) (tCons (tOp (cIx K) (cVar 1) (tC (.int 3))) (tCons (tOp (cIx K) (cVar 1) (tC (.int 4))) (tCons (tOp (cIx K) (cVar 1) (tC (.int 5))) tNil)))))))) (gName 2))
  (tSeq (tAsg (tLc (iRng1 (tCons (tC (.int 7)) tNil)) (gName 4) tYes (tCB (c1 (cSum K)) (tCons (tLc (iRng1 (tCons (tC (.int 7)) tNil)) (gName 5) tYes (tOp rMulC (tOp (cIx K) (cVar 0) (tOp (cAdd K) (tOp rMulC (tC (.int 7)) (cVar 4)) (cVar 5))) (tOp (cIx K) (cVar 2) (cVar 5))) [5]) tNil)) [4]) (gName 3))
  (tRet (tTup (tCons (tOp (cIx K) (cVar 3) (tC (.int 1))) (tCons (tOp (cIx K) (cVar 3) (tC (.int 2))) (tCons (tOp (cIx K) (cVar 3) (tC (.int 3))) (tCons (tOp (cIx K) (cVar 3) (tC (.int 4))) (tCons (tOp (cIx K) (cVar 3) (tC (.int 5))) (tCons (tOp (cIx K) (cVar 3) (tC (.int 6))) tNil))))))))))
def t_L_any_matrix (K : PySem.W.Frag) (f_L_draw : Sp) (f_L_number : Sp) : TS :=
  (tSeq (tAsg (cCall f_L_draw (tCons (cVar 0) (tCons (tC (.int 4)) tNil))) (gName 1))
  (tSeq (tAsg (tLst tNil) (gName 2))
  (tSeq (tFor (iRng1 (tCons (tC (.int 49)) tNil)) (gName 3) (tSeq (tAsg (tC (.int 0)) (gName 4))
  (tSeq (tIfS (cB (tOp (cEq K) (cCall f_L_draw (tCons (cVar 0) (tCons (tC (.int 3)) tNil))) (tC (.int 0)))) (tSeq (tAsg (tOp rSubC (cCall f_L_draw (tCons (cVar 0) (tCons (tC (.int 9)) tNil))) (tC (.int 4))) (gName 4))
  (tIfS (cB (tOp (cEq K) (cVar 1) (tC (.int 0)))) (tAsg (cCall f_L_number (tCons (cVar 0) tNil)) (gName 4)) tNext)) tNext)
  (tDrop (tBM K "list" cAppend (cVar 2) (tCons (cVar 4) tNil))))))
  (tRet (cVar 2)))))
def t_law_k04 (K : PySem.W.Frag) (f_L_pool : Sp) (f_L_any_matrix : Sp) (f_L_pen : Sp) (f_applied : Sp) (f_L_is_pen : Sp) (f_L_image : Sp) (f_vector : Sp) (f_L_is_integer : Sp) : TS :=
  (tSeq (tAsg (cCall f_L_pool (tCons (cVar 0) tNil)) (gName 1))
  (tSeq (tFor (iRng1 (tCons (tOp (cAdd K) (tC (.int 1)) (tOp rFdivC (tCB (c1 (cLen K)) (tCons (cVar 1) tNil)) (tC (.int 8)))) tNil)) (gName 2) (tSeq (tAsg (cCall f_L_any_matrix (tCons (cVar 1) tNil)) (gName 3))
  (tSeq (tAsg (cCall f_L_pen (tCons (cVar 1) tNil)) (gName 4))
  (tSeq (tAsg (tCB (c1 (cList K)) (tCons (cVar 3) tNil)) (gName 5))
  (tSeq (tAsg (cCall f_applied (tCons (cVar 5) (tCons (cVar 4) tNil))) (gName 6))
  (tSeq (tIfS (tOr (tNot (cTest K (cCall f_L_is_pen (tCons (cVar 6) tNil)))) (tOr (cB (tOp (cNe K) (cVar 6) (cCall f_L_image (tCons (cVar 3) (tCons (cVar 4) tNil))))) (cB (tOp (cNe K) (cVar 5) (cVar 3))))) (tRet (tC (.bl false))) tNext)
  (tSeq (tAsg (cCall f_vector (tCons (cVar 4) tNil)) (gName 7))
  (tSeq (tIfS (tOr (tNot (cTest K (cIsE K "list" (cVar 7)))) (cB (tOp (cNe K) (cVar 7) (tOp (cAdd K) (tLst (tCons (tC (.int 1)) tNil)) (tCB (c1 (cList K)) (tCons (cVar 4) tNil)))))) (tRet (tC (.bl false))) tNext)
  (tSeq (tFor (iSeq K (cVar 7)) (gName 8) (tIfS (tNot (cTest K (cCall f_L_is_integer (tCons (cVar 8) tNil)))) (tRet (tC (.bl false))) tNext))
  (tSeq (tAsg (tC (.int 7)) (gSub (cVar 7) (tC (.int 0)) cSetL))
  (tIfS (cB (tOp (cNe K) (cCall f_vector (tCons (cVar 4) tNil)) (tOp (cAdd K) (tLst (tCons (tC (.int 1)) tNil)) (tCB (c1 (cList K)) (tCons (cVar 4) tNil))))) (tRet (tC (.bl false))) tNext)))))))))))
  (tRet (tC (.bl true)))))
end PH

namespace PH
open PySem PySem.Spec PyProof.Rows L2
def t_composed (K : PySem.W.Frag)  : TS :=
  (tSeq (tAsg (tLst tNil) (gName 2))
  (tSeq (tFor (iRng1 (tCons (tC (.int 7)) tNil)) (gName 3) (tSeq (tAsg (tLst (tCons (tC (.int 0)) (tCons (tC (.int 0)) (tCons (tC (.int 0)) (tCons (tC (.int 0)) (tCons (tC (.int 0)) (tCons (tC (.int 0)) (tCons (tC (.int 0)) tNil)))))))) (gName 4))
  (tSeq (tFor (iRng1 (tCons (tC (.int 7)) tNil)) (gName 5) (tSeq (tAsg (tOp (cIx K) (cVar 1) (tOp (cAdd K) (tOp rMulC (tC (.int 7)) (cVar 3)) (cVar 5))) (gName 6))
  (tIfS (cB (tOp (cNe K) (cVar 6) (tC (.int 0)))) (tAsg (tLc (iZip K (tCons (cVar 4) (tCons (tSl (cSl K) (cVar 0) (cPart (tOp rMulC (tC (.int 7)) (cVar 5))) (cPart (tOp (cAdd K) (tOp rMulC (tC (.int 7)) (cVar 5)) (tC (.int 7))))) tNil))) (gTup K 2 (gCons (gName 7) (gCons (gName 8) gNil))) tYes (tOp (cAdd K) (cVar 7) (tOp rMulC (cVar 6) (cVar 8))) [7, 8]) (gName 4)) tNext)))
  (tAsg (tOp (cAdd K) (cVar 2) (cVar 4)) (gName 2)))))
  (tRet (cVar 2))))
def t_L_is_matrix (K : PySem.W.Frag) (f_L_is_row : Sp) : TS :=
  (tRet (cAndV (cIsE K "list" (cVar 0)) (cCall f_L_is_row (tCons (cVar 0) (tCons (tC (.int 49)) tNil)))))
def t_L_times (K : PySem.W.Frag)  : TS :=
  (tSeq (tAsg (tLst tNil) (gName 2))
  (tSeq (tFor (iRng1 (tCons (tC (.int 7)) tNil)) (gName 3) (tFor (iRng1 (tCons (tC (.int 7)) tNil)) (gName 4) (tDrop (tBM K "list" cAppend (cVar 2) (tCons (tCB (c1 (cSum K)) (tCons (tLc (iRng1 (tCons (tC (.int 7)) tNil)) (gName 5) tYes (tOp rMulC (tOp (cIx K) (cVar 1) (tOp (cAdd K) (tOp rMulC (tC (.int 7)) (cVar 3)) (cVar 5))) (tOp (cIx K) (cVar 0) (tOp (cAdd K) (tOp rMulC (tC (.int 7)) (cVar 5)) (cVar 4)))) [5]) tNil)) tNil)))))
  (tRet (cVar 2))))
def t_L_good (K : PySem.W.Frag) (f_composed : Sp) (f_L_is_matrix : Sp) (f_L_times : Sp) : TS :=
  (tSeq (tAsg (tCB (c1 (cList K)) (tCons (cVar 0) tNil)) (gName 2))
  (tSeq (tAsg (tCB (c1 (cList K)) (tCons (cVar 1) tNil)) (gName 3))
  (tSeq (tAsg (cCall f_composed (tCons (cVar 2) (tCons (cVar 3) tNil))) (gName 4))
  (tRet (cAndV (cCall f_L_is_matrix (tCons (cVar 4) tNil)) (cAndV (tOp (cEq K) (cVar 4) (cCall f_L_times (tCons (cVar 0) (tCons (cVar 1) tNil)))) (cAndV (tOp (cEq K) (cVar 2) (cVar 0)) (tOp (cEq K) (cVar 3) (cVar 1)))))))))
def t_law_k05 (K : PySem.W.Frag) (f_L_pool : Sp) (f_L_any_matrix : Sp) (f_L_good : Sp) (f_composed : Sp) (f_L_times : Sp) : TS :=
  (tSeq (tAsg (cCall f_L_pool (tCons (cVar 0) tNil)) (gName 1))
  (tSeq (tAsg (cCall f_L_any_matrix (tCons (cVar 1) tNil)) (gName 2))
  (tSeq (tAsg (cCall f_L_any_matrix (tCons (cVar 1) tNil)) (gName 3))
  (tSeq (tAsg (cCall f_L_any_matrix (tCons (cVar 1) tNil)) (gName 4))
  (tSeq (tAsg (tLc (iRng1 (tCons (tC (.int 49)) tNil)) (gName 9) tYes (tCB (c1 cInt) (tCons (tOp (cEq K) (tOp rModC (cVar 9) (tC (.int 8))) (tC (.int 0))) tNil)) [9]) (gName 5))
  (tSeq (tFor (iSeq K (tLst (tCons (tTup (tCons (cVar 2) (tCons (cVar 3) tNil))) (tCons (tTup (tCons (cVar 3) (tCons (cVar 2) tNil))) (tCons (tTup (tCons (cVar 3) (tCons (cVar 4) tNil))) (tCons (tTup (tCons (cVar 2) (tCons (cVar 5) tNil))) (tCons (tTup (tCons (cVar 5) (tCons (cVar 2) tNil))) (tCons (tTup (tCons (cVar 4) (tCons (cVar 4) tNil))) tNil)))))))) (gName 6) (tIfS (tNot (cTest K (cCall f_L_good (tCons (tOp (cIx K) (cVar 6) (tC (.int 0))) (tCons (tOp (cIx K) (cVar 6) (tC (.int 1))) tNil))))) (tRet (tC (.bl false))) tNext))
  (tSeq (tIfS (tOr (cB (tOp (cNe K) (cCall f_composed (tCons (tCB (c1 (cList K)) (tCons (cVar 2) tNil)) (tCons (tCB (c1 (cList K)) (tCons (cVar 5) tNil)) tNil))) (cVar 2))) (cB (tOp (cNe K) (cCall f_composed (tCons (tCB (c1 (cList K)) (tCons (cVar 5) tNil)) (tCons (tCB (c1 (cList K)) (tCons (cVar 2) tNil)) tNil))) (cVar 2)))) (tRet (tC (.bl false))) tNext)
  (tSeq (tIfS (cB (tOp (cNe K) (cCall f_composed (tCons (cVar 2) (tCons (cVar 2) tNil))) (cCall f_L_times (tCons (cVar 2) (tCons (cVar 2) tNil))))) (tRet (tC (.bl false))) tNext)
  (tSeq (tAsg (cCall f_composed (tCons (cCall f_composed (tCons (cVar 2) (tCons (cVar 3) tNil))) (tCons (cVar 4) tNil))) (gName 7))
  (tSeq (tAsg (cCall f_composed (tCons (cVar 2) (tCons (cCall f_composed (tCons (cVar 3) (tCons (cVar 4) tNil))) tNil))) (gName 8))
  (tRet (tOp (cEq K) (cVar 7) (cVar 8)))))))))))))
end PH

namespace PH
open PySem PySem.Spec PyProof.Rows L2
def t_identity (K : PySem.W.Frag)  : TS :=
  (tRet (tLc (iRng1 (tCons (tC (.int 49)) tNil)) (gName 0) tYes (tCB (c1 cInt) (tCons (tOp (cEq K) (tOp rModC (cVar 0) (tC (.int 8))) (tC (.int 0))) tNil)) [0]))
def t_kept_matrix (K : PySem.W.Frag) (f_identity : Sp) : TS :=
  (tSeq (tAsg (tOp (cIx K) (cVar 0) (tC (.int 0))) (gName 1))
  (tSeq (tAsg (tLc (iSeq K (tSl (cSl K) (cCall f_identity tNil) (cPart (tC (.int 7))) (cPart (tC (.int 35))))) (gName 3) tYes (tOp rMulC (cVar 1) (cVar 3)) [3]) (gName 2))
  (tRet (tOp (cAdd K) (tOp (cAdd K) (tSl (cSl K) (cVar 0) tNoPart (cPart (tC (.int 7)))) (cVar 2)) (tSl (cSl K) (cVar 0) (cPart (tC (.int 35))) tNoPart)))))
def t_L_due (K : PySem.W.Frag)  : TS :=
  (tSeq (tAsg (tLst tNil) (gName 1))
  (tSeq (tFor (iRng1 (tCons (tC (.int 7)) tNil)) (gName 2) (tFor (iRng1 (tCons (tC (.int 7)) tNil)) (gName 3) (tIfS (tOr (cB (tOp (cEq K) (cVar 2) (tC (.int 0)))) (cB (tOp rGtC (cVar 2) (tC (.int 4))))) (tDrop (tBM K "list" cAppend (cVar 1) (tCons (tOp (cIx K) (cVar 0) (tOp (cAdd K) (tOp rMulC (tC (.int 7)) (cVar 2)) (cVar 3))) tNil))) (tDrop (tBM K "list" cAppend (cVar 1) (tCons (tOp rMulC (tOp (cIx K) (cVar 0) (tC (.int 0))) (tCB (c1 cInt) (tCons (tOp (cEq K) (cVar 2) (cVar 3)) tNil))) tNil))))))
  (tRet (cVar 1))))
def t_law_k06 (K : PySem.W.Frag) (f_L_pool : Sp) (f_L_any_matrix : Sp) (f_L_draw : Sp) (f_kept_matrix : Sp) (f_L_is_matrix : Sp) (f_L_due : Sp) : TS :=
  (tSeq (tAsg (cCall f_L_pool (tCons (cVar 0) tNil)) (gName 1))
  (tSeq (tAsg (cCall f_L_any_matrix (tCons (cVar 1) tNil)) (gName 2))
  (tSeq (tAsg (cCall f_L_any_matrix (tCons (cVar 1) tNil)) (gName 3))
  (tSeq (tAsg (tOp rSubC (cCall f_L_draw (tCons (cVar 1) (tCons (tC (.int 19)) tNil))) (tC (.int 9))) (gName 4))
  (tSeq (tAsg (tLc (iRng1 (tCons (tC (.int 49)) tNil)) (gName 11) tYes (tOp (cAdd K) (tOp (cIx K) (cVar 2) (cVar 11)) (tOp rMulC (cVar 4) (tOp (cIx K) (cVar 3) (cVar 11)))) [11]) (gName 5))
  (tSeq (tFor (iSeq K (tLst (tCons (cVar 2) (tCons (cVar 3) (tCons (cVar 5) (tCons (tLc (iRng1 (tCons (tC (.int 49)) tNil)) (gName 11) tYes (tC (.int 0)) [11]) tNil)))))) (gName 6) (tSeq (tAsg (tCB (c1 (cList K)) (tCons (cVar 6) tNil)) (gName 7))
  (tSeq (tAsg (cCall f_kept_matrix (tCons (cVar 7) tNil)) (gName 8))
  (tSeq (tIfS (tOr (tNot (cTest K (cCall f_L_is_matrix (tCons (cVar 8) tNil)))) (tOr (cB (tOp (cNe K) (cVar 8) (cCall f_L_due (tCons (cVar 6) tNil)))) (cB (tOp (cNe K) (cVar 7) (cVar 6))))) (tRet (tC (.bl false))) tNext)
  (tIfS (cB (tOp (cNe K) (cCall f_kept_matrix (tCons (cVar 8) tNil)) (cCall f_L_due (tCons (cVar 6) tNil)))) (tRet (tC (.bl false))) tNext)))))
  (tSeq (tAsg (cCall f_kept_matrix (tCons (cVar 2) tNil)) (gName 9))
  (tSeq (tAsg (cCall f_kept_matrix (tCons (cVar 3) tNil)) (gName 10))
  (tRet (tOp (cEq K) (cCall f_kept_matrix (tCons (cVar 5) tNil)) (tLc (iRng1 (tCons (tC (.int 49)) tNil)) (gName 11) tYes (tOp (cAdd K) (tOp (cIx K) (cVar 9) (cVar 11)) (tOp rMulC (cVar 4) (tOp (cIx K) (cVar 10) (cVar 11)))) [11])))))))))))
end PH

namespace PH
open PySem PySem.Spec PyProof.Rows L2
def Ev (te : TE) (σ : L2.St) (H : Hp) (v : V) : Prop := ∀ H2 Q, Same H H2 → (∀ H3, Same H2 H3 → Q v H3) → te σ H2 Q
/-- a new list, a new tuple -/
def EvL (te : TE) (σ : L2.St) (H : Hp) (xs : List V) : Prop := ∀ H2 Q, Same H H2 → (∀ p H3, H2 p = none → Same H2 H3 → H3 p = some (.lst xs) → Q (.ref p) H3) → te σ H2 Q
def EvU (te : TE) (σ : L2.St) (H : Hp) (xs : List V) : Prop := ∀ H2 Q, Same H H2 → (∀ p H3, H2 p = none → Same H2 H3 → H3 p = some (.tup xs) → Q (.ref p) H3) → te σ H2 Q
def EvB (tt : TT) (σ : L2.St) (H : Hp) (b : Bool) : Prop := ∀ H2 Q, Same H H2 → (∀ H3, Same H2 H3 → Q b H3) → tt σ H2 Q
def EvA (ta : TA) (σ : L2.St) (H : Hp) (vs : List V) : Prop := ∀ H2 Q, Same H H2 → (∀ H3, Same H2 H3 → Q vs H3) → ta σ H2 Q
section
variable {K : PySem.W.Frag} {σ : L2.St} {H H' : Hp} {ta tb te : TE} {v x y : V} {i j : Int} {p q : Addr} {xs ys : List V}
theorem Ev.mono (s : Same H H') (h : Ev te σ H v) : Ev te σ H' v := fun H2 Q s2 k => h H2 Q (s.trans s2) k
theorem EvL.mono (s : Same H H') (h : EvL te σ H xs) : EvL te σ H' xs := fun H2 Q s2 k => h H2 Q (s.trans s2) k
theorem ev_var {n : Nat} (h : sl σ n = some v) : Ev (cVar n) σ H v := fun H2 Q s k => by
  unfold cVar
  rw [h]
  exact k H2 (Same.refl _)
theorem ev_c : Ev (tC v) σ H v := fun H2 Q s k => k H2 (Same.refl _)
theorem ev_op {r : R2} {z : V} (ha : Ev ta σ H x) (hb : Ev tb σ H y) (hr : ∀ H2 Q, Same H H2 → (∀ H3, Same H2 H3 → Q z H3) → r x y H2 Q) : Ev (tOp r ta tb) σ H z := fun H2 Q s k =>
  ha H2 _ s fun H3 s3 => hb H3 _ (s.trans s3) fun H4 s4 => hr H4 Q ((s.trans s3).trans s4) fun H5 s5 => k H5 ((s3.trans s4).trans s5)
theorem ev_add (ha : Ev ta σ H (.int i)) (hb : Ev tb σ H (.int j)) : Ev (tOp (cAdd K) ta tb) σ H (.int (i + j)) := ev_op ha hb fun H2 Q s k => k H2 (Same.refl _)
theorem ev_sub (ha : Ev ta σ H (.int i)) (hb : Ev tb σ H (.int j)) : Ev (tOp rSubC ta tb) σ H (.int (i - j)) := ev_op ha hb fun H2 Q s k => k H2 (Same.refl _)
theorem ev_mul (ha : Ev ta σ H (.int i)) (hb : Ev tb σ H (.int j)) (h : IntMulOk i j) : Ev (tOp rMulC ta tb) σ H (.int (i * j)) := ev_op ha hb fun H2 Q s k => ⟨h, k H2 (Same.refl _)⟩
theorem ev_mod (ha : Ev ta σ H (.int i)) (hb : Ev tb σ H (.int j)) (h : 0 < j) : Ev (tOp rModC ta tb) σ H (.int (i % j)) := ev_op ha hb fun H2 Q s k => ⟨h, k H2 (Same.refl _)⟩
theorem ev_neg (ha : Ev ta σ H (.int i)) : Ev (tUn cNeg ta) σ H (.int (-i)) := fun H2 Q s k => ha H2 _ s fun H3 s3 => k H3 s3
theorem ev_eq (ha : Ev ta σ H (.int i)) (hb : Ev tb σ H (.int j)) : Ev (tOp (cEq K) ta tb) σ H (.bl (decide (i = j))) := ev_op ha hb fun H2 Q s k => k H2 (Same.refl _)
theorem ev_ixL (ha : Ev ta σ H (.ref p)) (hb : Ev tb σ H (.int i)) (hx : SqL K H p xs) (h : atI xs i = some v) : Ev (tOp (cIx K) ta tb) σ H v := ev_op ha hb fun H2 Q s k => ⟨xs, v, .inl (s.seq hx), h, k H2 (Same.refl _)⟩
theorem ev_ixT (ha : Ev ta σ H (.ref p)) (hb : Ev tb σ H (.int i)) (hx : SqT K H p xs) (h : atI xs i = some v) : Ev (tOp (cIx K) ta tb) σ H v := ev_op ha hb fun H2 Q s k => ⟨xs, v, .inr (Same.tup s hx), h, k H2 (Same.refl _)⟩
theorem ev_int (ha : Ev ta σ H (.int i)) : Ev (tCB (c1 cInt) (tCons ta tNil)) σ H (.int i) := fun H2 Q s k => ha H2 _ s fun H3 s3 => k H3 s3
theorem ev_intB {b : Bool} (ha : Ev ta σ H (.bl b)) : Ev (tCB (c1 cInt) (tCons ta tNil)) σ H (.int (if b then 1 else 0)) := fun H2 Q s k => ha H2 _ s fun H3 s3 => k H3 s3
theorem ev_lenL (ha : Ev ta σ H (.ref p)) (hx : SqL K H p xs) : Ev (tCB (c1 (cLen K)) (tCons ta tNil)) σ H (.int xs.length) := fun H2 Q s k => ha H2 _ s fun H3 s3 => ⟨xs, .inl ((s.trans s3).seq hx), k H3 s3⟩
theorem ev_lenT (ha : Ev ta σ H (.ref p)) (hx : SqT K H p xs) : Ev (tCB (c1 (cLen K)) (tCons ta tNil)) σ H (.int xs.length) := fun H2 Q s k => ha H2 _ s fun H3 s3 => ⟨xs, .inr (Same.tup (s.trans s3) hx), k H3 s3⟩
theorem ea_nil : EvA tNil σ H [] := fun H2 Q s k => k H2 (Same.refl _)
theorem ea_cons {t : TA} {vs : List V} (ha : Ev ta σ H v) (hr : EvA t σ H vs) : EvA (tCons ta t) σ H (v :: vs) := fun H2 Q s k => ha H2 _ s fun H3 s3 => hr H3 _ (s.trans s3) fun H4 s4 => k H4 (s3.trans s4)
theorem el_lst {t : TA} {vs : List V} (h : EvA t σ H vs) (hz : vs.length ≤ sizeLine) : EvL (tLst t) σ H vs := fun H2 Q s k => h H2 _ s fun H3 s3 => ⟨hz, fun p np => k p _ (s3.free np) (s3.trans (same_upd np)) upd_same⟩
theorem eu_tup {t : TA} {vs : List V} (h : EvA t σ H vs) (hz : vs.length ≤ sizeLine) : EvU (tTup t) σ H vs := fun H2 Q s k => h H2 _ s fun H3 s3 => ⟨hz, fun p np => k p _ (s3.free np) (s3.trans (same_upd np)) upd_same⟩
theorem el_cut {tl th : TO} {lo hi : Option Int} (ha : Ev ta σ H (.ref p)) (hl : ∀ H2 Q, Same H H2 → (∀ H3, Same H2 H3 → Q lo H3) → tl σ H2 Q) (hh : ∀ H2 Q, Same H H2 → (∀ H3, Same H2 H3 → Q hi H3) → th σ H2 Q) (hx : SqL K H p xs) :
    EvL (tSl (cSl K) ta tl th) σ H (cutV xs lo hi) := fun H2 Q s k =>
  ha H2 _ s fun H3 s3 => hl H3 _ (s.trans s3) fun H4 s4 => hh H4 _ ((s.trans s3).trans s4) fun H5 s5 => Or.inl ⟨xs, (((s.trans s3).trans s4).trans s5).seq hx, fun p np => k p _ (((s3.trans s4).trans s5).free np) (((s3.trans s4).trans s5).trans (same_upd np)) upd_same⟩
theorem eo_none : ∀ H2 Q, Same H H2 → (∀ H3, Same H2 H3 → Q none H3) → tNoPart σ H2 Q := fun H2 Q s k => k H2 (Same.refl _)
theorem eo_some (ha : Ev ta σ H (.int i)) : ∀ H2 Q, Same H H2 → (∀ H3, Same H2 H3 → Q (some i) H3) → cPart ta σ H2 Q := fun H2 Q s k => ha H2 _ s fun H3 s3 => k H3 s3
theorem el_cutL {tl th : TO} {lo hi : Option Int} (ha : EvL ta σ H xs) (hl : ∀ H2 Q, Same H H2 → (∀ H3, Same H2 H3 → Q lo H3) → tl σ H2 Q) (hh : ∀ H2 Q, Same H H2 → (∀ H3, Same H2 H3 → Q hi H3) → th σ H2 Q) :
    EvL (tSl (cSl K) ta tl th) σ H (cutV xs lo hi) := fun H2 Q s k =>
  ha H2 _ s fun p H3 np s3 hp => hl H3 _ (s.trans s3) fun H4 s4 => hh H4 _ ((s.trans s3).trans s4) fun H5 s5 => Or.inl ⟨xs, SqL.of ((s4.trans s5) _ _ hp), fun p np => k p _ (((s3.trans s4).trans s5).free np) (((s3.trans s4).trans s5).trans (same_upd np)) upd_same⟩
theorem el_listL (ha : Ev ta σ H (.ref p)) (hx : SqL K H p xs) : EvL (tCB (c1 (cList K)) (tCons ta tNil)) σ H xs := fun H2 Q s k => ha H2 _ s fun H3 s3 => ⟨xs, .inl ((s.trans s3).seq hx), fun p np => k p _ (s3.free np) (s3.trans (same_upd np)) upd_same⟩
theorem el_listT (ha : Ev ta σ H (.ref p)) (hx : SqT K H p xs) : EvL (tCB (c1 (cList K)) (tCons ta tNil)) σ H xs := fun H2 Q s k => ha H2 _ s fun H3 s3 => ⟨xs, .inr (Same.tup (s.trans s3) hx), fun p np => k p _ (s3.free np) (s3.trans (same_upd np)) upd_same⟩
theorem eu_tuple (ha : Ev ta σ H (.ref p)) (hx : SqL K H p xs) : EvU (tCB (c1 (cTuple K)) (tCons ta tNil)) σ H xs := fun H2 Q s k => ha H2 _ s fun H3 s3 => ⟨xs, (s.trans s3).seq hx, fun p np => k p _ (s3.free np) (s3.trans (same_upd np)) upd_same⟩
/-- new + new, name + new, name + name -/
theorem el_cat (ha : EvL ta σ H xs) (hb : EvL tb σ H ys) (hz : xs.length + ys.length ≤ sizeLine) : EvL (tOp (cAdd K) ta tb) σ H (xs ++ ys) := fun H2 Q s k =>
  ha H2 _ s fun p H3 np s3 hp => hb H3 _ (s.trans s3) fun q H4 nq s4 hq => Or.inl ⟨p, q, xs, ys, rfl, rfl, s4 _ _ hp, hq, hz, fun r nr => k r _ ((s3.trans s4).free nr) ((s3.trans s4).trans (same_upd nr)) upd_same⟩
theorem el_catN (ha : EvL ta σ H xs) (hb : Ev tb σ H (.ref q)) (hq : H q = some (.lst ys)) (hz : xs.length + ys.length ≤ sizeLine) : EvL (tOp (cAdd K) ta tb) σ H (xs ++ ys) := fun H2 Q s k =>
  ha H2 _ s fun p H3 np s3 hp => hb H3 _ (s.trans s3) fun H4 s4 => Or.inl ⟨p, q, xs, ys, rfl, rfl, s4 _ _ hp, ((s.trans s3).trans s4) _ _ hq, hz, fun r nr => k r _ ((s3.trans s4).free nr) ((s3.trans s4).trans (same_upd nr)) upd_same⟩
theorem el_catNN (ha : Ev ta σ H (.ref p)) (hp : H p = some (.lst xs)) (hb : Ev tb σ H (.ref q)) (hq : H q = some (.lst ys)) (hz : xs.length + ys.length ≤ sizeLine) : EvL (tOp (cAdd K) ta tb) σ H (xs ++ ys) := fun H2 Q s k =>
  ha H2 _ s fun H3 s3 => hb H3 _ (s.trans s3) fun H4 s4 => Or.inl ⟨p, q, xs, ys, rfl, rfl, ((s.trans s3).trans s4) _ _ hp, ((s.trans s3).trans s4) _ _ hq, hz, fun r nr => k r _ ((s3.trans s4).free nr) ((s3.trans s4).trans (same_upd nr)) upd_same⟩
theorem el_catNL (ha : Ev ta σ H (.ref p)) (hp : H p = some (.lst xs)) (hb : EvL tb σ H ys) (hz : xs.length + ys.length ≤ sizeLine) : EvL (tOp (cAdd K) ta tb) σ H (xs ++ ys) := fun H2 Q s k =>
  ha H2 _ s fun H3 s3 => hb H3 _ (s.trans s3) fun q H4 nq s4 hq => Or.inl ⟨p, q, xs, ys, rfl, rfl, ((s.trans s3).trans s4) _ _ hp, hq, hz, fun r nr => k r _ ((s3.trans s4).free nr) ((s3.trans s4).trans (same_upd nr)) upd_same⟩
theorem el_range {m : Int} {n c : Nat} (f : Nat → V) (hm : m = (n : Int)) (hn : n ≤ 100000) (he : ∀ j, j < n → Ev te (σ.set c (some (.int (0 + (j : Nat))))) H (f j)) : EvL (tLc (iRng1 (tCons (tC (.int m)) tNil)) (gName c) tYes te [c]) σ H ((List.range n).map f) := fun H2 Q s k => by
  refine ⟨m, rfl, by omega, by omega, fun D nD => ?_⟩
  rw [show m.toNat = n by omega]
  exact lc_mapR f nD hn (fun j H3 Q3 hj s3 k3 => he j hj H3 Q3 (s.trans s3) k3) (fun H3 s3 hD => k D H3 nD s3 hD)
theorem lc_mapR2 {lo : Int} {n : Nat} {i : Nat} {te : TE} {σ : L2.St} {H : Hp} {D : Addr} {Qd : Hp → Prop} (f : Nat → V) (nD : H D = none) (hl : n ≤ 100000)
    (he : ∀ j H2 Q, j < n → Same H H2 → (∀ H3, Same H2 H3 → Q (f j) H3) → te (σ.set i (some (.int (lo + (j : Nat))))) H2 Q) (hd : ∀ H2, Same H H2 → H2 D = some (.lst ((List.range n).map f)) → Qd H2) :
    ∃ W : Nat → Nat → Hp → Prop, (∃ m, W 0 m (upd H D (.lst []))) ∧ ∀ j m H, W j m H →
      ((Itr lo n).stop j H ∧ Qd H) ∨ ((Itr lo n).go j H ∧ ∃ Nx : Hp → Prop, (∀ H', Nx H' → ∃ m', m' < m ∧ W (j + 1) m' H') ∧ ∀ x H', (Itr lo n).yld j H x H' → gName i x (wipe σ [i]) H' fun σ2 H2 => wipe σ2 [i] = wipe σ [i] ∧ tYes σ2 H2 fun b H3 =>
        if b = true then te σ2 H3 fun y H4 => ∃ acc, H4 D = some (.lst acc) ∧ acc.length < sizeLine ∧ Nx (upd H4 D (.lst (acc ++ [y]))) else Nx H3) := by
  refine lc_range (fun j H' => Same H H' ∧ H' D = some (.lst ((List.range j).map f))) ⟨same_upd nD, upd_same⟩ (fun j H' hj hv => ?_) (fun H' hv => hd H' hv.1 hv.2)
  obtain ⟨s, hD⟩ := hv
  refine ⟨wipe_put σ i _, ?_⟩
  show te ((wipe σ [i]).set i (some (.int (lo + (j : Nat))))) H' _
  rw [put_put]
  refine he j H' _ hj s fun H3 s3 => ⟨_, s3 _ _ hD, sz (by rw [List.length_map, List.length_range]; omega), Same.put (s.trans s3) nD, ?_⟩
  rw [upd_same, List.range_succ, List.map_append]
  rfl
theorem el_range2 {a b : Int} {n c : Nat} (f : Nat → V) (ha : -(2 ^ 62) ≤ a ∧ a < 2 ^ 62) (hm : b = a + (n : Int)) (hb : b < 2 ^ 62) (hn : n ≤ 100000) (he : ∀ j, j < n → Ev te (σ.set c (some (.int (a + (j : Nat))))) H (f j)) :
    EvL (tLc (iRng2 (tCons (tC (.int a)) (tCons (tC (.int b)) tNil))) (gName c) tYes te [c]) σ H ((List.range n).map f) := fun H2 Q s k => by
  refine ⟨a, b, rfl, ⟨ha.1, ha.2, by omega, hb⟩, fun D nD => ?_⟩
  rw [show (b - a).toNat = n by omega]
  exact lc_mapR2 f nD hn (fun j H3 Q3 hj s3 k3 => he j hj H3 Q3 (s.trans s3) k3) (fun H3 s3 hD => k D H3 nD s3 hD)
theorem el_list {c : Nat} (f : V → V) (ha : Ev ta σ H (.ref p)) (hx : SqL K H p xs) (hl : xs.length ≤ 100000) (he : ∀ x ∈ xs, Ev te (σ.set c (some x)) H (f x)) : EvL (tLc (iSeq K ta) (gName c) tYes te [c]) σ H (xs.map f) := fun H2 Q s k =>
  ha H2 _ s fun H3 s3 => Or.inl ⟨⟨_, (s.trans s3).seq hx⟩, fun D nD => lc_mapL f ((s.trans s3).seq hx) nD hl (fun x H4 Q4 hm s4 k4 => he x hm H4 Q4 ((s.trans s3).trans s4) k4) (fun H4 s4 hD => k D H4 (s3.free nD) (s3.trans s4) hD)⟩
theorem el_listN {c : Nat} (f : V → V) (ha : EvL ta σ H xs) (hl : xs.length ≤ 100000) (he : ∀ x ∈ xs, Ev te (σ.set c (some x)) H (f x)) : EvL (tLc (iSeq K ta) (gName c) tYes te [c]) σ H (xs.map f) := fun H2 Q s k =>
  ha H2 _ s fun p H3 np s3 hp => Or.inl ⟨⟨_, SqL.of hp⟩, fun D nD => lc_mapL f (SqL.of hp) nD hl (fun x H4 Q4 hm s4 k4 => he x hm H4 Q4 ((s.trans s3).trans s4) k4) (fun H4 s4 hD => k D H4 (s3.free nD) (s3.trans s4) hD)⟩
theorem ev_sum {ns : List Int} (h : EvL te σ H (ns.map V.int)) : Ev (tCB (c1 (cSum K)) (tCons te tNil)) σ H (.int ns.sum) := fun H2 Q s k => h H2 _ s fun p H3 _ s3 hp => ⟨ns, SqL.of hp, k H3 s3⟩
end
def EvAU (ta : TA) (σ : L2.St) (H : Hp) (xss : List (List V)) : Prop := ∀ H2 Q, Same H H2 → (∀ ps H3, Same H2 H3 → Paired (fun p xs => H3 p = some (HO.tup xs)) ps xss → Q (ps.map V.ref) H3) → ta σ H2 Q
theorem Paired.heap {H H' : Hp} (s : Same H H') : ∀ {ps : List Addr} {xss : List (List V)}, Paired (fun p xs => H p = some (HO.tup xs)) ps xss → Paired (fun p xs => H' p = some (HO.tup xs)) ps xss
  | _, _, .nil => .nil
  | _, _, .cons r t => .cons (s _ _ r) (Paired.heap s t)
theorem ea_nilU {σ : L2.St} {H : Hp} : EvAU tNil σ H [] := fun H2 Q s k => k [] H2 (Same.refl _) .nil
theorem ea_consU {σ : L2.St} {H : Hp} {ta : TE} {t : TA} {xs : List V} {xss : List (List V)} (ha : EvU ta σ H xs) (hr : EvAU t σ H xss) : EvAU (tCons ta t) σ H (xs :: xss) := fun H2 Q s k =>
  ha H2 _ s fun p H3 _ s3 hp => hr H3 _ (s.trans s3) fun ps H4 s4 hps => k (p :: ps) H4 (s3.trans s4) (.cons (s4 _ _ hp) hps)
def EvLU (te : TE) (σ : L2.St) (H : Hp) (xss : List (List V)) : Prop := ∀ H2 Q, Same H H2 → (∀ l ps H3, H2 l = none → Same H2 H3 → H3 l = some (.lst (ps.map V.ref)) → Paired (fun p xs => H3 p = some (HO.tup xs)) ps xss → Q (.ref l) H3) → te σ H2 Q
theorem el_lstU {σ : L2.St} {H : Hp} {t : TA} {xss : List (List V)} (h : EvAU t σ H xss) (hz : xss.length ≤ 100000) : EvLU (tLst t) σ H xss := fun H2 Q s k =>
  h H2 _ s fun ps H3 s3 hps => ⟨Nat.le_trans (by rw [List.length_map, Paired.length hps]; exact hz) (by decide), fun l nl => k l ps _ (s3.free nl) (s3.trans (same_upd nl)) upd_same (Paired.heap (same_upd nl) hps)⟩
theorem paired_mem {α β : Type} {F : α → β → Prop} : ∀ {ps : List α} {xs : List β} {p : α}, Paired F ps xs → p ∈ ps → ∃ x ∈ xs, F p x
  | _, _, _, .nil, h => by cases h
  | _, _, _, .cons r t, h => by
    rcases List.mem_cons.mp h with e | e
    · exact ⟨_, List.mem_cons_self .., by rw [e]; exact r⟩
    · obtain ⟨x, hx, hf⟩ := paired_mem t e
      exact ⟨x, List.mem_cons_of_mem _ hx, hf⟩
section
variable {K : PySem.W.Frag} {σ : L2.St} {H : Hp} {te : TE} {v : V} {xs : List V} {i : Nat} {D : Ends} {rest : TS}
theorem st_asg (h : Ev te σ H v) (k : ∀ H3, Same H H3 → rest D (σ.set i (some v)) H3) : tSeq (tAsg te (gName i)) rest D σ H := h H _ (Same.refl _) k
theorem st_asgL (h : EvL te σ H xs) (k : ∀ p H3, H p = none → Same H H3 → H3 p = some (.lst xs) → rest D (σ.set i (some (.ref p))) H3) : tSeq (tAsg te (gName i)) rest D σ H := h H _ (Same.refl _) k
theorem st_asgU (h : EvU te σ H xs) (k : ∀ p H3, H p = none → Same H H3 → H3 p = some (.tup xs) → rest D (σ.set i (some (.ref p))) H3) : tSeq (tAsg te (gName i)) rest D σ H := h H _ (Same.refl _) k
theorem st_ret (h : Ev te σ H v) (k : ∀ H3, Same H H3 → D.rt v H3) : tRet te D σ H := h H _ (Same.refl _) k
theorem st_retL (h : EvL te σ H xs) (k : ∀ p H3, H p = none → Same H H3 → H3 p = some (.lst xs) → D.rt (.ref p) H3) : tRet te D σ H := h H _ (Same.refl _) k
theorem st_retU (h : EvU te σ H xs) (k : ∀ p H3, H p = none → Same H H3 → H3 p = some (.tup xs) → D.rt (.ref p) H3) : tRet te D σ H := h H _ (Same.refl _) k
end
def EvG (ta : TA) (σ : L2.St) (H : Hp) (P : List V → Hp → Prop) : Prop := ∀ H2 Q, Same H H2 → (∀ vs H3, Same H2 H3 → P vs H3 → Q vs H3) → ta σ H2 Q
section
variable {K : PySem.W.Frag} {σ : L2.St} {H : Hp} {ta : TE} {t : TA} {v : V} {xs : List V} {P : List V → Hp → Prop}
theorem eg_nil : EvG tNil σ H (fun vs _ => vs = []) := fun H2 Q s k => k [] H2 (Same.refl _) rfl
theorem eg_cons (ha : Ev ta σ H v) (hr : EvG t σ H P) : EvG (tCons ta t) σ H (fun vs H3 => ∃ r, vs = v :: r ∧ P r H3) := fun H2 Q s k => ha H2 _ s fun H3 s3 => hr H3 _ (s.trans s3) fun vs H4 s4 h4 => k _ H4 (s3.trans s4) ⟨vs, rfl, h4⟩
theorem eg_consL (ha : EvL ta σ H xs) (hr : EvG t σ H P) : EvG (tCons ta t) σ H (fun vs H3 => ∃ p r, vs = .ref p :: r ∧ H3 p = some (.lst xs) ∧ P r H3) := fun H2 Q s k => ha H2 _ s fun p H3 _ s3 hp => hr H3 _ (s.trans s3) fun vs H4 s4 h4 => k _ H4 (s3.trans s4) ⟨p, vs, rfl, s4 _ _ hp, h4⟩
theorem eg_consU (ha : EvU ta σ H xs) (hr : EvG t σ H P) : EvG (tCons ta t) σ H (fun vs H3 => ∃ p r, vs = .ref p :: r ∧ H3 p = some (.tup xs) ∧ P r H3) := fun H2 Q s k => ha H2 _ s fun p H3 _ s3 hp => hr H3 _ (s.trans s3) fun vs H4 s4 h4 => k _ H4 (s3.trans s4) ⟨p, vs, rfl, s4 _ _ hp, h4⟩
/-- a new list of these -/
def EvLG (te : TE) (σ : L2.St) (H : Hp) (P : List V → Hp → Prop) : Prop := ∀ H2 Q, Same H H2 → (∀ l vs H3 H4, H2 l = none → Same H2 H3 → Same H3 H4 → P vs H3 → H4 l = some (.lst vs) → Q (.ref l) H4) → te σ H2 Q
theorem el_lstG (h : EvG t σ H P) (hz : ∀ vs H3, P vs H3 → vs.length ≤ 100000) : EvLG (tLst t) σ H P := fun H2 Q s k =>
  h H2 _ s fun vs H3 s3 h3 => ⟨Nat.le_trans (hz vs H3 h3) (by decide), fun l nl => k l vs H3 _ (s3.free nl) s3 (same_upd nl) h3 upd_same⟩
end
def ForB (J : It) (g : TG) (tb : TS) (D : Ends) (σ : L2.St) (H : Hp) : Prop := ∃ W : Nat → Nat → L2.St → Hp → Prop, (∃ m, W 0 m σ H) ∧ ∀ i m σ H, W i m σ H →
  (J.stop i H ∧ D.nx σ H) ∨ (J.go i H ∧ ∃ N : L2.St → Hp → Prop, (∀ σ' H', N σ' H' → ∃ m', m' < m ∧ W (i + 1) m' σ' H') ∧ ∀ x H', J.yld i H x H' → g x σ H' fun σ2 H2 => tb { D with nx := N, ct := N, bk := D.nx } σ2 H2)
section
variable {K : PySem.W.Frag} {σ : L2.St} {H : Hp} {ta : TE} {t : TA} {p : Addr} {xs : List V} {xss : List (List V)} {D : Ends} {rest tb : TS} {g : TG}
theorem st_forU (h : EvLU ta σ H xss) (k : ∀ l ps H3, H l = none → Same H H3 → H3 l = some (.lst (ps.map V.ref)) → Paired (fun p xs => H3 p = some (HO.tup xs)) ps xss → ForB (Itl K l) g tb { D with nx := rest D } σ H3) : tSeq (tFor (iSeq K ta) g tb) rest D σ H :=
  h H _ (Same.refl _) fun l ps H3 nl s3 hl hps => Or.inl ⟨⟨_, SqL.of hl⟩, k l ps H3 nl s3 hl hps⟩
theorem st_forG {P : List V → Hp → Prop} (h : EvLG ta σ H P) (k : ∀ l vs H3 H4, H l = none → Same H H3 → Same H3 H4 → P vs H3 → H4 l = some (.lst vs) → ForB (Itl K l) g tb { D with nx := rest D } σ H4) : tSeq (tFor (iSeq K ta) g tb) rest D σ H :=
  h H _ (Same.refl _) fun l vs H3 H4 nl s3 s4 hp hl => Or.inl ⟨⟨_, SqL.of hl⟩, k l vs H3 H4 nl s3 s4 hp hl⟩
theorem st_forL (h : Ev ta σ H (.ref p)) (hx : SqL K H p xs) (k : ∀ H3, Same H H3 → ForB (Itl K p) g tb { D with nx := rest D } σ H3) : tSeq (tFor (iSeq K ta) g tb) rest D σ H :=
  h H _ (Same.refl _) fun H3 s3 => Or.inl ⟨⟨_, s3.seq hx⟩, k H3 s3⟩
theorem st_forN (h : EvL ta σ H xs) (k : ∀ l H3, H l = none → Same H H3 → H3 l = some (.lst xs) → ForB (Itl K l) g tb { D with nx := rest D } σ H3) : tSeq (tFor (iSeq K ta) g tb) rest D σ H :=
  h H _ (Same.refl _) fun l H3 nl s3 hl => Or.inl ⟨⟨_, SqL.of hl⟩, k l H3 nl s3 hl⟩
theorem st_forT (h : Ev ta σ H (.ref p)) (hx : SqT K H p xs) (k : ∀ H3, Same H H3 → ForB (Itt K p) g tb { D with nx := rest D } σ H3) : tSeq (tFor (iSeq K ta) g tb) rest D σ H :=
  h H _ (Same.refl _) fun H3 s3 => Or.inr ⟨⟨_, Same.tup s3 hx⟩, k H3 s3⟩
theorem st_forR {m : Int} {n : Nat} (h : Ev ta σ H (.int m)) (hm : m = (n : Int)) (hn : n ≤ 100000) (k : ∀ H3, Same H H3 → ForB (Itr 0 n) g tb { D with nx := rest D } σ H3) : tSeq (tFor (iRng1 (tCons ta tNil)) g tb) rest D σ H := by
  show ta σ H fun x H1 => ∃ j : Int, [x] = [V.int j] ∧ -(2 ^ 62) ≤ j ∧ j < 2 ^ 62 ∧ ForB (Itr 0 j.toNat) g tb { D with nx := rest D } σ H1
  refine h H _ (Same.refl _) fun H3 s3 => ⟨m, rfl, by omega, by omega, ?_⟩
  rw [show m.toNat = n by omega]
  exact k H3 s3
end
def dot (f : Nat → Int) : Nat → Int
  | 0 => 0
  | n + 1 => dot f n + f n
theorem dot_sum (f : Nat → Int) : ∀ n, ((List.range n).map f).sum = dot f n
  | 0 => rfl
  | n + 1 => by rw [List.range_succ, List.map_append, List.sum_append, dot_sum f n]; simp [dot]
theorem ev_dot {K : PySem.W.Frag} {σ : L2.St} {H : Hp} {te : TE} {m : Int} {n c : Nat} (f : Nat → Int) (hm : m = (n : Int)) (hn : n ≤ 100000) (he : ∀ j, j < n → Ev te (σ.set c (some (.int (0 + (j : Nat))))) H (.int (f j))) :
    Ev (tCB (c1 (cSum K)) (tCons (tLc (iRng1 (tCons (tC (.int m)) tNil)) (gName c) tYes te [c]) tNil)) σ H (.int (dot f n)) := by
  rw [← dot_sum]
  refine ev_sum ?_
  rw [List.map_map]
  exact el_range _ hm hn he
theorem mulB {a b : Nat} {i j : Int} (ha : Bd a i) (hb : Bd b j) (h0 : 0 < a) (h1 : 0 < b) (h : a + b ≤ 1000000) : IntMulOk i j := (wide_mul ha hb h0 h1 h).ok
theorem Bd.mono {a b : Nat} {i : Int} (h : Bd a i) (hab : a ≤ b) : Bd b i := Nat.lt_of_lt_of_le h (Nat.pow_le_pow_right (by decide) hab)
theorem Bd.mul {a b : Nat} {i j : Int} (ha : Bd a i) (hb : Bd b j) : Bd (a + b) (i * j) := wide_lt ha hb
theorem Bd.add {a : Nat} {i j : Int} (ha : Bd a i) (hb : Bd a j) : Bd (a + 1) (i + j) := by
  unfold Bd at *
  rw [Nat.pow_succ]
  omega
theorem Bd.neg {a : Nat} {i : Int} (ha : Bd a i) : Bd a (-i) := by
  unfold Bd at *
  rwa [Int.natAbs_neg]
theorem Bd.zero {a : Nat} : Bd a 0 := by
  show 0 < 2 ^ a
  exact Nat.two_pow_pos a
theorem Bd.dot {a : Nat} {f : Nat → Int} : ∀ {n : Nat}, (∀ j, j < n → Bd a (f j)) → (dot f n).natAbs ≤ n * 2 ^ a
  | 0, _ => by simp [PH.dot]
  | n + 1, h => by
    have h1 := Bd.dot (n := n) fun j hj => h j (by omega)
    have h2 : (f n).natAbs < 2 ^ a := h n (by omega)
    have e : PH.dot f (n + 1) = PH.dot f n + f n := rfl
    rw [e, Nat.succ_mul]
    omega
theorem Bd.dot7 {a : Nat} {f : Nat → Int} (h : ∀ j, j < 7 → Bd a (f j)) : Bd (a + 3) (PH.dot f 7) := by
  have := Bd.dot h
  have p : 0 < 2 ^ a := Nat.two_pow_pos a
  show (PH.dot f 7).natAbs < 2 ^ (a + 3)
  rw [Nat.pow_add]
  omega
def gt (M : List Int) (i : Nat) : Int := M.getD i 0
theorem gt_at {M : List Int} {i : Nat} (h : i < M.length) : (M.map V.int)[i]? = some (.int (gt M i)) := by
  rw [List.getElem?_map, List.getElem?_eq_getElem h]
  show some (V.int M[i]) = some (V.int (M.getD i 0))
  rw [List.getD_eq_getElem?_getD, List.getElem?_eq_getElem h]
  rfl
theorem atM {M : List Int} {t : Int} {n : Nat} (e : t = (n : Int)) (h : n < M.length) : atI (M.map V.int) t = some (.int (gt M n)) := by
  rw [e]
  exact atI_nat (gt_at h)
theorem gt_bd {M : List Int} {a n : Nat} (h : ∀ x ∈ M, Bd a x) : Bd a (gt M n) := by
  by_cases hn : n < M.length
  · have e : gt M n = M[n] := by
      unfold gt
      rw [List.getD_eq_getElem?_getD, List.getElem?_eq_getElem hn]
      rfl
    rw [e]
    exact h _ (List.getElem_mem hn)
  · have e : gt M n = 0 := by
      unfold gt
      rw [List.getD_eq_getElem?_getD, List.getElem?_eq_none (by omega)]
      rfl
    rw [e]
    exact Bd.zero
theorem range_gt {M : List Int} {n : Nat} (h : M.length = n) : (List.range n).map (gt M) = M := by
  apply List.ext_getElem
  · simp [h]
  · intro i h1 h2
    rw [List.getElem_map, List.getElem_range]
    unfold gt
    rw [List.getD_eq_getElem?_getD, List.getElem?_eq_getElem h2]
    rfl
end PH

namespace PH
open PySem PySem.Spec PyProof.Rows L2
def pVector (K : PySem.W.Frag) : V → Hp → VK → Prop := fun a H Q => ∃ (p : Addr) (z : Pen), a = .ref p ∧ SqT K H p z.vs ∧ ∀ t H', Same H H' → H t = none → H' t = some (.lst (((1 : Int) :: z.ns).map V.int)) → Q (.ref t) H'
theorem r_vector {K : PySem.W.Frag} {a : V} {H : Hp} {Q : VK} (h : pVector K a H Q) : t_vector K (sp1 (pIsPen K)) (dEnds Q) [some a] H := by
  obtain ⟨p, z, rfl, hz, q⟩ := h
  refine ⟨some z.vs, seen_pen hz, fun H1 s1 => ?_⟩
  refine ⟨p, z.vs, rfl, .inl (Same.tup s1 hz), le7, fun t nt => ?_⟩
  exact q t _ (s1.trans (same_upd nt)) (s1.free nt) upd_same
/-- the numbers 1 to 6 of M on the vector of z -/
def imgAt (M : List Int) (z : Pen) (i : Nat) : Int := dot (fun j => gt M (7 * i + j) * gt ((1 : Int) :: z.ns) j) 7
def imgOf (M : List Int) (z : Pen) : Pen := ⟨imgAt M z 1, imgAt M z 2, imgAt M z 3, imgAt M z 4, imgAt M z 5, imgAt M z 6⟩
/-- a matrix of numbers below 2 ^ a, to be read -/
structure IsM (K : PySem.W.Frag) (H : Hp) (p : Addr) (M : List Int) (a : Nat) : Prop where
  at_ : SqL K H p (M.map V.int)
  len : M.length = 49
  bd : ∀ x ∈ M, Bd a x
theorem IsM.same {K : PySem.W.Frag} {H H' : Hp} {p : Addr} {M : List Int} {a : Nat} (h : IsM K H p M a) (s : Same H H') : IsM K H' p M a := ⟨s.seq h.at_, h.len, h.bd⟩
theorem vec_bd {z : Pen} {b : Nat} (hb : 0 < b) (h : ∀ x ∈ z.ns, Bd b x) : ∀ x ∈ (1 : Int) :: z.ns, Bd b x := fun x hx => by
  rcases List.mem_cons.mp hx with e | e
  · rw [e]
    show 1 < 2 ^ b
    exact Nat.one_lt_two_pow (by omega)
  · exact h x e
def pApplied (K : PySem.W.Frag) : V → V → Hp → VK → Prop := fun a b H Q => ∃ (m p : Addr) (M : List Int) (z : Pen) (c : Nat), a = .ref m ∧ b = .ref p ∧ IsM K H m M c ∧ 0 < c ∧ c ≤ 400000 ∧ SqT K H p z.vs ∧ (∀ x ∈ z.ns, Bd c x) ∧
  ∀ t H', Same H H' → H' t = some (.tup (imgOf M z).vs) → Q (.ref t) H'
theorem r_applied {K : PySem.W.Frag} {a b : V} {H : Hp} {Q : VK} (h : pApplied K a b H Q) : t_applied K (sp1 (pVector K)) (dEnds Q) [some a, some b, none, none, none, none] H := by
  obtain ⟨m, p, M, z, c, rfl, rfl, hM, c0, c1, hz, hzb, q⟩ := h
  refine ⟨p, z, rfl, hz, fun v H1 s1 nv hv => ?_⟩
  dsimp only [gName, List.set]
  have hvb := vec_bd c0 hzb
  have hM1 := hM.same s1
  refine st_asgL (el_range2 (n := 6) (fun j => .int (imgAt M z (j + 1))) ⟨by decide, by decide⟩ (by decide) (by decide) (by decide) (fun i hi => ?_)) fun D H2 nD s2 hD => ?_
  · refine ev_dot _ (by decide) (by decide) fun j hj => ?_
    refine ev_mul (ev_ixL (p := m) (ev_var rfl) (ev_add (ev_mul ev_c (ev_var rfl) (mulL (by decide) (by decide))) (ev_var rfl)) hM1.at_ (atM (n := 7 * (i + 1) + j) (by omega) (by rw [hM.len]; omega))) (ev_ixL (p := v) (ev_var rfl) (ev_var rfl) (SqL.of hv) (atM (n := j) (by omega) (by show j < 7; omega))) ?_
    exact mulB (gt_bd hM.bd) (gt_bd hvb) c0 c0 (by omega)
  · dsimp only [gName, List.set]
    exact st_retU (eu_tuple (p := D) (ev_var rfl) (SqL.of hD)) fun t H3 nt s3 ht => q t H3 ((s1.trans s2).trans s3) ht
theorem r_L_image {K : PySem.W.Frag} {a b : V} {H : Hp} {Q : VK} (h : pApplied K a b H Q) : t_L_image K (dEnds Q) [some a, some b, none, none, none, none] H := by
  obtain ⟨m, p, M, z, c, rfl, rfl, hM, c0, c1, hz, hzb, q⟩ := h
  refine ⟨_, _, .inr hz, ix0, _, _, .inr hz, ix1, _, _, .inr hz, ix2, _, _, .inr hz, atI_nat (j := 3) rfl, _, _, .inr hz, atI_nat (j := 4) rfl, _, _, .inr hz, atI_nat (j := 5) rfl, le7, fun v nv => ?_⟩
  have s1 : Same H (upd H v (.lst (((1 : Int) :: z.ns).map V.int))) := same_upd nv
  have hv : upd H v (.lst (((1 : Int) :: z.ns).map V.int)) v = some (.lst (((1 : Int) :: z.ns).map V.int)) := upd_same
  dsimp only [gName, List.set]
  change tSeq (tAsg _ _) _ _ _ (upd H v (.lst (((1 : Int) :: z.ns).map V.int)))
  generalize upd H v (.lst (((1 : Int) :: z.ns).map V.int)) = H1 at s1 hv ⊢
  have hvb := vec_bd c0 hzb
  have hM1 := hM.same s1
  refine st_asgL (el_range (n := 7) (fun j => .int (imgAt M z j)) (by decide) (by decide) (fun i hi => ?_)) fun D H2 nD s2 hD => ?_
  · refine ev_dot _ (by decide) (by decide) fun j hj => ?_
    refine ev_mul (ev_ixL (p := m) (ev_var rfl) (ev_add (ev_mul ev_c (ev_var rfl) (mulL (by decide) (by decide))) (ev_var rfl)) hM1.at_ (atM (n := 7 * i + j) (by omega) (by rw [hM.len]; omega))) (ev_ixL (p := v) (ev_var rfl) (ev_var rfl) (SqL.of hv) (atM (n := j) (by omega) (by show j < 7; omega))) ?_
    exact mulB (gt_bd hM.bd) (gt_bd hvb) c0 c0 (by omega)
  · dsimp only [gName, List.set]
    have hs := SqL.of (K := K) hD
    refine ⟨_, _, .inl hs, atI_nat (j := 1) rfl, _, _, .inl hs, atI_nat (j := 2) rfl, _, _, .inl hs, atI_nat (j := 3) rfl, _, _, .inl hs, atI_nat (j := 4) rfl, _, _, .inl hs, atI_nat (j := 5) rfl, _, _, .inl hs, atI_nat (j := 6) rfl, le6, fun t nt => ?_⟩
    exact q t _ ((s1.trans s2).trans (same_upd nt)) upd_same
def pAnyMatrix : V → Hp → VK → Prop := fun a H Q => ∃ (p : Addr) (n : Nat), a = .ref p ∧ Pool H p n ∧ ∀ t H' (M : List Int), Drew p n H H' → H t = none → H' t = some (.lst (M.map V.int)) → M.length = 49 → (∀ x ∈ M, Bd 137 x) → Q (.ref t) H'
theorem r_L_any_matrix {K : PySem.W.Frag} {a : V} {H : Hp} {Q : VK} (h : pAnyMatrix a H Q) : t_L_any_matrix K (sp2 pDraw) (sp1 pNumber) (dEnds Q) [some a, none, none, none, none] H := by
  obtain ⟨p, n, rfl, hP, q⟩ := h
  refine ⟨p, n, 4, rfl, rfl, hP, by decide, by decide, fun w H1 w0 w1 s1 => ⟨Nat.zero_le _, fun t nt => ?_⟩⟩
  dsimp only [gName, List.set]
  have nt0 : H t = none := s1.drew.free nt
  have htp : t ≠ p := s1.pool.ne nt
  refine ⟨49, rfl, by decide, by decide, ?_⟩
  refine for_range (n := 49) (fun i σ H' => Drew p n H H' ∧ ∃ y3 y4, σ = [some (.ref p), some (.int w), some (.ref t), y3, y4] ∧ ∃ M : List Int, H' t = some (.lst (M.map V.int)) ∧ M.length = i ∧ ∀ x ∈ M, Bd 137 x) ⟨s1.drew.new nt, _, _, rfl, [], upd_same, rfl, (fun x hx => by cases hx)⟩ (fun i σ H' hi hv => ?_) (fun σ H' hv => ?_)
  · obtain ⟨d1, y3, y4, rfl, M, hM, hl, hb⟩ := hv
    dsimp only [gName, List.set]
    have fin : ∀ (x : Int) H2, Bd 137 x → PStep p n H' H2 → tDrop (tBM K "list" cAppend (cVar 2) (tCons (cVar 4) tNil)) { nx := fun σ H' => Drew p n H H' ∧ ∃ y3 y4, σ = [some (.ref p), some (.int w), some (.ref t), y3, y4] ∧ ∃ M : List Int, H' t = some (.lst (M.map V.int)) ∧ M.length = i + 1 ∧ ∀ x ∈ M, Bd 137 x, rt := Q, bk := fun σ H' => tRet (cVar 2) (dEnds Q) σ H', ct := fun σ H' => Drew p n H H' ∧ ∃ y3 y4, σ = [some (.ref p), some (.int w), some (.ref t), y3, y4] ∧ ∃ M : List Int, H' t = some (.lst (M.map V.int)) ∧ M.length = i + 1 ∧ ∀ x ∈ M, Bd 137 x } [some (.ref p), some (.int w), some (.ref t), some (.int (0 + (i : Nat))), some (.int x)] H2 := fun x H2 hx s2 => by
      have hM2 : H2 t = some (.lst (M.map V.int)) := by rw [s2.at htp]; exact hM
      refine ⟨.inl ⟨rfl, _, SqL.of hM2⟩, _, hM2, sz (by rw [List.length_map]; omega), ?_⟩
      refine ⟨(d1.trans s2.drew).set nt0 htp, _, _, rfl, M ++ [x], by rw [upd_same, List.map_append]; rfl, by simp [hl], fun y hy => ?_⟩
      rcases List.mem_append.mp hy with h | h
      · exact hb y h
      · rw [List.mem_singleton.mp h]; exact hx
    refine ⟨p, n, 3, rfl, rfl, d1.pool, by decide, by decide, fun d H2 d0 d3 s2 => ?_⟩
    refine if2 (fun e => ?_) (fun e => ?_)
    · refine ⟨p, n, 9, rfl, rfl, s2.pool, by decide, by decide, fun u H3 u0 u9 s3 => ?_⟩
      dsimp only [gName, List.set]
      refine if2 (fun e => ?_) (fun e => ?_)
      · exact ⟨p, n, rfl, s3.pool, fun x H4 hx s4 => fin x H4 hx ((s2.trans s3).trans s4)⟩
      · exact fin (u - 4) H3 (by unfold Bd; omega) (s2.trans s3)
    · exact fin 0 H2 Bd.zero s2
  · obtain ⟨d1, y3, y4, rfl, M, hM, hl, hb⟩ := hv
    exact q t H' M d1 nt0 hM hl hb
end PH

namespace PH
open PySem PySem.Spec PyProof.Rows L2
def intsD (ns : List Int) : PyData := .list (ns.map PyData.int)
theorem dp_all {K : PySem.W.Frag} {H : Hp} : ∀ ns : List Int, DpAll K H (ns.map V.int) (ns.map PyData.int)
  | [] => .nil
  | _ :: r => .cons (.int _) (dp_all r)
theorem dp_ints {K : PySem.W.Frag} {H : Hp} {p : Addr} {ns : List Int} (h : SqL K H p (ns.map V.int)) : Dp K H (.ref p) (intsD ns) := .lst h (dp_all ns)
theorem intsD_shaped (ns : List Int) : SeqAt.shaped (intsD ns) = true := PySem.W.shaped_ints ns
theorem eqvAll_ints : ∀ ns : List Int, PyData.eqvAll (ns.map PyData.int) (ns.map PyData.int) = true
  | [] => by simp [PyData.eqvAll]
  | n :: r => by simp [PyData.eqvAll, PyData.eqv, eqvAll_ints r]
theorem intsD_eq (ns : List Int) : PyData.eqv (intsD ns) (intsD ns) = true := by
  unfold intsD
  rw [PyData.eqv]
  exact eqvAll_ints ns
/-- two lists of the same ints are equal -/
theorem ne_ints {K : PySem.W.Frag} {H : Hp} {p q : Addr} {ns : List Int} {Q : VK} (hp : SqL K H p (ns.map V.int)) (hq : SqL K H q (ns.map V.int)) (k : Q (.bl false) H) : cNe K (.ref p) (.ref q) H Q :=
  ⟨_, _, dp_ints hp, dp_ints hq, intsD_shaped _, intsD_shaped _, by rw [intsD_eq]; exact k⟩
theorem eq_ints {K : PySem.W.Frag} {H : Hp} {p q : Addr} {ns : List Int} {Q : VK} (hp : SqL K H p (ns.map V.int)) (hq : SqL K H q (ns.map V.int)) (k : Q (.bl true) H) : cEq K (.ref p) (.ref q) H Q :=
  ⟨_, _, dp_ints hp, dp_ints hq, intsD_shaped _, intsD_shaped _, by rw [intsD_eq]; exact k⟩
theorem ne_pens {K : PySem.W.Frag} {H : Hp} {p q : Addr} {z : Pen} {Q : VK} (hp : SqT K H p z.vs) (hq : SqT K H q z.vs) (k : Q (.bl false) H) : cNe K (.ref p) (.ref q) H Q :=
  ⟨_, _, dp_pen hp, dp_pen hq, rfl, rfl, by rw [penD_eq]; exact k⟩
theorem r_law_k04 {K : PySem.W.Frag} {a : V} {H : Hp} {Q : VK} (h : pLaw K a H Q) :
    t_law_k04 K (sp1 (pMkPool K)) (sp1 pAnyMatrix) (sp1 pPen) (sp2 (pApplied K)) (sp1 (pIsPen K)) (sp2 (pApplied K)) (sp1 (pVector K)) (sp1 (pIsInt K)) (dEnds Q) [some a, none, none, none, none, none, none, none, none] H := by
  obtain ⟨s, ns, rfl, hs, hl, q⟩ := h
  refine ⟨s, ns, rfl, hs, hl, fun p H1 n s1 np hP hn => ?_⟩
  dsimp only [gName, List.set]
  obtain ⟨ms, hp, hml⟩ := id hP
  refine ⟨_, .inl (SqL.of hp), ⟨by decide, by decide⟩, 1 + ((ms.map V.int).length : Int) / 8, rfl, ?_, ?_, ?_⟩
  · rw [List.length_map, hml]; omega
  · rw [List.length_map, hml]; omega
  refine for_range (n := (1 + ((ms.map V.int).length : Int) / 8).toNat) (fun i σ H' => Pool H' p n ∧ ∃ y2 y3 y4 y5 y6 y7 y8, σ = [some (.ref s), some (.ref p), y2, y3, y4, y5, y6, y7, y8]) ⟨hP, _, _, _, _, _, _, _, rfl⟩ (fun i σ H' hi hv => ?_) (fun σ H' hv => q _)
  obtain ⟨hP3, y2, y3, y4, y5, y6, y7, y8, rfl⟩ := hv
  dsimp only [gName, List.set]
  refine ⟨p, n, rfl, hP3, fun m H4 M d4 nm hm lm bm => ?_⟩
  have hmp : m ≠ p := hP3.ne nm
  dsimp only [gName, List.set]
  refine ⟨p, n, rfl, d4.pool, fun b H5 z hz d5 hb => ?_⟩
  have hm5 := d5.sb _ _ hmp hm
  dsimp only [gName, List.set]
  refine ⟨_, .inl (SqL.of hm5), fun c nc => ?_⟩
  have s6 := same_upd (o := .lst (M.map V.int)) nc
  have hc : upd H5 c (.lst (M.map V.int)) c = some (.lst (M.map V.int)) := upd_same
  generalize upd H5 c (.lst (M.map V.int)) = H6 at s6 hc ⊢
  dsimp only [gName, List.set]
  refine ⟨c, b, M, z, 137, rfl, rfl, ⟨SqL.of hc, lm, bm⟩, by decide, by decide, SqT.of (s6 _ _ hb), hz, fun u H7 s7 hu => ?_⟩
  dsimp only [gName, List.set]
  refine ⟨some (imgOf M z).vs, seen_pen (SqT.of hu), fun H8 s8 => ?_⟩
  rw [show penB (some (imgOf M z).vs) = true from rfl]
  refine ⟨m, b, M, z, 137, rfl, rfl, ⟨SqL.of ((s6.trans (s7.trans s8)) _ _ hm5), lm, bm⟩, by decide, by decide, SqT.of ((s6.trans (s7.trans s8)) _ _ hb), hz, fun v H9 s9 hv9 => ?_⟩
  refine ⟨_, _, dp_pen (SqT.of ((s8.trans s9) _ _ hu)), dp_pen (SqT.of hv9), rfl, rfl, ?_⟩
  rw [penD_eq]
  refine ⟨_, _, dp_ints (SqL.of ((s7.trans (s8.trans s9)) _ _ hc)), dp_ints (SqL.of ((s6.trans (s7.trans (s8.trans s9))) _ _ hm5)), intsD_shaped _, intsD_shaped _, ?_⟩
  rw [intsD_eq]
  have s59 : Same H5 H9 := s6.trans (s7.trans (s8.trans s9))
  refine ⟨b, z, rfl, SqT.of (s59 _ _ hb), fun w H10 s10 nw hw => ?_⟩
  dsimp only [gName, List.set]
  have one : ∀ (H11 : Hp) (Q2 : VK), H11 b = some (.tup z.vs) → (∀ l H12, H11 l = none → Same H11 H12 → H12 l = some (.lst (((1 : Int) :: z.ns).map V.int)) → Q2 (.ref l) H12) → tOp (cAdd K) (tLst (tCons (tC (.int 1)) tNil)) (tCB (c1 (cList K)) (tCons (cVar 4) tNil)) [some (.ref s), some (.ref p), some (.int (0 + (i : Nat))), some (.ref m), some (.ref b), some (.ref c), some (.ref u), some (.ref w), y8] H11 Q2 := fun H11 Q2 hb k =>
    el_cat (K := K) (σ := [some (.ref s), some (.ref p), some (.int (0 + (i : Nat))), some (.ref m), some (.ref b), some (.ref c), some (.ref u), some (.ref w), y8]) (H := H11) (xs := [.int 1]) (ys := z.vs) (el_lst (ea_cons ev_c ea_nil) le1) (el_listT (p := b) (ev_var rfl) (SqT.of hb)) le7 H11 Q2 (Same.refl _) k
  have hb10 : H10 b = some (.tup z.vs) := s10 _ _ (s59 _ _ hb)
  refine ⟨"list", kind_lst (SqL.of hw), one H10 _ hb10 fun l H12 nl s12 hl12 => ?_⟩
  refine ⟨_, _, dp_ints (SqL.of (s12 _ _ hw)), dp_ints (SqL.of hl12), intsD_shaped _, intsD_shaped _, ?_⟩
  rw [intsD_eq]
  have hw12 := s12 _ _ hw
  refine Or.inl ⟨⟨_, SqL.of hw12⟩, for_list (K := K) (a := w) (xs := ((1 : Int) :: z.ns).map V.int) (fun j σ H' => H' = H12 ∧ ∃ y8, σ = [some (.ref s), some (.ref p), some (.int (0 + (i : Nat))), some (.ref m), some (.ref b), some (.ref c), some (.ref u), some (.ref w), y8]) ⟨rfl, _, rfl⟩ (fun j σ H' _ hv => ?_) (fun j x σ H' hx hv => ?_) (fun σ H' hv => ?_)⟩
  · obtain ⟨rfl, _⟩ := hv
    exact SqL.of hw12
  · obtain ⟨rfl, y, rfl⟩ := hv
    obtain ⟨i, _, rfl⟩ := List.mem_map.mp (List.mem_of_getElem? hx)
    exact ⟨trivial, rfl, _, rfl⟩
  · obtain ⟨rfl, y, rfl⟩ := hv
    refine ⟨_, hw12, by decide, by show 0 < 7; decide, ?_⟩
    have hbw : b ≠ w := ne_of (s12 _ _ hb10) hw12 (fun e => by cases e)
    have hpw : p ≠ w := fun e => by
      have h1 := (d4.trans d5).pool
      obtain ⟨ks, h2, _⟩ := Same.pool s59 h1
      rw [e, nw] at h2
      cases h2
    have hb13 : upd H' w (.lst ((((1 : Int) :: z.ns).map V.int).set (Int.toNat 0) (.int 7))) b = some (.tup z.vs) := by rw [upd_ne hbw]; exact s12 _ _ hb10
    have hP13 : Pool (upd H' w (.lst ((((1 : Int) :: z.ns).map V.int).set (Int.toNat 0) (.int 7)))) p n := by
      obtain ⟨ks, h2, h3⟩ := Same.pool (s59.trans (s10.trans s12)) (d4.trans d5).pool
      exact ⟨ks, by rw [upd_ne hpw]; exact h2, h3⟩
    generalize upd H' w (.lst ((((1 : Int) :: z.ns).map V.int).set (Int.toNat 0) (.int 7))) = H13 at hb13 hP13 ⊢
    refine ⟨b, z, rfl, SqT.of hb13, fun w2 H14 s14 _ hw2 => one H14 _ (s14 _ _ hb13) fun l2 H15 _ s15 hl2 => ?_⟩
    refine ⟨_, _, dp_ints (SqL.of (s15 _ _ hw2)), dp_ints (SqL.of hl2), intsD_shaped _, intsD_shaped _, ?_⟩
    rw [intsD_eq]
    exact ⟨Same.pool (s14.trans s15) hP13, _, _, _, _, _, _, _, rfl⟩
end PH

namespace PH
open PySem PySem.Spec PyProof.Rows L2
theorem dot_congr {f g : Nat → Int} : ∀ {n : Nat}, (∀ k, k < n → f k = g k) → dot f n = dot g n
  | 0, _ => rfl
  | n + 1, h => by
    show dot f n + f n = dot g n + g n
    rw [dot_congr fun k hk => h k (by omega), h n (by omega)]
theorem dot_zero : ∀ n : Nat, dot (fun _ => 0) n = 0
  | 0 => rfl
  | n + 1 => by
    show dot (fun _ => 0) n + 0 = 0
    rw [dot_zero n]; rfl
theorem dot_add (f g : Nat → Int) : ∀ n : Nat, dot (fun k => f k + g k) n = dot f n + dot g n
  | 0 => rfl
  | n + 1 => by
    show dot (fun k => f k + g k) n + (f n + g n) = dot f n + f n + (dot g n + g n)
    rw [dot_add f g n]; omega
theorem dot_mulL (c : Int) (f : Nat → Int) : ∀ n : Nat, dot (fun k => c * f k) n = c * dot f n
  | 0 => by simp [dot]
  | n + 1 => by
    show dot (fun k => c * f k) n + c * f n = c * (dot f n + f n)
    rw [dot_mulL c f n, Int.mul_add]
theorem dot_mulR (c : Int) (f : Nat → Int) (n : Nat) : dot (fun k => f k * c) n = dot f n * c := by
  rw [dot_congr (g := fun k => c * f k) fun k _ => Int.mul_comm _ _, dot_mulL, Int.mul_comm]
theorem dot_swap (c : Nat → Int) (b : Nat → Nat → Int) (a : Nat → Int) (m : Nat) : ∀ n : Nat, dot (fun k => c k * dot (fun l => b k l * a l) m) n = dot (fun l => dot (fun k => c k * b k l) n * a l) m
  | 0 => by
    show 0 = dot (fun l => 0 * a l) m
    rw [dot_congr (g := fun _ => 0) fun k _ => Int.zero_mul _, dot_zero]
  | n + 1 => by
    show dot (fun k => c k * dot (fun l => b k l * a l) m) n + c n * dot (fun l => b n l * a l) m = dot (fun l => (dot (fun k => c k * b k l) n + c n * b n l) * a l) m
    rw [dot_swap c b a m n, ← dot_mulL, ← dot_add]
    exact dot_congr fun l _ => by rw [Int.add_mul, Int.mul_assoc]
def delta (i j : Nat) : Int := if i = j then 1 else 0
theorem dot_delta (x : Nat → Int) (j : Nat) : ∀ n : Nat, dot (fun k => x k * delta k j) n = if j < n then x j else 0
  | 0 => rfl
  | n + 1 => by
    show dot (fun k => x k * delta k j) n + x n * delta n j = _
    rw [dot_delta x j n]
    unfold delta
    by_cases h : n = j
    · subst h
      rw [if_neg (by omega), if_pos rfl, if_pos (by omega)]; omega
    · rw [if_neg h, Int.mul_zero, Int.add_zero]
      by_cases h2 : j < n
      · rw [if_pos h2, if_pos (by omega)]
      · rw [if_neg h2, if_neg (by omega)]
/-- a matrix by its numbers -/
@[irreducible] def mx (f : Nat → Nat → Int) : List Int := (List.range 49).map fun t => f (t / 7) (t % 7)
theorem mx_len (f : Nat → Nat → Int) : (mx f).length = 49 := by
  unfold mx
  simp
theorem gt_range {f : Nat → Int} {n t : Nat} (h : t < n) : gt ((List.range n).map f) t = f t := by
  unfold gt
  rw [List.getD_eq_getElem?_getD, List.getElem?_map, List.getElem?_range h]
  rfl
theorem gt_mx {f : Nat → Nat → Int} {i j : Nat} (hi : i < 7) (hj : j < 7) : gt (mx f) (7 * i + j) = f i j := by
  unfold mx
  rw [gt_range (by omega), show (7 * i + j) / 7 = i by omega, show (7 * i + j) % 7 = j by omega]
theorem mx_ext {f g : Nat → Nat → Int} (h : ∀ i j, i < 7 → j < 7 → f i j = g i j) : mx f = mx g := by
  unfold mx
  apply List.map_congr_left
  intro t ht
  have := List.mem_range.mp ht
  exact h _ _ (by omega) (by omega)
theorem mx_gt {M : List Int} (h : M.length = 49) : mx (fun i j => gt M (7 * i + j)) = M := by
  rw [← range_gt h]
  unfold mx
  apply List.map_congr_left
  intro t ht
  have ht := List.mem_range.mp ht
  rw [range_gt h]
  show gt M (7 * (t / 7) + t % 7) = gt M t
  rw [show 7 * (t / 7) + t % 7 = t by omega]
theorem mx_eq {M N : List Int} (hM : M.length = 49) (hN : N.length = 49) (h : ∀ i j, i < 7 → j < 7 → gt M (7 * i + j) = gt N (7 * i + j)) : M = N := by
  rw [← mx_gt hM, ← mx_gt hN]
  exact mx_ext h
theorem mx_bd {f : Nat → Nat → Int} {a : Nat} (h : ∀ i j, i < 7 → j < 7 → Bd a (f i j)) : ∀ x ∈ mx f, Bd a x := fun x hx => by
  unfold mx at hx
  obtain ⟨t, ht, rfl⟩ := List.mem_map.mp hx
  have := List.mem_range.mp ht
  exact h _ _ (by omega) (by omega)
/-- rows put one behind another -/
def rows (f : Nat → Nat → Int) (n : Nat) : List Int := (List.range n).flatMap fun i => (List.range 7).map (f i)
theorem rows_succ (f : Nat → Nat → Int) (n : Nat) : rows f (n + 1) = rows f n ++ (List.range 7).map (f n) := by
  unfold rows
  rw [show List.range (n + 1) = List.range n ++ [n] from List.range_succ, List.flatMap_append]
  simp only [List.flatMap_cons, List.flatMap_nil, List.append_nil]
theorem rows_len (f : Nat → Nat → Int) : ∀ n, (rows f n).length = 7 * n
  | 0 => rfl
  | n + 1 => by rw [rows_succ, List.length_append, rows_len f n]; simp; omega
theorem rows_map (f : Nat → Nat → Int) : ∀ n, rows f n = (List.range (7 * n)).map fun t => f (t / 7) (t % 7)
  | 0 => rfl
  | n + 1 => by
    rw [rows_succ, rows_map f n, show 7 * (n + 1) = 7 * n + 7 by omega, List.range_add, List.map_append, List.map_map]
    congr 1
    apply List.map_congr_left
    intro j hj
    have := List.mem_range.mp hj
    show f n j = f ((7 * n + j) / 7) ((7 * n + j) % 7)
    rw [show (7 * n + j) / 7 = n by omega, show (7 * n + j) % 7 = j by omega]
theorem rows_mx (f : Nat → Nat → Int) : rows f 7 = mx f := by
  unfold mx
  exact rows_map f 7
/-- A, then B -/
def compM (A B : List Int) : List Int := mx fun i j => dot (fun k => gt B (7 * i + k) * gt A (7 * k + j)) 7
theorem compM_len (A B : List Int) : (compM A B).length = 49 := mx_len _
theorem compM_bd {A B : List Int} {a b : Nat} (ha : ∀ x ∈ A, Bd a x) (hb : ∀ x ∈ B, Bd b x) : ∀ x ∈ compM A B, Bd (a + b + 3) x := mx_bd fun i j _ _ => Bd.dot7 fun k _ => by
  rw [Nat.add_comm a b]
  exact Bd.mul (gt_bd hb) (gt_bd ha)
theorem compM_assoc (A B C : List Int) : compM (compM A B) C = compM A (compM B C) := by
  refine mx_ext fun i j hi hj => ?_
  rw [dot_congr (g := fun k => gt C (7 * i + k) * dot (fun l => gt B (7 * k + l) * gt A (7 * l + j)) 7) fun k hk => by rw [show compM A B = mx _ from rfl, gt_mx hk hj]]
  rw [dot_swap]
  exact dot_congr fun l hl => by rw [show compM B C = mx _ from rfl, gt_mx hi hl]
@[irreducible] def unitM : List Int := mx delta
theorem unit_len : unitM.length = 49 := by
  unfold unitM
  exact mx_len _
theorem compM_unitR {A : List Int} (h : A.length = 49) : compM A unitM = A := by
  refine mx_eq (compM_len _ _) h fun i j hi hj => ?_
  unfold compM
  rw [gt_mx hi hj, dot_congr (g := fun k => gt A (7 * k + j) * delta k i) fun k hk => by
    unfold unitM
    rw [gt_mx hi hk, Int.mul_comm]
    unfold delta
    by_cases e : i = k
    · rw [if_pos e, if_pos e.symm]
    · rw [if_neg e, if_neg fun z => e z.symm], dot_delta (fun k => gt A (7 * k + j)), if_pos hi]
theorem compM_unitL {A : List Int} (h : A.length = 49) : compM unitM A = A := by
  refine mx_eq (compM_len _ _) h fun i j hi hj => ?_
  unfold compM
  rw [gt_mx hi hj, dot_congr (g := fun k => gt A (7 * i + k) * delta k j) fun k hk => by unfold unitM; rw [gt_mx hk hj], dot_delta (fun k => gt A (7 * i + k)), if_pos hj]
/-- the unit as the text has it -/
theorem unit_text : ((List.range 49).map fun t : Nat => (if decide ((0 + (t : Int)) % 8 = 0) = true then (1 : Int) else 0)) = unitM := by
  unfold unitM mx
  decide
theorem unit_bd : ∀ x ∈ unitM, Bd 137 x := by
  unfold unitM
  refine mx_bd fun i j _ _ => ?_
  unfold delta Bd
  by_cases h : i = j
  · rw [if_pos h]; decide
  · rw [if_neg h]; decide
end PH

namespace PH
open PySem PySem.Spec PyProof.Rows L2
theorem wipe2 (σ : L2.St) (c d : Nat) : wipe σ [c, d] = (σ.set d none).set c none := rfl
theorem put2 (σ : L2.St) {c d : Nat} (h : c ≠ d) (x y : V) : ((wipe σ [c, d]).set c (some x)).set d (some y) = (σ.set c (some x)).set d (some y) := by
  rw [wipe2, List.set_set, List.set_comm _ _ (Ne.symm h), List.set_set, List.set_comm _ _ h]
theorem wipe_put2 (σ : L2.St) {c d : Nat} (h : c ≠ d) (x y : V) : wipe (((wipe σ [c, d]).set c (some x)).set d (some y)) [c, d] = wipe σ [c, d] := by
  rw [put2 σ h, wipe2, wipe2, List.set_set, List.set_comm _ _ h, List.set_set, List.set_comm _ _ (Ne.symm h)]
theorem el_zip {K : PySem.W.Frag} {σ : L2.St} {H : Hp} {ta tb te : TE} {p : Addr} {xs ys : List V} {c d : Nat} (f : V → V → V) (hcd : c ≠ d) (ha : Ev ta σ H (.ref p)) (hx : SqL K H p xs) (hb : EvL tb σ H ys) (hl : xs.length = ys.length) (hn : xs.length ≤ 100000)
    (he : ∀ x y, x ∈ xs → y ∈ ys → Ev te ((σ.set c (some x)).set d (some y)) H (f x y)) :
    EvL (tLc (iZip K (tCons ta (tCons tb tNil))) (gTup K 2 (gCons (gName c) (gCons (gName d) gNil))) tYes te [c, d]) σ H (List.zipWith f xs ys) := fun H2 Q s k => by
  refine ha H2 _ s fun H3 s3 => hb H3 _ (s.trans s3) fun q H4 nq s4 hq => ?_
  have s24 := s3.trans s4
  have hx4 : SqL K H4 p xs := (s.trans s24).seq hx
  refine ⟨p, q, xs, ys, rfl, hx4, SqL.of hq, fun D nD => ?_⟩
  refine ⟨fun i m H' => m = xs.length - i ∧ i ≤ xs.length ∧ Same H4 H' ∧ H' D = some (.lst ((List.zipWith f xs ys).take i)), ⟨xs.length, by omega, by omega, same_upd nD, upd_same⟩, fun i m H' hv => ?_⟩
  obtain ⟨em, hi, s5, hD⟩ := hv
  by_cases hlt : i < xs.length
  · have hlt2 : i < ys.length := by omega
    refine .inr ⟨⟨xs, ys, xs[i], ys[i], s5.seq hx4, SqL.of (s5 _ _ hq), List.getElem?_eq_getElem hlt, List.getElem?_eq_getElem hlt2⟩, fun H6 => Same H4 H6 ∧ H6 D = some (.lst ((List.zipWith f xs ys).take (i + 1))), fun H6 h6 => ⟨xs.length - (i + 1), by omega, by omega, by omega, h6.1, h6.2⟩, fun v H6 hy => ?_⟩
    obtain ⟨T, x, y, rfl, nT, rfl, fx, fy⟩ := hy
    have ex : xs[i] = x := Option.some.inj ((List.getElem?_eq_getElem hlt).symm.trans (fx _ (s5.seq hx4)))
    have ey : ys[i] = y := Option.some.inj ((List.getElem?_eq_getElem hlt2).symm.trans (fy _ (SqL.of (s5 _ _ hq))))
    have sT := same_upd (o := .tup [x, y]) nT
    refine ⟨T, [x, y], rfl, SqT.of upd_same, rfl, x, [y], rfl, y, [], rfl, rfl, wipe_put2 σ hcd x y, ?_⟩
    show te (((wipe σ [c, d]).set c (some x)).set d (some y)) (upd H' T (.tup [x, y])) _
    rw [put2 σ hcd]
    refine he x y (by rw [← ex]; exact List.getElem_mem hlt) (by rw [← ey]; exact List.getElem_mem hlt2) _ _ ((s.trans s24).trans (s5.trans sT)) fun H7 s7 => ?_
    refine ⟨_, s7 _ _ (sT _ _ hD), sz (by rw [List.length_take]; omega), Same.put (s5.trans (sT.trans s7)) nD, ?_⟩
    have ez : (List.zipWith f xs ys)[i]? = some (f x y) := by rw [List.getElem?_zipWith, List.getElem?_eq_getElem hlt, List.getElem?_eq_getElem hlt2, ex, ey]
    rw [upd_same, List.take_add_one, ez]
    rfl
  · have e : i = xs.length := by omega
    subst e
    refine .inl ⟨⟨xs, ys, s5.seq hx4, SqL.of (s5 _ _ hq), .inl (Nat.le_refl _)⟩, ?_⟩
    rw [List.take_of_length_le (by rw [List.length_zipWith]; omega)] at hD
    exact k D H' (s24.free nD) (s24.trans s5) hD
def pComposed (K : PySem.W.Frag) : V → V → Hp → VK → Prop := fun a b H Q => ∃ (p q : Addr) (A B : List Int) (c d : Nat), a = .ref p ∧ b = .ref q ∧ IsM K H p A c ∧ IsM K H q B d ∧ 0 < c ∧ 0 < d ∧ c + d ≤ 900000 ∧
  ∀ t H', Same H H' → H t = none → H' t = some (.lst ((compM A B).map V.int)) → Q (.ref t) H'
theorem cut7 {M : List Int} {a b : Int} {k : Nat} (h : 7 * k + 7 ≤ M.length) (ha : a = ((7 * k : Nat) : Int)) (hb : b = ((7 * k + 7 : Nat) : Int)) : cutV (M.map V.int) (some a) (some b) = ((List.range 7).map fun j => gt M (7 * k + j)).map V.int := by
  subst ha hb
  unfold cutV
  rw [HT.sIx_nat, HT.sIx_nat, List.length_map, Nat.min_eq_left (by omega), Nat.min_eq_left (by omega), ← List.map_drop, ← List.map_take]
  congr 1
  apply List.ext_getElem
  · simp; omega
  · intro i h1 h2
    simp only [List.length_map, List.length_range] at h2
    rw [List.getElem_take, List.getElem_drop, List.getElem_map, List.getElem_range]
    unfold gt
    rw [List.getD_eq_getElem?_getD, List.getElem?_eq_getElem (by omega)]
    rfl
theorem zip_ints {f : V → V → V} {g : Int → Int → Int} (h : ∀ a b, f (.int a) (.int b) = .int (g a b)) : ∀ xs ys : List Int, List.zipWith f (xs.map V.int) (ys.map V.int) = (List.zipWith g xs ys).map V.int
  | [], _ => rfl
  | _ :: _, [] => rfl
  | x :: xs, y :: ys => by
    show f (.int x) (.int y) :: List.zipWith f (xs.map V.int) (ys.map V.int) = _
    rw [h, zip_ints h xs ys]
    rfl
def addMul (c : Int) : V → V → V
  | .int a, .int b => .int (a + c * b)
  | _, _ => .non
theorem zip_self {α β : Type} (f : α → α → β) : ∀ l : List α, List.zipWith f l l = l.map fun a => f a a
  | [] => rfl
  | x :: r => by
    show f x x :: List.zipWith f r r = _
    rw [zip_self f r]
    rfl
theorem zip_range {g : Int → Int → Int} {u v : Nat → Int} {n : Nat} : List.zipWith g ((List.range n).map u) ((List.range n).map v) = (List.range n).map fun j => g (u j) (v j) := by
  rw [List.zipWith_map, zip_self]
theorem r_composed {K : PySem.W.Frag} {a b : V} {H : Hp} {Q : VK} (h : pComposed K a b H Q) : t_composed K (dEnds Q) [some a, some b, none, none, none, none, none, none, none] H := by
  obtain ⟨p, q, A, B, c, d, rfl, rfl, hA, hB, c0, d0, hcd, k⟩ := h
  refine ⟨Nat.zero_le _, fun t0 n0 => ?_⟩
  dsimp only [gName, List.set]
  let F : Nat → Nat → Int := fun i j => dot (fun k => gt B (7 * i + k) * gt A (7 * k + j)) 7
  refine ⟨7, rfl, by decide, by decide, ?_⟩
  refine for_range (n := 7) (fun i σ H' => Same H H' ∧ ∃ t y3 y4 y5 y6 y7 y8, σ = [some (.ref p), some (.ref q), some (.ref t), y3, y4, y5, y6, y7, y8] ∧ H t = none ∧ H' t = some (.lst ((rows F i).map V.int))) ⟨same_upd n0, t0, _, _, _, _, _, _, rfl, n0, upd_same⟩ (fun i σ H1 hi hv => ?_) (fun σ H1 hv => ?_)
  · obtain ⟨s1, t, y3, y4, y5, y6, y7, y8, rfl, nt, ht⟩ := hv
    dsimp only [gName, List.set]
    refine ⟨le7, fun r0 nr0 => ?_⟩
    dsimp only [gName, List.set]
    refine ⟨7, rfl, by decide, by decide, ?_⟩
    have sr0 := same_upd (o := .lst [V.int 0, V.int 0, V.int 0, V.int 0, V.int 0, V.int 0, V.int 0]) nr0
    refine for_range (n := 7) (fun m σ H' => Same H H' ∧ H' t = some (.lst ((rows F i).map V.int)) ∧ ∃ r y5 y6 y7 y8, σ = [some (.ref p), some (.ref q), some (.ref t), some (.int (0 + (i : Nat))), some (.ref r), y5, y6, y7, y8] ∧ H' r = some (.lst (((List.range 7).map fun j => dot (fun k => gt B (7 * i + k) * gt A (7 * k + j)) m).map V.int)))
      ⟨s1.trans sr0, sr0 _ _ ht, r0, _, _, _, _, rfl, upd_same⟩ (fun m σ H2 hm hv => ?_) (fun σ H2 hv => ?_)
    · obtain ⟨s2, ht2, r, y5, y6, y7, y8, rfl, hr⟩ := hv
      dsimp only [gName, List.set]
      refine ⟨mulL (by decide) (by decide), _, _, .inl (s2.seq hB.at_), atM (n := 7 * i + m) (by omega) (by rw [hB.len]; omega), ?_⟩
      dsimp only [gName, List.set]
      refine if2 (fun e => ?_) (fun e => ?_)
      · have ev := el_zip (K := K) (σ := [some (.ref p), some (.ref q), some (.ref t), some (.int (0 + (i : Nat))), some (.ref r), some (.int (0 + (m : Nat))), some (.int (gt B (7 * i + m))), y7, y8]) (H := H2) (ta := cVar 4) (tb := tSl (cSl K) (cVar 0) (cPart (tOp rMulC (tC (.int 7)) (cVar 5))) (cPart (tOp (cAdd K) (tOp rMulC (tC (.int 7)) (cVar 5)) (tC (.int 7))))) (c := 7) (d := 8) (te := tOp (cAdd K) (cVar 7) (tOp rMulC (cVar 6) (cVar 8))) (addMul (gt B (7 * i + m))) (by decide) (ev_var rfl) (SqL.of hr)
          (el_cut (p := p) (ev_var rfl) (eo_some (ev_mul ev_c (ev_var rfl) (mulL (by decide) (by decide)))) (eo_some (ev_add (ev_mul ev_c (ev_var rfl) (mulL (by decide) (by decide))) ev_c)) (s2.seq hA.at_)) (by rw [cut7 (k := m) (by rw [hA.len]; omega) (by omega) (by omega)]; simp) (by simp) (fun x y hx hy => ?_)
        · refine ev H2 _ (Same.refl _) fun r' H3 nr' s3 hr' => ?_
          refine ⟨s2.trans s3, s3 _ _ ht2, r', _, _, _, _, rfl, ?_⟩
          rw [hr', cut7 (k := m) (by rw [hA.len]; omega) (by omega) (by omega), zip_ints (g := fun a b => a + gt B (7 * i + m) * b) (fun a b => rfl), zip_range]
          rfl
        · rw [cut7 (k := m) (by rw [hA.len]; omega) (by omega) (by omega)] at hy
          obtain ⟨x0, _, rfl⟩ := List.mem_map.mp hx
          obtain ⟨y0, hy0, rfl⟩ := List.mem_map.mp hy
          refine ev_add (ev_var rfl) (ev_mul (ev_var rfl) (ev_var rfl) ?_)
          obtain ⟨j, _, rfl⟩ := List.mem_map.mp hy0
          exact mulB (gt_bd hB.bd) (gt_bd hA.bd) d0 c0 (by omega)
      · have e0 : gt B (7 * i + m) = 0 := by simpa using e
        refine ⟨s2, ht2, r, _, _, _, _, rfl, ?_⟩
        rw [hr]
        congr 3
        apply List.map_congr_left
        intro j _
        show _ = dot (fun k => gt B (7 * i + k) * gt A (7 * k + j)) m + gt B (7 * i + m) * gt A (7 * m + j)
        rw [e0, Int.zero_mul, Int.add_zero]
    · obtain ⟨s2, ht2, r, y5, y6, y7, y8, rfl, hr⟩ := hv
      refine el_catNN (K := K) (σ := [some (.ref p), some (.ref q), some (.ref t), some (.int (0 + (i : Nat))), some (.ref r), y5, y6, y7, y8]) (H := H2) (ta := cVar 2) (tb := cVar 4) (ev_var rfl) ht2 (ev_var rfl) hr ?_ H2 _ (Same.refl _) fun t' H3 nt' s3 ht' => ?_
      · rw [List.length_map, List.length_map, rows_len, List.length_map, List.length_range]
        exact Nat.le_trans (by omega : _ ≤ 100000) (by decide)
      · refine ⟨s2.trans s3, t', _, _, _, _, _, _, rfl, s2.free nt', ?_⟩
        rw [ht', rows_succ, List.map_append]
  · obtain ⟨s1, t, y3, y4, y5, y6, y7, y8, rfl, nt, ht⟩ := hv
    refine k t H1 s1 nt ?_
    rw [ht, rows_mx]
    rfl
end PH

namespace PH
open PySem PySem.Spec PyProof.Rows L2
/-- the ints of a list -/
def pIsMat (K : PySem.W.Frag) : V → Hp → VK → Prop := fun a H Q => ∃ (p : Addr) (M : List Int), a = .ref p ∧ SqL K H p (M.map V.int) ∧ M.length = 49 ∧ ∀ H', Same H H' → Q (.bl true) H'
theorem all_ints : ∀ M : List Int, (M.map V.int).all intB = true
  | [] => rfl
  | _ :: r => by
    show (true && (r.map V.int).all intB) = true
    rw [all_ints r]; rfl
theorem r_L_is_matrix {K : PySem.W.Frag} {a : V} {H : Hp} {Q : VK} (h : pIsMat K a H Q) : t_L_is_matrix K (sp2 (pIsRow K)) (dEnds Q) [some a] H := by
  obtain ⟨p, M, rfl, hM, hl, q⟩ := h
  refine ⟨"list", kind_lst hM, p, _, 49, rfl, rfl, .inl hM, by rw [List.length_map, hl]; decide, told_int (all_ints M), fun H' s => ?_⟩
  rw [all_ints, List.length_map, hl]
  exact q H' s
theorem r_L_times {K : PySem.W.Frag} {a b : V} {H : Hp} {Q : VK} (h : pComposed K a b H Q) : t_L_times K (dEnds Q) [some a, some b, none, none, none, none] H := by
  obtain ⟨p, q, A, B, c, d, rfl, rfl, hA, hB, c0, d0, hcd, k⟩ := h
  refine ⟨Nat.zero_le _, fun t nt => ?_⟩
  dsimp only [gName, List.set]
  let F : Nat → Nat → Int := fun i j => dot (fun k => gt B (7 * i + k) * gt A (7 * k + j)) 7
  refine ⟨7, rfl, by decide, by decide, ?_⟩
  refine for_range (n := 7) (fun i σ H' => Same H H' ∧ ∃ y3 y4 y5, σ = [some (.ref p), some (.ref q), some (.ref t), y3, y4, y5] ∧ H' t = some (.lst ((rows F i).map V.int))) ⟨same_upd nt, _, _, _, rfl, upd_same⟩ (fun i σ H1 hi hv => ?_) (fun σ H1 hv => ?_)
  · obtain ⟨s1, y3, y4, y5, rfl, ht⟩ := hv
    dsimp only [gName, List.set]
    refine ⟨7, rfl, by decide, by decide, ?_⟩
    refine for_range (n := 7) (fun j σ H' => Same H H' ∧ ∃ y4 y5, σ = [some (.ref p), some (.ref q), some (.ref t), some (.int (0 + (i : Nat))), y4, y5] ∧ H' t = some (.lst ((rows F i ++ (List.range j).map (F i)).map V.int))) ⟨s1, _, _, rfl, by rw [ht]; simp⟩ (fun j σ H2 hj hv => ?_) (fun σ H2 hv => ?_)
    · obtain ⟨s2, y4, y5, rfl, ht2⟩ := hv
      dsimp only [gName, List.set]
      refine ⟨.inl ⟨rfl, _, SqL.of ht2⟩, ?_⟩
      have ev : Ev (tCB (c1 (cSum K)) (tCons (tLc (iRng1 (tCons (tC (.int 7)) tNil)) (gName 5) tYes (tOp rMulC (tOp (cIx K) (cVar 1) (tOp (cAdd K) (tOp rMulC (tC (.int 7)) (cVar 3)) (cVar 5))) (tOp (cIx K) (cVar 0) (tOp (cAdd K) (tOp rMulC (tC (.int 7)) (cVar 5)) (cVar 4)))) [5]) tNil)) [some (.ref p), some (.ref q), some (.ref t), some (.int (0 + (i : Nat))), some (.int (0 + (j : Nat))), y5] H2 (.int (F i j)) := by
        refine ev_dot _ (by decide) (by decide) fun m hm => ?_
        refine ev_mul (ev_ixL (p := q) (ev_var rfl) (ev_add (ev_mul ev_c (ev_var rfl) (mulL (by decide) (by decide))) (ev_var rfl)) (s2.seq hB.at_) (atM (n := 7 * i + m) (by omega) (by rw [hB.len]; omega))) (ev_ixL (p := p) (ev_var rfl) (ev_add (ev_mul ev_c (ev_var rfl) (mulL (by decide) (by decide))) (ev_var rfl)) (s2.seq hA.at_) (atM (n := 7 * m + j) (by omega) (by rw [hA.len]; omega))) ?_
        exact mulB (gt_bd hB.bd) (gt_bd hA.bd) d0 c0 (by omega)
      refine ev H2 _ (Same.refl _) fun H3 s3 => ⟨_, s3 _ _ ht2, sz (by rw [List.length_map, List.length_append, rows_len, List.length_map, List.length_range]; omega), ?_⟩
      refine ⟨Same.put (s2.trans s3) nt, _, _, rfl, ?_⟩
      rw [upd_same, List.range_succ, List.map_append (l₁ := List.range j), ← List.append_assoc, List.map_append (l₂ := List.map (F i) [j])]
      rfl
    · obtain ⟨s2, y4, y5, rfl, ht2⟩ := hv
      exact ⟨s2, _, _, _, rfl, by rw [ht2, rows_succ]⟩
  · obtain ⟨s1, y3, y4, y5, rfl, ht⟩ := hv
    refine k t H1 s1 nt ?_
    rw [ht, rows_mx]
    rfl
def pGood (K : PySem.W.Frag) : V → V → Hp → VK → Prop := fun a b H Q => ∃ (p q : Addr) (A B : List Int), a = .ref p ∧ b = .ref q ∧ IsM K H p A 137 ∧ IsM K H q B 137 ∧ ∀ H', Same H H' → Q (.bl true) H'
theorem r_L_good {K : PySem.W.Frag} {a b : V} {H : Hp} {Q : VK} (h : pGood K a b H Q) : t_L_good K (sp2 (pComposed K)) (sp1 (pIsMat K)) (sp2 (pComposed K)) (dEnds Q) [some a, some b, none, none, none] H := by
  obtain ⟨p, q, A, B, rfl, rfl, hA, hB, k⟩ := h
  refine st_asgL (el_listL (p := p) (ev_var rfl) hA.at_) fun f H1 _ s1 hf => ?_
  dsimp only [List.set]
  refine st_asgL (el_listL (p := q) (ev_var rfl) (s1.seq hB.at_)) fun g H2 _ s2 hg => ?_
  dsimp only [List.set]
  have hf2 := s2 _ _ hf
  refine ⟨f, g, A, B, 137, 137, rfl, rfl, ⟨SqL.of hf2, hA.len, hA.bd⟩, ⟨SqL.of hg, hB.len, hB.bd⟩, by decide, by decide, by decide, fun t H3 s3 nt ht => ?_⟩
  dsimp only [gName, List.set]
  refine ⟨t, _, rfl, SqL.of ht, compM_len _ _, fun H4 s4 => ?_⟩
  have s04 := (s1.trans s2).trans (s3.trans s4)
  refine ⟨p, q, A, B, 137, 137, rfl, rfl, hA.same s04, hB.same s04, by decide, by decide, by decide, fun u H5 s5 nu hu => ?_⟩
  refine ⟨_, _, dp_ints (SqL.of ((s4.trans s5) _ _ ht)), dp_ints (SqL.of hu), intsD_shaped _, intsD_shaped _, ?_⟩
  rw [intsD_eq]
  refine ⟨_, _, dp_ints (SqL.of ((s3.trans (s4.trans s5)) _ _ hf2)), dp_ints ((s04.trans s5).seq hA.at_), intsD_shaped _, intsD_shaped _, ?_⟩
  rw [intsD_eq]
  refine ⟨_, _, dp_ints (SqL.of ((s3.trans (s4.trans s5)) _ _ hg)), dp_ints ((s04.trans s5).seq hB.at_), intsD_shaped _, intsD_shaped _, ?_⟩
  rw [intsD_eq]
  exact k _ (s04.trans s5)
/-- the unit -/
theorem el_unit {K : PySem.W.Frag} {σ : L2.St} {H : Hp} {c : Nat} (hc : c < σ.length) : EvL (tLc (iRng1 (tCons (tC (.int 49)) tNil)) (gName c) tYes (tCB (c1 cInt) (tCons (tOp (cEq K) (tOp rModC (cVar c) (tC (.int 8))) (tC (.int 0))) tNil)) [c]) σ H (unitM.map V.int) := by
  rw [← unit_text, List.map_map]
  refine el_range _ (by decide) (by decide) fun j hj => ?_
  refine ev_intB (ev_eq (ev_mod (ev_var ?_) ev_c (by decide)) ev_c)
  have : ∀ (σ : L2.St) (c : Nat) (v : V), c < σ.length → sl (σ.set c (some v)) c = some v := by
    intro σ
    induction σ with
    | nil => intro c v h; cases h
    | cons x r ih =>
      intro c v h
      cases c with
      | zero => rfl
      | succ n => exact ih n v (by simpa using h)
  exact this σ c _ hc
theorem r_law_k05 {K : PySem.W.Frag} {a : V} {H : Hp} {Q : VK} (h : pLaw K a H Q) :
    t_law_k05 K (sp1 (pMkPool K)) (sp1 pAnyMatrix) (sp2 (pGood K)) (sp2 (pComposed K)) (sp2 (pComposed K)) (dEnds Q) [some a, none, none, none, none, none, none, none, none, none] H := by
  obtain ⟨s, ns, rfl, hs, hl, q⟩ := h
  refine ⟨s, ns, rfl, hs, hl, fun p H1 n s1 np hP hn => ?_⟩
  dsimp only [gName, List.set]
  refine ⟨p, n, rfl, hP, fun x H2 A d2 nx hx lA bA => ?_⟩
  have hxp : x ≠ p := hP.ne nx
  dsimp only [gName, List.set]
  refine ⟨p, n, rfl, d2.pool, fun y H3 B d3 ny hy lB bB => ?_⟩
  have hyp : y ≠ p := d2.pool.ne ny
  dsimp only [gName, List.set]
  refine ⟨p, n, rfl, d3.pool, fun z H4 C d4 nz hz lC bC => ?_⟩
  dsimp only [gName, List.set]
  have mA : IsM K H4 x A 137 := ⟨SqL.of (d4.sb _ _ hxp (d3.sb _ _ hxp hx)), lA, bA⟩
  have mB : IsM K H4 y B 137 := ⟨SqL.of (d4.sb _ _ hyp hy), lB, bB⟩
  have mC : IsM K H4 z C 137 := ⟨SqL.of hz, lC, bC⟩
  refine st_asgL (el_unit (by show 9 < 10; decide)) fun u H5 nu s5 hu => ?_
  dsimp only [List.set]
  have mU : IsM K H5 u unitM 137 := ⟨SqL.of hu, unit_len, unit_bd⟩
  replace mA := mA.same s5
  replace mB := mB.same s5
  replace mC := mC.same s5
  refine st_forU (xss := [[.ref x, .ref y], [.ref y, .ref x], [.ref y, .ref z], [.ref x, .ref u], [.ref u, .ref x], [.ref z, .ref z]]) (el_lstU (ea_consU (eu_tup (ea_cons (ev_var rfl) (ea_cons (ev_var rfl) ea_nil)) le2) (ea_consU (eu_tup (ea_cons (ev_var rfl) (ea_cons (ev_var rfl) ea_nil)) le2) (ea_consU (eu_tup (ea_cons (ev_var rfl) (ea_cons (ev_var rfl) ea_nil)) le2) (ea_consU (eu_tup (ea_cons (ev_var rfl) (ea_cons (ev_var rfl) ea_nil)) le2) (ea_consU (eu_tup (ea_cons (ev_var rfl) (ea_cons (ev_var rfl) ea_nil)) le2) (ea_consU (eu_tup (ea_cons (ev_var rfl) (ea_cons (ev_var rfl) ea_nil)) le2) ea_nilU)))))) (show 6 ≤ 100000 by decide)) fun l ps H6 nl s6 el hps => ?_
  replace mA := mA.same s6
  replace mB := mB.same s6
  replace mC := mC.same s6
  replace mU := mU.same s6
  refine for_list (K := K) (a := l) (xs := ps.map V.ref) (fun j σ H' => Same H6 H' ∧ ∃ y6 y7 y8 y9, σ = [some (.ref s), some (.ref p), some (.ref x), some (.ref y), some (.ref z), some (.ref u), y6, y7, y8, y9]) ⟨Same.refl _, _, _, _, _, rfl⟩ (fun j σ H' _ hv => hv.1.seq (SqL.of el)) (fun j v σ H' hj hv => ?_) (fun σ H' hv => ?_)
  · obtain ⟨s7, y6, y7, y8, y9, rfl⟩ := hv
    have go : ∀ (D : Ends) (t a b : Addr) (M N : List Int), (∀ H8, Same H' H8 → D.nx [some (.ref s), some (.ref p), some (.ref x), some (.ref y), some (.ref z), some (.ref u), some (.ref t), y7, y8, y9] H8) → H6 t = some (.tup [.ref a, .ref b]) → IsM K H6 a M 137 → IsM K H6 b N 137 → tIfS (tNot (cTest K (cCall (sp2 (pGood K)) (tCons (tOp (cIx K) (cVar 6) (tC (.int 0))) (tCons (tOp (cIx K) (cVar 6) (tC (.int 1))) tNil))))) (tRet (tC (.bl false))) tNext D [some (.ref s), some (.ref p), some (.ref x), some (.ref y), some (.ref z), some (.ref u), some (.ref t), y7, y8, y9] H' := fun D t a b M N k ht hM hN => by
      refine ⟨_, _, .inr (SqT.of (s7 _ _ ht)), ix0, _, _, .inr (SqT.of (s7 _ _ ht)), ix1, a, b, M, N, rfl, rfl, hM.same s7, hN.same s7, fun H8 s8 => ?_⟩
      exact k H8 s8
    obtain ⟨t, ht, rfl⟩ := List.mem_map.mp (List.mem_of_getElem? hj)
    obtain ⟨xs, hxs, e⟩ := paired_mem hps ht
    simp only [List.mem_cons, List.not_mem_nil, or_false] at hxs
    dsimp only [gName, List.set]
    rcases hxs with h | h | h | h | h | h <;> subst h
    · exact go _ _ _ _ _ _ (fun H8 s8 => ⟨s7.trans s8, _, _, _, _, rfl⟩) e mA mB
    · exact go _ _ _ _ _ _ (fun H8 s8 => ⟨s7.trans s8, _, _, _, _, rfl⟩) e mB mA
    · exact go _ _ _ _ _ _ (fun H8 s8 => ⟨s7.trans s8, _, _, _, _, rfl⟩) e mB mC
    · exact go _ _ _ _ _ _ (fun H8 s8 => ⟨s7.trans s8, _, _, _, _, rfl⟩) e mA mU
    · exact go _ _ _ _ _ _ (fun H8 s8 => ⟨s7.trans s8, _, _, _, _, rfl⟩) e mU mA
    · exact go _ _ _ _ _ _ (fun H8 s8 => ⟨s7.trans s8, _, _, _, _, rfl⟩) e mC mC
  · obtain ⟨s7, y6, y7, y8, y9, rfl⟩ := hv
    replace mA := mA.same s7
    replace mB := mB.same s7
    replace mC := mC.same s7
    replace mU := mU.same s7
    refine ⟨_, .inl mA.at_, fun c1 k1 => ⟨_, .inl ((same_upd k1).seq mU.at_), fun c2 k2 => ?_⟩⟩
    have v1 := same_upd (o := .lst (A.map V.int)) k1
    have v2 := same_upd (o := .lst (unitM.map V.int)) k2
    refine ⟨c1, c2, A, unitM, 137, 137, rfl, rfl, ⟨SqL.of (v2 _ _ upd_same), lA, bA⟩, ⟨SqL.of upd_same, unit_len, unit_bd⟩, by decide, by decide, by decide, fun r1 H8 s8 _ hr1 => ?_⟩
    have s9 := (v1.trans v2).trans s8
    refine ⟨_, _, dp_ints (SqL.of hr1), dp_ints (mA.same s9).at_, intsD_shaped _, intsD_shaped _, ?_⟩
    rw [compM_unitR lA, intsD_eq]
    refine ⟨_, .inl (mU.same s9).at_, fun c3 k3 => ⟨_, .inl ((same_upd k3).seq (mA.same s9).at_), fun c4 k4 => ?_⟩⟩
    have v3 := same_upd (o := .lst (unitM.map V.int)) k3
    have v4 := same_upd (o := .lst (A.map V.int)) k4
    refine ⟨c3, c4, unitM, A, 137, 137, rfl, rfl, ⟨SqL.of (v4 _ _ upd_same), unit_len, unit_bd⟩, ⟨SqL.of upd_same, lA, bA⟩, by decide, by decide, by decide, fun r2 H9 s10 _ hr2 => ?_⟩
    have s11 := s9.trans ((v3.trans v4).trans s10)
    refine ⟨_, _, dp_ints (SqL.of hr2), dp_ints (mA.same s11).at_, intsD_shaped _, intsD_shaped _, ?_⟩
    rw [compM_unitL lA, intsD_eq]
    refine ⟨x, x, A, A, 137, 137, rfl, rfl, mA.same s11, mA.same s11, by decide, by decide, by decide, fun r3 H10 s12 _ hr3 => ?_⟩
    refine ⟨x, x, A, A, 137, 137, rfl, rfl, mA.same (s11.trans s12), mA.same (s11.trans s12), by decide, by decide, by decide, fun r4 H11 s13 _ hr4 => ?_⟩
    refine ⟨_, _, dp_ints (SqL.of (s13 _ _ hr3)), dp_ints (SqL.of hr4), intsD_shaped _, intsD_shaped _, ?_⟩
    rw [intsD_eq]
    have s14 := (s11.trans s12).trans s13
    refine ⟨x, y, A, B, 137, 137, rfl, rfl, mA.same s14, mB.same s14, by decide, by decide, by decide, fun r5 H12 s15 _ hr5 => ?_⟩
    refine ⟨r5, z, compM A B, C, 277, 137, rfl, rfl, ⟨SqL.of hr5, compM_len _ _, compM_bd bA bB⟩, mC.same (s14.trans s15), by decide, by decide, by decide, fun r6 H13 s16 _ hr6 => ?_⟩
    dsimp only [gName, List.set]
    have s17 := (s14.trans s15).trans s16
    refine ⟨y, z, B, C, 137, 137, rfl, rfl, mB.same s17, mC.same s17, by decide, by decide, by decide, fun r7 H14 s18 _ hr7 => ?_⟩
    refine ⟨x, r7, A, compM B C, 137, 277, rfl, rfl, mA.same (s17.trans s18), ⟨SqL.of hr7, compM_len _ _, compM_bd bB bC⟩, by decide, by decide, by decide, fun r8 H15 s19 _ hr8 => ?_⟩
    dsimp only [gName, List.set]
    refine ⟨_, _, dp_ints (SqL.of ((s18.trans s19) _ _ hr6)), dp_ints (SqL.of hr8), intsD_shaped _, intsD_shaped _, ?_⟩
    rw [compM_assoc, intsD_eq]
    exact q _
end PH

namespace PH
open PySem PySem.Spec PyProof.Rows L2
def pIdentity : Hp → VK → Prop := fun H Q => ∀ t H', Same H H' → H t = none → H' t = some (.lst (unitM.map V.int)) → Q (.ref t) H'
theorem r_identity {K : PySem.W.Frag} {H : Hp} {Q : VK} (h : pIdentity H Q) : t_identity K (dEnds Q) [none] H := st_retL (el_unit (by show 0 < 1; decide)) fun t H' nt s ht => h t H' s nt ht
/-- rows 1 to 4 those of the identity times the first number -/
def keptM (M : List Int) : List Int := mx fun i j => if i = 0 ∨ 4 < i then gt M (7 * i + j) else gt M 0 * delta i j
theorem keptM_len (M : List Int) : (keptM M).length = 49 := mx_len _
theorem cut_ints (M : List Int) (lo hi : Option Int) : cutV (M.map V.int) lo hi = ((M.drop (HT.sIx M.length 0 lo)).take (HT.sIx M.length M.length hi - HT.sIx M.length 0 lo)).map V.int := by
  unfold cutV
  rw [List.length_map, ← List.map_drop, ← List.map_take]
def keptL (M : List Int) : List Int := M.take 7 ++ ((unitM.drop 7).take 28).map (gt M 0 * ·) ++ M.drop 35
theorem gt_append {A B : List Int} {t : Nat} : gt (A ++ B) t = if t < A.length then gt A t else gt B (t - A.length) := by
  unfold gt
  rw [List.getD_eq_getElem?_getD, List.getD_eq_getElem?_getD, List.getD_eq_getElem?_getD, List.getElem?_append]
  by_cases h : t < A.length
  · rw [if_pos h, if_pos h]
  · rw [if_neg h, if_neg h]
theorem gt_take {A : List Int} {n t : Nat} (h : t < n) : gt (A.take n) t = gt A t := by
  unfold gt
  rw [List.getD_eq_getElem?_getD, List.getD_eq_getElem?_getD, List.getElem?_take, if_pos h]
theorem gt_drop {A : List Int} {n t : Nat} : gt (A.drop n) t = gt A (n + t) := by
  unfold gt
  rw [List.getD_eq_getElem?_getD, List.getD_eq_getElem?_getD, List.getElem?_drop]
theorem gt_mul {A : List Int} {c : Int} {t : Nat} : gt (A.map (c * ·)) t = c * gt A t := by
  unfold gt
  rw [List.getD_eq_getElem?_getD, List.getD_eq_getElem?_getD, List.getElem?_map]
  cases A[t]? with
  | none => simp
  | some x => rfl
theorem keptL_eq {M : List Int} (h : M.length = 49) : keptL M = keptM M := by
  have l1 : (M.take 7).length = 7 := by rw [List.length_take, h]; rfl
  have l2 : (((unitM.drop 7).take 28).map (gt M 0 * ·)).length = 28 := by rw [List.length_map, List.length_take, List.length_drop, unit_len]; rfl
  refine mx_eq ?_ (keptM_len M) fun i j hi hj => ?_
  · unfold keptL
    rw [List.length_append, List.length_append, l1, l2, List.length_drop, h]
  · unfold keptL keptM
    rw [gt_mx hi hj, gt_append, List.length_append, l1, l2, gt_append, l1]
    by_cases h0 : i = 0
    · rw [if_pos (by omega), if_pos (by omega), if_pos (.inl h0), gt_take (by omega)]
    · by_cases h4 : 4 < i
      · rw [if_neg (by omega), if_pos (.inr h4), gt_drop, show 35 + (7 * i + j - (7 + 28)) = 7 * i + j by omega]
      · rw [if_pos (by omega), if_neg (by omega), if_neg (by omega), gt_mul, gt_take (by omega), gt_drop, show 7 + (7 * i + j - 7) = 7 * i + j by omega]
        unfold unitM
        rw [gt_mx hi hj]
def pKept (K : PySem.W.Frag) : V → Hp → VK → Prop := fun a H Q => ∃ (p : Addr) (M : List Int), a = .ref p ∧ SqL K H p (M.map V.int) ∧ M.length = 49 ∧ ∀ t H', Same H H' → H t = none → H' t = some (.lst ((keptM M).map V.int)) → Q (.ref t) H'
def mulV (c : Int) : V → V
  | .int a => .int (c * a)
  | _ => .non
theorem mulV_map (c : Int) : ∀ A : List Int, (A.map V.int).map (mulV c) = (A.map (c * ·)).map V.int
  | [] => rfl
  | x :: r => by
    show mulV c (.int x) :: (r.map V.int).map (mulV c) = _
    rw [mulV_map c r]
    rfl
theorem unit_small {x : Int} (h : x ∈ unitM) : x = 0 ∨ x = 1 := by
  unfold unitM mx at h
  obtain ⟨t, _, rfl⟩ := List.mem_map.mp h
  unfold delta
  split
  · exact .inr rfl
  · exact .inl rfl
theorem el_callId {σ : L2.St} {H : Hp} : EvL (cCall (sp0 pIdentity) tNil) σ H (unitM.map V.int) := fun H2 Q s k t H' s3 nt ht => k t H' nt s3 ht
theorem r_kept_matrix {K : PySem.W.Frag} {a : V} {H : Hp} {Q : VK} (h : pKept K a H Q) : t_kept_matrix K (sp0 pIdentity) (dEnds Q) [some a, none, none, none] H := by
  obtain ⟨p, M, rfl, hM, hl, q⟩ := h
  refine st_asg (ev_ixL (p := p) (ev_var rfl) ev_c hM (atM (n := 0) (by decide) (by rw [hl]; decide))) fun H1 s1 => ?_
  dsimp only [List.set]
  refine st_asgL (el_listN (mulV (gt M 0)) (el_cutL el_callId (eo_some ev_c) (eo_some ev_c)) ?_ fun x hx => ?_) fun r H2 nr s2 hr => ?_
  · rw [cut_ints, List.length_map, List.length_take, List.length_drop, unit_len]
    exact Nat.le_trans (Nat.min_le_right _ _) (by omega)
  · rw [cut_ints] at hx
    obtain ⟨y, hy, rfl⟩ := List.mem_map.mp hx
    have hy := unit_small (List.mem_of_mem_drop (List.mem_of_mem_take hy))
    exact ev_mul (ev_var rfl) (ev_var rfl) (mulR (by omega) (by omega))
  · dsimp only [List.set]
    rw [cut_ints, mulV_map] at hr
    have hM2 := (s1.trans s2).seq hM
    have hr2 : H2 r = some (.lst ((((unitM.drop 7).take 28).map (gt M 0 * ·)).map V.int)) := by
      rw [hr, show HT.sIx unitM.length 0 (some 7) = 7 by rw [unit_len]; rfl, show HT.sIx unitM.length unitM.length (some 35) = 35 by rw [unit_len]; rfl]
    refine st_retL (el_cat (el_catN (el_cut (p := p) (ev_var rfl) eo_none (eo_some ev_c) hM2) (ev_var rfl) hr2 ?_) (el_cut (p := p) (ev_var rfl) (eo_some ev_c) eo_none hM2) ?_) fun t H3 nt s3 ht => ?_
    · rw [cut_ints, List.length_map, List.length_map, List.length_take, List.length_map, List.length_take, List.length_drop, List.length_drop, unit_len, hl]
      decide
    · rw [cut_ints, cut_ints, List.length_append, List.length_map, List.length_map, List.length_map, List.length_take, List.length_map, List.length_take, List.length_take, List.length_drop, List.length_drop, List.length_drop, unit_len, hl]
      decide
    · refine q t H3 ((s1.trans s2).trans s3) ((s1.trans s2).free nt) ?_
      rw [ht, ← keptL_eq hl, cut_ints, cut_ints, ← List.map_append, ← List.map_append]
      unfold keptL
      rw [show HT.sIx M.length 0 none = 0 from rfl, show HT.sIx M.length M.length (some 7) = 7 by rw [hl]; rfl, show HT.sIx M.length 0 (some 35) = 35 by rw [hl]; rfl, show HT.sIx M.length M.length none = M.length from rfl, List.drop_zero, hl, show (M.drop 35).take (49 - 35) = M.drop 35 from List.take_of_length_le (by rw [List.length_drop, hl]; decide)]
theorem ev_deltaB {K : PySem.W.Frag} {σ : L2.St} {H : Hp} {ta tb : TE} {i j : Nat} (ha : Ev ta σ H (.int (0 + (i : Nat)))) (hb : Ev tb σ H (.int (0 + (j : Nat)))) : Ev (tCB (c1 cInt) (tCons (tOp (cEq K) ta tb) tNil)) σ H (.int (delta i j)) := by
  have := ev_intB (ev_eq (K := K) ha hb)
  have e : (if decide ((0 + (i : Int)) = 0 + (j : Int)) = true then (1 : Int) else 0) = delta i j := by
    unfold delta
    by_cases h : i = j
    · rw [if_pos h, if_pos (decide_eq_true (by omega))]
    · rw [if_neg h, if_neg (by rw [decide_eq_false (by omega)]; decide)]
  rw [e] at this
  exact this
theorem r_L_due {K : PySem.W.Frag} {a : V} {H : Hp} {Q : VK} (h : pKept K a H Q) : t_L_due K (dEnds Q) [some a, none, none, none] H := by
  obtain ⟨p, M, rfl, hM, hl, k⟩ := h
  refine ⟨Nat.zero_le _, fun t nt => ?_⟩
  dsimp only [gName, List.set]
  let F : Nat → Nat → Int := fun i j => if i = 0 ∨ 4 < i then gt M (7 * i + j) else gt M 0 * delta i j
  refine st_forR (n := 7) ev_c (by decide) (by decide) fun H0 s0 => ?_
  refine for_range (n := 7) (fun i σ H' => Same H H' ∧ ∃ y2 y3, σ = [some (.ref p), some (.ref t), y2, y3] ∧ H' t = some (.lst ((rows F i).map V.int))) ⟨(same_upd nt).trans s0, _, _, rfl, s0 _ _ upd_same⟩ (fun i σ H1 hi hv => ?_) (fun σ H1 hv => ?_)
  · obtain ⟨s1, y2, y3, rfl, ht⟩ := hv
    dsimp only [gName, List.set]
    refine ⟨7, rfl, by decide, by decide, ?_⟩
    refine for_range (n := 7) (fun j σ H' => Same H H' ∧ ∃ y3, σ = [some (.ref p), some (.ref t), some (.int (0 + (i : Nat))), y3] ∧ H' t = some (.lst ((rows F i ++ (List.range j).map (F i)).map V.int))) ⟨s1, _, rfl, by rw [ht]; simp⟩ (fun j σ H2 hj hv => ?_) (fun σ H2 hv => ?_)
    · obtain ⟨s2, y3, rfl, ht2⟩ := hv
      dsimp only [gName, List.set]
      have hM2 := s2.seq hM
      have fin : ∀ (x : Int) (D : Ends) (H3 : Hp) (te : TE), x = F i j → Ev te [some (.ref p), some (.ref t), some (.int (0 + (i : Nat))), some (.int (0 + (j : Nat)))] H2 (.int x) →
          (∀ H4, Same H H4 → H4 t = some (.lst ((rows F i ++ (List.range (j + 1)).map (F i)).map V.int)) → D.nx [some (.ref p), some (.ref t), some (.int (0 + (i : Nat))), some (.int (0 + (j : Nat)))] H4) → tDrop (tBM K "list" cAppend (cVar 1) (tCons te tNil)) D [some (.ref p), some (.ref t), some (.int (0 + (i : Nat))), some (.int (0 + (j : Nat)))] H2 := fun x D H3 te ex ev kk => by
        refine ⟨.inl ⟨rfl, _, SqL.of ht2⟩, ?_⟩
        show te _ H2 _
        refine ev H2 _ (Same.refl _) fun H4 s4 => ⟨_, s4 _ _ ht2, sz (by rw [List.length_map, List.length_append, rows_len, List.length_map, List.length_range]; omega), ?_⟩
        refine kk _ (Same.put (s2.trans s4) nt) ?_
        rw [upd_same, show List.range (j + 1) = List.range j ++ [j] from List.range_succ, List.map_append (l₁ := List.range j), ← List.append_assoc, List.map_append (l₂ := List.map (F i) [j]), ex]
        rfl
      have hF0 : i = 0 ∨ 4 < i → gt M (7 * i + j) = F i j := fun h => by show _ = if _ then _ else _; rw [if_pos h]
      have hF1 : ¬ (i = 0 ∨ 4 < i) → gt M 0 * delta i j = F i j := fun h => by show _ = if _ then _ else _; rw [if_neg h]
      refine if2 (fun e => ?_) (fun e => ?_)
      · have e' : i = 0 := by have := of_decide_eq_true e; omega
        exact fin _ _ H2 _ (hF0 (.inl e')) (ev_ixL (p := p) (ev_var rfl) (ev_add (ev_mul ev_c (ev_var rfl) (mulL (by decide) (by decide))) (ev_var rfl)) hM2 (atM (n := 7 * i + j) (by omega) (by rw [hl]; omega))) fun H4 s4 h4 => ⟨s4, _, rfl, h4⟩
      · have e0 : i ≠ 0 := by have := of_decide_eq_false e; omega
        refine if2 (fun e2 => ?_) (fun e2 => ?_)
        · have e' : 4 < i := by have := of_decide_eq_true e2; omega
          exact fin _ _ H2 _ (hF0 (.inr e')) (ev_ixL (p := p) (ev_var rfl) (ev_add (ev_mul ev_c (ev_var rfl) (mulL (by decide) (by decide))) (ev_var rfl)) hM2 (atM (n := 7 * i + j) (by omega) (by rw [hl]; omega))) fun H4 s4 h4 => ⟨s4, _, rfl, h4⟩
        · have e' : ¬ 4 < i := by have := of_decide_eq_false e2; omega
          refine fin _ _ H2 _ (hF1 (by omega)) (ev_mul (ev_ixL (p := p) (ev_var rfl) ev_c hM2 (atM (n := 0) (by decide) (by rw [hl]; decide))) (ev_deltaB (ev_var rfl) (ev_var rfl)) ?_) fun H4 s4 h4 => ⟨s4, _, rfl, h4⟩
          refine mulR ?_ ?_ <;> (unfold delta; split <;> decide)
    · obtain ⟨s2, y3, rfl, ht2⟩ := hv
      exact ⟨s2, _, _, rfl, by rw [ht2, rows_succ]⟩
  · obtain ⟨s1, y2, y3, rfl, ht⟩ := hv
    refine k t H1 s1 nt ?_
    rw [ht, rows_mx]
    rfl
end PH

namespace PH
open PySem PySem.Spec PyProof.Rows L2
theorem keptM_gt {M : List Int} {i j : Nat} (hi : i < 7) (hj : j < 7) : gt (keptM M) (7 * i + j) = if i = 0 ∨ 4 < i then gt M (7 * i + j) else gt M 0 * delta i j := by
  unfold keptM
  rw [gt_mx hi hj]
theorem keptM_0 (M : List Int) : gt (keptM M) 0 = gt M 0 := by
  have := keptM_gt (M := M) (i := 0) (j := 0) (by decide) (by decide)
  rw [if_pos (.inl rfl)] at this
  exact this
theorem keptM_twice (M : List Int) : keptM (keptM M) = keptM M := by
  refine mx_eq (keptM_len _) (keptM_len _) fun i j hi hj => ?_
  rw [keptM_gt hi hj, keptM_0, keptM_gt hi hj]
  by_cases h : i = 0 ∨ 4 < i
  · rw [if_pos h, if_pos h]
  · rw [if_neg h, if_neg h]
@[irreducible] def mixM (f : Int) (A B : List Int) : List Int := (List.range 49).map fun k => gt A k + f * gt B k
theorem mixM_len (f : Int) (A B : List Int) : (mixM f A B).length = 49 := by
  unfold mixM
  simp
theorem mixM_gt {f : Int} {A B : List Int} {k : Nat} (h : k < 49) : gt (mixM f A B) k = gt A k + f * gt B k := by
  unfold mixM
  rw [gt_range h]
theorem keptM_mix (f : Int) (A B : List Int) : keptM (mixM f A B) = mixM f (keptM A) (keptM B) := by
  refine mx_eq (keptM_len _) (mixM_len _ _ _) fun i j hi hj => ?_
  rw [keptM_gt hi hj, mixM_gt (by omega), mixM_gt (by omega), mixM_gt (by omega), keptM_gt hi hj, keptM_gt hi hj]
  by_cases h : i = 0 ∨ 4 < i
  · rw [if_pos h, if_pos h, if_pos h]
  · rw [if_neg h, if_neg h, if_neg h, Int.add_mul, Int.mul_assoc]
theorem el_mix {K : PySem.W.Frag} {σ : L2.St} {H : Hp} {c a b f : Nat} {p q : Addr} {A B : List Int} {x : Int} (hp : ∀ v, sl (σ.set c (some v)) a = some (.ref p)) (hq : ∀ v, sl (σ.set c (some v)) b = some (.ref q)) (hf : ∀ v, sl (σ.set c (some v)) f = some (.int x)) (hc : ∀ v, sl (σ.set c (some v)) c = some v)
    (hx : -9 ≤ x ∧ x ≤ 9) (hA : SqL K H p (A.map V.int)) (hB : SqL K H q (B.map V.int)) (lA : A.length = 49) (lB : B.length = 49) :
    EvL (tLc (iRng1 (tCons (tC (.int 49)) tNil)) (gName c) tYes (tOp (cAdd K) (tOp (cIx K) (cVar a) (cVar c)) (tOp rMulC (cVar f) (tOp (cIx K) (cVar b) (cVar c)))) [c]) σ H ((mixM x A B).map V.int) := by
  unfold mixM
  rw [List.map_map]
  refine el_range _ (by decide) (by decide) fun j hj => ?_
  exact ev_add (ev_ixL (p := p) (ev_var (hp _)) (ev_var (hc _)) hA (atM (n := j) (by omega) (by omega))) (ev_mul (ev_var (hf _)) (ev_ixL (p := q) (ev_var (hq _)) (ev_var (hc _)) hB (atM (n := j) (by omega) (by omega))) (mul9 hx))
@[irreducible] def zeroM : List Int := (List.range 49).map fun _ => 0
theorem zeroM_len : zeroM.length = 49 := by
  unfold zeroM
  simp
theorem el_zero {σ : L2.St} {H : Hp} {c : Nat} : EvL (tLc (iRng1 (tCons (tC (.int 49)) tNil)) (gName c) tYes (tC (.int 0)) [c]) σ H (zeroM.map V.int) := by
  unfold zeroM
  rw [List.map_map]
  exact el_range _ (by decide) (by decide) fun j hj => ev_c
theorem el_use {te : TE} {σ : L2.St} {H : Hp} {xs : List V} {Q : VK} (h : EvL te σ H xs) (k : ∀ p H3, H p = none → Same H H3 → H3 p = some (.lst xs) → Q (.ref p) H3) : te σ H Q := h H Q (Same.refl _) k
theorem r_law_k06 {K : PySem.W.Frag} {a : V} {H : Hp} {Q : VK} (h : pLaw K a H Q) :
    t_law_k06 K (sp1 (pMkPool K)) (sp1 pAnyMatrix) (sp2 pDraw) (sp1 (pKept K)) (sp1 (pIsMat K)) (sp1 (pKept K)) (dEnds Q) [some a, none, none, none, none, none, none, none, none, none, none, none] H := by
  obtain ⟨s, ns, rfl, hs, hl, q⟩ := h
  refine ⟨s, ns, rfl, hs, hl, fun p H1 n s1 np hP hn => ?_⟩
  dsimp only [gName, List.set]
  refine ⟨p, n, rfl, hP, fun x H2 A d2 nx hx lA bA => ?_⟩
  have hxp : x ≠ p := hP.ne nx
  dsimp only [gName, List.set]
  refine ⟨p, n, rfl, d2.pool, fun y H3 B d3 ny hy lB bB => ?_⟩
  have hyp : y ≠ p := d2.pool.ne ny
  dsimp only [gName, List.set]
  refine ⟨p, n, 19, rfl, rfl, d3.pool, by decide, by decide, fun f H4 f0 f1 s4 => ?_⟩
  dsimp only [gName, List.set]
  have mA : H4 x = some (.lst (A.map V.int)) := by rw [s4.at hxp]; exact d3.sb _ _ hxp hx
  have mB : H4 y = some (.lst (B.map V.int)) := by rw [s4.at hyp]; exact hy
  refine st_asgL (el_mix (p := x) (q := y) (x := f - 9) (fun _ => rfl) (fun _ => rfl) (fun _ => rfl) (fun _ => rfl) ⟨by omega, by omega⟩ (SqL.of mA) (SqL.of mB) lA lB) fun m H5 nm s5 hm => ?_
  dsimp only [List.set]
  replace mA := s5 _ _ mA
  replace mB := s5 _ _ mB
  refine st_forG (el_lstG (eg_cons (ev_var rfl) (eg_cons (ev_var rfl) (eg_cons (ev_var rfl) (eg_consL el_zero eg_nil)))) ?_) fun l vs H6 H7 nl s6 s7 hP6 el => ?_
  · rintro _ _ ⟨_, rfl, _, rfl, _, rfl, _, _, rfl, _, rfl⟩
    show 4 ≤ 100000
    decide
  obtain ⟨_, rfl, _, rfl, _, rfl, z, _, rfl, hz, rfl⟩ := hP6
  replace mA := s7 _ _ (s6 _ _ mA)
  replace mB := s7 _ _ (s6 _ _ mB)
  replace hm := s7 _ _ (s6 _ _ hm)
  replace hz := s7 _ _ hz
  refine for_list (K := K) (a := l) (xs := [.ref x, .ref y, .ref m, .ref z]) (fun j σ H' => Same H7 H' ∧ ∃ y6 y7 y8 y9 y10 y11, σ = [some (.ref s), some (.ref p), some (.ref x), some (.ref y), some (.int (f - 9)), some (.ref m), y6, y7, y8, y9, y10, y11]) ⟨Same.refl _, _, _, _, _, _, _, rfl⟩ (fun j σ H' _ hv => hv.1.seq (SqL.of el)) (fun j v σ H' hj hv => ?_) (fun σ H' hv => ?_)
  · obtain ⟨s8, y6, y7, y8, y9, y10, y11, rfl⟩ := hv
    obtain ⟨t, M, rfl, ht, lM⟩ : ∃ t M, v = .ref t ∧ H7 t = some (.lst ((M : List Int).map V.int)) ∧ M.length = 49 := by
      have hv := List.mem_of_getElem? hj
      simp only [List.mem_cons, List.not_mem_nil, or_false] at hv
      rcases hv with h | h | h | h
      · exact ⟨_, A, h, mA, lA⟩
      · exact ⟨_, B, h, mB, lB⟩
      · exact ⟨_, _, h, hm, mixM_len _ _ _⟩
      · exact ⟨_, _, h, hz, zeroM_len⟩
    dsimp only [gName, List.set]
    have ht8 := s8 _ _ ht
    refine st_asgL (el_listL (p := t) (ev_var rfl) (SqL.of ht8)) fun c H9 nc s9 hc => ?_
    dsimp only [List.set]
    refine ⟨c, M, rfl, SqL.of hc, lM, fun r H10 s10 nr hr => ?_⟩
    dsimp only [gName, List.set]
    refine ⟨r, _, rfl, SqL.of hr, keptM_len _, fun H11 s11 => ?_⟩
    have s81 := s9.trans (s10.trans s11)
    refine ⟨t, M, rfl, SqL.of (s81 _ _ ht8), lM, fun d H12 s12 nd hd => ?_⟩
    refine ⟨_, _, dp_ints (SqL.of ((s11.trans s12) _ _ hr)), dp_ints (SqL.of hd), intsD_shaped _, intsD_shaped _, ?_⟩
    rw [intsD_eq]
    refine ⟨_, _, dp_ints (SqL.of ((s10.trans (s11.trans s12)) _ _ hc)), dp_ints (SqL.of ((s81.trans s12) _ _ ht8)), intsD_shaped _, intsD_shaped _, ?_⟩
    rw [intsD_eq]
    refine ⟨r, _, rfl, SqL.of ((s11.trans s12) _ _ hr), keptM_len _, fun r2 H13 s13 _ hr2 => ?_⟩
    refine ⟨t, M, rfl, SqL.of (((s81.trans s12).trans s13) _ _ ht8), lM, fun d2 H14 s14 _ hd2 => ?_⟩
    refine ⟨_, _, dp_ints (SqL.of (s14 _ _ hr2)), dp_ints (SqL.of hd2), intsD_shaped _, intsD_shaped _, ?_⟩
    rw [keptM_twice, intsD_eq]
    exact ⟨s8.trans (((s81.trans s12).trans s13).trans s14), _, _, _, _, _, _, rfl⟩
  · obtain ⟨s8, y6, y7, y8, y9, y10, y11, rfl⟩ := hv
    refine ⟨x, A, rfl, SqL.of (s8 _ _ mA), lA, fun r H9 s9 nr hr => ?_⟩
    dsimp only [gName, List.set]
    refine ⟨y, B, rfl, SqL.of ((s8.trans s9) _ _ mB), lB, fun r2 H10 s10 nr2 hr2 => ?_⟩
    dsimp only [gName, List.set]
    refine ⟨m, _, rfl, SqL.of (((s8.trans s9).trans s10) _ _ hm), mixM_len _ _ _, fun r3 H11 s11 nr3 hr3 => ?_⟩
    refine el_use (el_mix (K := K) (p := r) (q := r2) (x := f - 9) (fun _ => rfl) (fun _ => rfl) (fun _ => rfl) (fun _ => rfl) ⟨by omega, by omega⟩ (SqL.of ((s10.trans s11) _ _ hr)) (SqL.of (s11 _ _ hr2)) (keptM_len _) (keptM_len _)) fun r4 H12 _ s12 hr4 => ?_
    refine ⟨_, _, dp_ints (SqL.of (s12 _ _ hr3)), dp_ints (SqL.of hr4), intsD_shaped _, intsD_shaped _, ?_⟩
    rw [keptM_mix, intsD_eq]
    exact q _
end PH

namespace PH
open PySem PySem.Spec PyProof.Rows L2
def t_matrix_of (K : PySem.W.Frag) (f_is_command : Sp) (f_executed : Sp) : TS :=
  (tSeq (tIfS (tNot (cTest K (cCall f_is_command (tCons (cVar 0) tNil)))) tNever tNext)
  (tSeq (tAsg (cCall f_executed (tCons (tTup (tCons (tC (.int 0)) (tCons (tC (.int 0)) (tCons (tC (.int 0)) (tCons (tC (.int 0)) (tCons (tC (.int 0)) (tCons (tC (.int 0)) tNil))))))) (tCons (cVar 0) tNil))) (gName 1))
  (tSeq (tAsg (tLst (tCons (tLst (tCons (tC (.int 1)) (StX.tStar K (cVar 1) tNil))) tNil)) (gName 2))
  (tSeq (tFor (iRng1 (tCons (tC (.int 6)) tNil)) (gName 3) (tSeq (tAsg (tCB (c1 (cTuple K)) (tCons (tLc (iRng1 (tCons (tC (.int 6)) tNil)) (gName 6) tYes (tCB (c1 cInt) (tCons (tOp (cEq K) (cVar 6) (cVar 3)) tNil)) [6]) tNil)) (gName 4))
  (tSeq (tAsg (cCall f_executed (tCons (cVar 4) (tCons (cVar 0) tNil))) (gName 5))
  (tDrop (tBM K "list" cAppend (cVar 2) (tCons (tOp (cAdd K) (tLst (tCons (tC (.int 0)) tNil)) (tLc (iRng1 (tCons (tC (.int 6)) tNil)) (gName 6) tYes (tOp rSubC (tOp (cIx K) (cVar 5) (cVar 6)) (tOp (cIx K) (cVar 1) (cVar 6))) [6])) tNil))))))
  (tRet (tLc2 (iRng1 (tCons (tC (.int 7)) tNil)) (gName 7) tYes (iRng1 (tCons (tC (.int 7)) tNil)) (gName 8) tYes (tOp (cIx K) (tOp (cIx K) (cVar 2) (cVar 8)) (cVar 7)) [7, 8] [8]))))))
def t_L_pens (K : PySem.W.Frag) (f_L_move : Sp) : TS :=
  (tSeq (tAsg (tLst tNil) (gName 2))
  (tSeq (tAsg (tLst tNil) (gName 3))
  (tSeq (tFor (iSeq K (cVar 0)) (gName 4) (tIfS (cB (tOp (cEq K) (tOp (cIx K) (cVar 4) (tC (.int 0))) (tC (.str "hold")))) (tDrop (tBM K "list" cAppend (cVar 3) (tCons (cVar 1) tNil))) (tIfS (cB (tOp (cEq K) (tOp (cIx K) (cVar 4) (tC (.int 0))) (tC (.str "shut")))) (tAsg (tOp (cAdd K) (tSl (cSl K) (tBM0 K "list" cPop (cVar 3)) tNoPart (cPart (tC (.int 4)))) (tSl (cSl K) (cVar 1) (cPart (tC (.int 4))) tNoPart)) (gName 1)) (tSeq (tAsg (cCall f_L_move (tCons (cVar 1) (tCons (cVar 4) tNil))) (gName 1))
  (tDrop (tBM K "list" cAppend (cVar 2) (tCons (cVar 1) tNil)))))))
  (tRet (tLst (tCons (cVar 2) (tCons (cVar 1) tNil)))))))
def t_L_probe (K : PySem.W.Frag) (f_L_pens : Sp) : TS :=
  (tSeq (tAsg (tOp (cIx K) (cCall f_L_pens (tCons (cVar 0) (tCons (tTup (tCons (tC (.int 0)) (tCons (tC (.int 0)) (tCons (tC (.int 0)) (tCons (tC (.int 0)) (tCons (tC (.int 0)) (tCons (tC (.int 0)) tNil))))))) tNil))) (tC (.int 1))) (gName 1))
  (tSeq (tAsg (tLc (iRng1 (tCons (tC (.int 6)) tNil)) (gName 5) tYes (tOp (cIx K) (cCall f_L_pens (tCons (cVar 0) (tCons (tCB (c1 (cTuple K)) (tCons (tLc (iRng1 (tCons (tC (.int 6)) tNil)) (gName 6) tYes (tCB (c1 cInt) (tCons (tOp (cEq K) (cVar 6) (cVar 5)) tNil)) [6]) tNil)) tNil))) (tC (.int 1))) [5]) (gName 2))
  (tSeq (tAsg (tLst (tCons (tC (.int 1)) (tCons (tC (.int 0)) (tCons (tC (.int 0)) (tCons (tC (.int 0)) (tCons (tC (.int 0)) (tCons (tC (.int 0)) (tCons (tC (.int 0)) tNil)))))))) (gName 3))
  (tSeq (tFor (iRng1 (tCons (tC (.int 6)) tNil)) (gName 4) (tSeq (tDrop (tBM K "list" cAppend (cVar 3) (tCons (tOp (cIx K) (cVar 1) (cVar 4)) tNil)))
  (tFor (iRng1 (tCons (tC (.int 6)) tNil)) (gName 5) (tDrop (tBM K "list" cAppend (cVar 3) (tCons (tOp rSubC (tOp (cIx K) (tOp (cIx K) (cVar 2) (cVar 5)) (cVar 4)) (tOp (cIx K) (cVar 1) (cVar 4))) tNil))))))
  (tRet (cVar 3))))))
def t_law_k03 (K : PySem.W.Frag) (f_L_pool : Sp) (f_L_any_command : Sp) (f_L_pen : Sp) (f_matrix_of : Sp) (f_L_is_matrix : Sp) (f_L_probe : Sp) (f_L_image : Sp) (f_L_move : Sp) (f_L_draw : Sp) : TS :=
  (tSeq (tAsg (cCall f_L_pool (tCons (cVar 0) tNil)) (gName 1))
  (tSeq (tFor (iRng1 (tCons (tOp rSubC (tCB (c1 (cLen K)) (tCons (cVar 1) tNil)) (tC (.int 1))) tNil)) (gName 2) (tSeq (tAsg (cCall f_L_any_command (tCons (cVar 1) tNil)) (gName 3))
  (tSeq (tAsg (cCall f_L_pen (tCons (cVar 1) tNil)) (gName 4))
  (tSeq (tAsg (cCall f_matrix_of (tCons (cVar 3) tNil)) (gName 5))
  (tSeq (tIfS (tOr (tNot (cTest K (cCall f_L_is_matrix (tCons (cVar 5) tNil)))) (cB (tOp (cNe K) (cVar 5) (cCall f_L_probe (tCons (tLst (tCons (cVar 3) tNil)) tNil))))) (tRet (tC (.bl false))) tNext)
  (tSeq (tIfS (cB (tOp (cNe K) (cCall f_L_image (tCons (cVar 5) (tCons (cVar 4) tNil))) (cCall f_L_move (tCons (cVar 4) (tCons (cVar 3) tNil))))) (tRet (tC (.bl false))) tNext)
  (tSeq (tAsg (cCall f_L_draw (tCons (cVar 1) (tCons (tC (.int 49)) tNil))) (gName 6))
  (tSeq (tAsg (tOp (cAdd K) (tOp (cIx K) (cVar 5) (cVar 6)) (tC (.int 1))) (gSub (cVar 5) (cVar 6) cSetL))
  (tIfS (cB (tOp (cNe K) (cCall f_matrix_of (tCons (cVar 3) tNil)) (cCall f_L_probe (tCons (tLst (tCons (cVar 3) tNil)) tNil)))) (tRet (tC (.bl false))) tNext)))))))))
  (tRet (tC (.bl true)))))
end PH

namespace PH
open PySem PySem.Spec PyProof.Rows L2
def t_L_chain (K : PySem.W.Frag) (f_composed : Sp) (f_matrix_of : Sp) : TS :=
  (tSeq (tAsg (tLc (iRng1 (tCons (tC (.int 49)) tNil)) (gName 3) tYes (tCB (c1 cInt) (tCons (tOp (cEq K) (tOp rModC (cVar 3) (tC (.int 8))) (tC (.int 0))) tNil)) [3]) (gName 1))
  (tSeq (tFor (iSeq K (cVar 0)) (gName 2) (tAsg (cCall f_composed (tCons (cVar 1) (tCons (cCall f_matrix_of (tCons (cVar 2) tNil)) tNil))) (gName 1)))
  (tRet (cVar 1))))
def t_law_k07 (K : PySem.W.Frag) (f_L_pool : Sp) (f_L_any_command : Sp) (f_L_pen : Sp) (f_L_draw : Sp) (f_L_chain : Sp) (f_composed : Sp) (f_matrix_of : Sp) (f_L_probe : Sp) (f_moved : Sp) (f_L_pens : Sp) (f_applied : Sp) : TS :=
  (tSeq (tAsg (cCall f_L_pool (tCons (cVar 0) tNil)) (gName 1))
  (tSeq (tAsg (tLc (iRng1 (tCons (tOp rSubC (tCB (c1 (cLen K)) (tCons (cVar 1) tNil)) (tC (.int 1))) tNil)) (gName 10) tYes (cCall f_L_any_command (tCons (cVar 1) tNil)) [10]) (gName 2))
  (tSeq (tAsg (cCall f_L_pen (tCons (cVar 1) tNil)) (gName 3))
  (tSeq (tAsg (cCall f_L_draw (tCons (cVar 1) (tCons (tOp (cAdd K) (tCB (c1 (cLen K)) (tCons (cVar 2) tNil)) (tC (.int 1))) tNil))) (gName 4))
  (tSeq (tAsg (cCall f_L_chain (tCons (cVar 2) tNil)) (gName 5))
  (tSeq (tAsg (tLc (iRng1 (tCons (tC (.int 49)) tNil)) (gName 10) tYes (tCB (c1 cInt) (tCons (tOp (cEq K) (tOp rModC (cVar 10) (tC (.int 8))) (tC (.int 0))) tNil)) [10]) (gName 6))
  (tSeq (tFor (iRev K (tCons (tCB (c1 (cList K)) (tCons (cVar 2) tNil)) tNil)) (gName 7) (tAsg (cCall f_composed (tCons (cCall f_matrix_of (tCons (cVar 7) tNil)) (tCons (cVar 6) tNil))) (gName 6)))
  (tSeq (tAsg (cCall f_composed (tCons (cCall f_L_chain (tCons (tSl (cSl K) (cVar 2) tNoPart (cPart (cVar 4))) tNil)) (tCons (cCall f_L_chain (tCons (tSl (cSl K) (cVar 2) (cPart (cVar 4)) tNoPart) tNil)) tNil))) (gName 8))
  (tSeq (tIfS (tOr (cB (tOp (cNe K) (cVar 5) (cCall f_L_probe (tCons (cVar 2) tNil)))) (tOr (cB (tOp (cNe K) (cVar 6) (cVar 5))) (cB (tOp (cNe K) (cVar 8) (cVar 5))))) (tRet (tC (.bl false))) tNext)
  (tSeq (tAsg (cVar 3) (gName 9))
  (tSeq (tFor (iSeq K (cVar 2)) (gName 7) (tAsg (cCall f_moved (tCons (cVar 9) (tCons (cVar 7) tNil))) (gName 9)))
  (tRet (cAndV (tOp (cEq K) (cVar 9) (tOp (cIx K) (cCall f_L_pens (tCons (cVar 2) (tCons (cVar 3) tNil))) (tC (.int 1)))) (tOp (cEq K) (cCall f_applied (tCons (cVar 5) (tCons (cVar 3) tNil))) (cVar 9)))))))))))))))
end PH

namespace PH
open PySem PySem.Spec PyProof.Rows L2
def Lasts (P : V → Hp → Prop) : Prop := ∀ v H H', Same H H' → P v H → P v H'
def EvP (te : TE) (σ : L2.St) (H : Hp) (P : V → Hp → Prop) : Prop := ∀ H2 Q, Same H H2 → (∀ v H3, Same H2 H3 → P v H3 → Q v H3) → te σ H2 Q
/-- a new list of values with a property -/
def EvLP (te : TE) (σ : L2.St) (H : Hp) (P : List V → Hp → Prop) : Prop := ∀ H2 Q, Same H H2 → (∀ D H3 vs, H2 D = none → Same H2 H3 → H3 D = some (.lst vs) → P vs H3 → Q (.ref D) H3) → te σ H2 Q
section
variable {K : PySem.W.Frag} {σ : L2.St} {H H' : Hp} {ta tb te : TE} {v x y : V} {i : Nat} {p q : Addr} {xs ys : List V} {D : Ends} {rest : TS}
theorem EvP.mono (s : Same H H') {P : V → Hp → Prop} (h : EvP te σ H P) : EvP te σ H' P := fun H2 Q s2 k => h H2 Q (s.trans s2) k
theorem EvU.mono (s : Same H H') (h : EvU te σ H xs) : EvU te σ H' xs := fun H2 Q s2 k => h H2 Q (s.trans s2) k
theorem ep_tup {P : V → Hp → Prop} (h : EvU te σ H xs) (hp : ∀ p H3, Same H H3 → H3 p = some (.tup xs) → P (.ref p) H3) : EvP te σ H P := fun H2 Q s k => h H2 Q s fun p H3 _ s3 e => k _ H3 s3 (hp p H3 (s.trans s3) e)
/-- what a call leaves -/
theorem ep_call1 {f : V → Hp → VK → Prop} {P : V → Hp → Prop} (ha : Ev ta σ H x) (hf : ∀ H2 Q, Same H H2 → (∀ v H3, Same H2 H3 → P v H3 → Q v H3) → f x H2 Q) : EvP (cCall (sp1 f) (tCons ta tNil)) σ H P := fun H2 Q s k =>
  ha H2 _ s fun H3 s3 => hf H3 _ (s.trans s3) fun v H4 s4 h4 => k v H4 (s3.trans s4) h4
theorem ep_call2 {f : V → V → Hp → VK → Prop} {P : V → Hp → Prop} (ha : Ev ta σ H x) (hb : Ev tb σ H y) (hf : ∀ H2 Q, Same H H2 → (∀ v H3, Same H2 H3 → P v H3 → Q v H3) → f x y H2 Q) : EvP (cCall (sp2 f) (tCons ta (tCons tb tNil))) σ H P := fun H2 Q s k =>
  ha H2 _ s fun H3 s3 => hb H3 _ (s.trans s3) fun H4 s4 => hf H4 _ ((s.trans s3).trans s4) fun v H5 s5 h5 => k v H5 ((s3.trans s4).trans s5) h5
theorem ep_call2U {f : V → V → Hp → VK → Prop} {P : V → Hp → Prop} (ha : Ev ta σ H x) (hb : EvU tb σ H ys) (hf : ∀ q H2 Q, Same H H2 → H2 q = some (.tup ys) → (∀ v H3, Same H2 H3 → P v H3 → Q v H3) → f x (.ref q) H2 Q) : EvP (cCall (sp2 f) (tCons ta (tCons tb tNil))) σ H P := fun H2 Q s k =>
  ha H2 _ s fun H3 s3 => hb H3 _ (s.trans s3) fun q H4 _ s4 e => hf q H4 _ ((s.trans s3).trans s4) e fun v H5 s5 h5 => k v H5 ((s3.trans s4).trans s5) h5
/-- an item of what an expression gives -/
theorem ep_ix {P : V → Hp → Prop} {R : V → Hp → Prop} {j : Int} (ha : EvP ta σ H R) (hb : ∀ H2, Ev tb σ H2 (.int j)) (hr : ∀ v H2, Same H H2 → R v H2 → ∃ p xs w, v = .ref p ∧ (SqL K H2 p xs ∨ SqT K H2 p xs) ∧ atI xs j = some w ∧ P w H2) (lR : Lasts R) : EvP (tOp (cIx K) ta tb) σ H P := fun H2 Q s k => by
  refine ha H2 _ s fun v H3 s3 h3 => hb H3 H3 _ (Same.refl _) fun H4 s4 => ?_
  obtain ⟨p, xs, w, rfl, hx, e, hw⟩ := hr v H4 ((s.trans s3).trans s4) (lR _ _ _ s4 h3)
  exact ⟨xs, w, hx, e, k w H4 (s3.trans s4) hw⟩
theorem eu_tupleN (ha : EvL ta σ H xs) : EvU (tCB (c1 (cTuple K)) (tCons ta tNil)) σ H xs := fun H2 Q s k => ha H2 _ s fun p H3 _ s3 e => ⟨xs, SqL.of e, fun p np => k p _ (s3.free np) (s3.trans (same_upd np)) upd_same⟩
theorem ea_star {t : TA} {vs : List V} (ha : Ev ta σ H (.ref p)) (hx : SqT K H p xs) (hr : EvA t σ H vs) : EvA (StX.tStar K ta t) σ H (xs ++ vs) := fun H2 Q s k => ha H2 _ s fun H3 s3 => ⟨p, xs, rfl, .inl (Same.tup (s.trans s3) hx), hr H3 _ (s.trans s3) fun H4 s4 => k H4 (s3.trans s4)⟩
theorem st_asgP {P : V → Hp → Prop} (h : EvP te σ H P) (k : ∀ v H3, Same H H3 → P v H3 → rest D (σ.set i (some v)) H3) : tSeq (tAsg te (gName i)) rest D σ H := h H _ (Same.refl _) k
theorem st_asgLP {P : List V → Hp → Prop} (h : EvLP te σ H P) (k : ∀ p H3 vs, H p = none → Same H H3 → H3 p = some (.lst vs) → P vs H3 → rest D (σ.set i (some (.ref p))) H3) : tSeq (tAsg te (gName i)) rest D σ H := h H _ (Same.refl _) k
theorem st_forRc {tb : TS} {g : TG} {m : Int} {n : Nat} (hm : m = (n : Int)) (hn : n ≤ 100000) (k : ForB (Itr 0 n) g tb { D with nx := rest D } σ H) : tSeq (tFor (iRng1 (tCons (tC (.int m)) tNil)) g tb) rest D σ H := by
  refine ⟨m, rfl, by omega, by omega, ?_⟩
  rw [show m.toNat = n by omega]
  exact k
theorem st_appL {ty : String} (ht : ty = "list") (ha : sl σ i = some (.ref p)) (hb : Ev tb σ H v) (hp : H p = some (.lst xs)) (hz : xs.length ≤ 100000) (k : ∀ H3, Same H H3 → D.nx σ (upd H3 p (.lst (xs ++ [v])))) : tDrop (tBM K ty cAppend (cVar i) (tCons tb tNil)) D σ H := by
  subst ht
  show cVar i σ H fun x H1 => tyV K "list" x H1 ∧ tb σ H1 fun y H2 => cAppend x [y] H2 fun _ H3 => D.nx σ H3
  unfold cVar
  rw [ha]
  exact ⟨Or.inl ⟨rfl, _, SqL.of hp⟩, hb H _ (Same.refl _) fun H3 s3 => ⟨_, s3 _ _ hp, sz hz, k H3 s3⟩⟩
theorem st_appLn {ty : String} (ht : ty = "list") (ha : sl σ i = some (.ref p)) (hb : EvL tb σ H ys) (hp : H p = some (.lst xs)) (hz : xs.length ≤ 100000) (k : ∀ q H3, H q = none → Same H H3 → H3 q = some (.lst ys) → D.nx σ (upd H3 p (.lst (xs ++ [.ref q])))) : tDrop (tBM K ty cAppend (cVar i) (tCons tb tNil)) D σ H := by
  subst ht
  show cVar i σ H fun x H1 => tyV K "list" x H1 ∧ tb σ H1 fun y H2 => cAppend x [y] H2 fun _ H3 => D.nx σ H3
  unfold cVar
  rw [ha]
  exact ⟨Or.inl ⟨rfl, _, SqL.of hp⟩, hb H _ (Same.refl _) fun q H3 nq s3 e => ⟨_, s3 _ _ hp, sz hz, k q H3 nq s3 e⟩⟩
/-- a value with a property that holds however a list that came between is changed -/
def EvS (te : TE) (σ : L2.St) (H : Hp) (P : V → Hp → Prop) : Prop := ∀ H2 Q, Same H H2 → (∀ v H3, Same H2 H3 → (∀ D H', H D = none → (∃ xs, H2 D = some (.lst xs)) → SB D H3 H' → P v H') → Q v H3) → te σ H2 Q
theorem es_U (h : EvU te σ H xs) : EvS te σ H (fun v H' => ∃ p, v = .ref p ∧ H' p = some (.tup xs)) := fun H2 Q s k => h H2 Q s fun p H3 np s3 e => k _ H3 s3 fun D H' _ hD sb => ⟨p, rfl, sb p _ (fun z => by obtain ⟨ys, hD⟩ := hD; rw [z, hD] at np; cases np) e⟩
theorem es_L (h : EvL te σ H xs) : EvS te σ H (fun v H' => ∃ p, v = .ref p ∧ H' p = some (.lst xs)) := fun H2 Q s k => h H2 Q s fun p H3 np s3 e => k _ H3 s3 fun D H' _ hD sb => ⟨p, rfl, sb p _ (fun z => by obtain ⟨ys, hD⟩ := hD; rw [z, hD] at np; cases np) e⟩
theorem el_rangeP {m : Int} {n c : Nat} (P : Nat → V → Hp → Prop) (hm : m = (n : Int)) (hn : n ≤ 100000) (he : ∀ j, j < n → EvS te (σ.set c (some (.int (0 + (j : Nat))))) H (P j)) :
    EvLP (tLc (iRng1 (tCons (tC (.int m)) tNil)) (gName c) tYes te [c]) σ H (fun vs H3 => vs.length = n ∧ ∀ j v, vs[j]? = some v → P j v H3) := fun H2 Q s k => by
  refine ⟨m, rfl, by omega, by omega, fun D nD => ?_⟩
  rw [show m.toNat = n by omega]
  refine lc_range (fun j H' => Same H2 H' ∧ ∃ vs, H' D = some (.lst vs) ∧ vs.length = j ∧ ∀ t v, vs[t]? = some v → ∀ H3, SB D H' H3 → P t v H3) ⟨same_upd nD, [], upd_same, rfl, fun t v h => by cases h⟩ (fun j H' hj hv => ?_) (fun H' hv => ?_)
  · obtain ⟨s1, vs, hD, hvl, hv⟩ := hv
    refine ⟨wipe_put σ c _, ?_⟩
    show te ((wipe σ [c]).set c (some (.int (0 + (j : Nat))))) H' _
    rw [put_put]
    refine he j hj H' _ (s.trans s1) fun v H3 s3 h3 => ⟨_, s3 _ _ hD, sz (by omega), Same.put (s1.trans s3) nD, vs ++ [v], upd_same, by simp [hvl], fun t w ht H4 sb => ?_⟩
    have sb3 : SB D H3 H4 := fun b o hb e => sb b o hb (by rw [upd_ne hb]; exact e)
    rw [List.getElem?_append] at ht
    by_cases hlt : t < vs.length
    · rw [if_pos hlt] at ht
      exact hv t w ht H4 fun b o hb e => sb3 b o hb (s3 _ _ e)
    · rw [if_neg hlt] at ht
      have e0 : t - vs.length = 0 := by
        cases q : t - vs.length with
        | zero => rfl
        | succ z => rw [q] at ht; cases ht
      rw [e0] at ht
      have e1 : v = w := Option.some.inj ht
      have e2 : t = j := by omega
      rw [← e1, e2]
      exact h3 D H4 (s.free nD) ⟨vs, hD⟩ sb3
  · obtain ⟨s1, vs, hD, hvl, hv⟩ := hv
    exact k D H' vs nD s1 hD ⟨hvl, fun j v hj => hv j v hj H' fun b o _ e => e⟩
/-- two ranges -/
theorem el_rr {m1 m2 : Int} {n1 n2 c d : Nat} (hcd : c ≠ d) (f : Nat → Nat → V) (h1 : m1 = (n1 : Int)) (h2 : m2 = (n2 : Int)) (hn1 : n1 ≤ 300) (hn2 : n2 ≤ 300) (he : ∀ i j, i < n1 → j < n2 → Ev te ((σ.set c (some (.int (0 + (i : Nat))))).set d (some (.int (0 + (j : Nat))))) H (f i j)) :
    EvL (tLc2 (iRng1 (tCons (tC (.int m1)) tNil)) (gName c) tYes (iRng1 (tCons (tC (.int m2)) tNil)) (gName d) tYes te [c, d] [d]) σ H ((List.range n1).flatMap fun i => (List.range n2).map (f i)) := fun H2 Q s k => by
  refine ⟨m1, rfl, by omega, by omega, fun D nD => ?_⟩
  rw [show m1.toNat = n1 by omega]
  have len : ∀ i, ((List.range i).flatMap fun i => (List.range n2).map (f i)).length = i * n2 := fun i => by
    induction i with
    | zero => simp
    | succ i ih => rw [List.range_succ, List.flatMap_append, List.length_append, ih, Nat.succ_mul]; simp
  refine ⟨fun i m H' => m = n1 - i ∧ i ≤ n1 ∧ Same H2 H' ∧ H' D = some (.lst ((List.range i).flatMap fun i => (List.range n2).map (f i))), ⟨n1, by omega, by omega, same_upd nD, upd_same⟩, fun i m H' hv => ?_⟩
  obtain ⟨em, hi, s1, hD⟩ := hv
  by_cases hlt : i < n1
  · refine .inr ⟨hlt, fun H6 => Same H2 H6 ∧ H6 D = some (.lst ((List.range (i + 1)).flatMap fun i => (List.range n2).map (f i))), fun H6 h6 => ⟨n1 - (i + 1), by omega, rfl, by omega, h6.1, h6.2⟩, fun x H6 hy => ?_⟩
    obtain ⟨rfl, rfl⟩ := hy
    refine ⟨?_, ?_⟩
    · show (((((σ.set d none).set c none).set c (some (V.int (0 + (i : Nat))))).set d none).set c none : L2.St) = (σ.set d none).set c none
      rw [List.set_set, List.set_comm (i := c) (j := d) _ _ hcd, List.set_comm (i := d) (j := c) _ _ (Ne.symm hcd), List.set_comm (i := d) (j := c) _ _ (Ne.symm hcd), List.set_set, List.set_comm (i := c) (j := d) _ _ hcd, List.set_set]
    · show ∃ j : Int, [V.int m2] = [V.int j] ∧ -(2 ^ 62) ≤ j ∧ j < 2 ^ 62 ∧ _
      refine ⟨m2, rfl, by omega, by omega, ?_⟩
      rw [show m2.toNat = n2 by omega]
      refine ⟨fun j m H' => m = n2 - j ∧ j ≤ n2 ∧ Same H2 H' ∧ H' D = some (.lst (((List.range i).flatMap fun i => (List.range n2).map (f i)) ++ (List.range j).map (f i))), ⟨n2, by omega, by omega, s1, by rw [hD]; simp⟩, fun j m H' hv => ?_⟩
      obtain ⟨em, hj, s4, hD4⟩ := hv
      by_cases hjt : j < n2
      · refine .inr ⟨hjt, fun H6 => Same H2 H6 ∧ H6 D = some (.lst (((List.range i).flatMap fun i => (List.range n2).map (f i)) ++ (List.range (j + 1)).map (f i))), fun H6 h6 => ⟨n2 - (j + 1), by omega, rfl, by omega, h6.1, h6.2⟩, fun x H6 hy => ?_⟩
        obtain ⟨rfl, rfl⟩ := hy
        refine ⟨by rw [wipe1, wipe1, List.set_set, List.set_set], ?_⟩
        have es : (((wipe (((wipe σ [c, d]).set c (some (V.int (0 + (i : Nat)))))) [d])).set d (some (V.int (0 + (j : Nat)))) : L2.St) = (σ.set c (some (.int (0 + (i : Nat))))).set d (some (.int (0 + (j : Nat)))) := by
          rw [wipe1, wipe2, List.set_set, List.set_set, List.set_comm _ _ hcd, List.set_set, List.set_comm _ _ (Ne.symm hcd)]
        show te (((wipe (((wipe σ [c, d]).set c (some (V.int (0 + (i : Nat)))))) [d])).set d (some (V.int (0 + (j : Nat))))) H6 _
        rw [es]
        refine he i j hlt hjt H6 _ (s.trans s4) fun H7 s7 => ⟨_, s7 _ _ hD4, ?_, Same.put (s4.trans s7) nD, ?_⟩
        · rw [List.length_append, len, List.length_map, List.length_range]
          have := Nat.mul_le_mul hn1 hn2
          have := Nat.mul_le_mul_right n2 (Nat.le_of_lt hlt)
          exact sz (by omega)
        · rw [upd_same, List.range_succ, List.map_append (l₁ := List.range j), ← List.append_assoc]
          rfl
      · have e : j = n2 := by omega
        subst e
        refine .inl ⟨Nat.le_refl _, s4, ?_⟩
        rw [hD4, List.range_succ, List.flatMap_append]
        simp
  · have e : i = n1 := by omega
    subst e
    exact .inl ⟨Nat.le_refl _, k D H' nD s1 hD⟩
end
end PH

namespace PH
open PySem PySem.Spec PyProof.Rows L2
def zeroP : Pen := ⟨0, 0, 0, 0, 0, 0⟩
def unitP (j : Nat) : Pen := ⟨delta 0 j, delta 1 j, delta 2 j, delta 3 j, delta 4 j, delta 5 j⟩
/-- the numbers of the vector -/
def vc (z : Pen) (i : Nat) : Int := gt ((1 : Int) :: z.ns) i
theorem vc_succ (z : Pen) (i : Nat) : vc z (i + 1) = gt z.ns i := rfl
def probeF (r : Pen → Pen) (i j : Nat) : Int := if j = 0 then vc (r zeroP) i else vc (r (unitP (j - 1))) i - vc (r zeroP) i
@[irreducible] def probeM (r : Pen → Pen) : List Int := mx (probeF r)
theorem probeM_len (r : Pen → Pen) : (probeM r).length = 49 := by
  unfold probeM
  exact mx_len _
/-- M is the matrix of r -/
def MatOf (r : Pen → Pen) (M : List Int) : Prop := M.length = 49 ∧ ∀ z i, i < 7 → vc (r z) i = imgAt M z i
theorem lt7 {j : Nat} (h : j < 7) : j = 0 ∨ j = 1 ∨ j = 2 ∨ j = 3 ∨ j = 4 ∨ j = 5 ∨ j = 6 := by omega
theorem lt6 {j : Nat} (h : j < 6) : j = 0 ∨ j = 1 ∨ j = 2 ∨ j = 3 ∨ j = 4 ∨ j = 5 := by omega
theorem imgAt_zero (M : List Int) (i : Nat) : imgAt M zeroP i = gt M (7 * i) := by
  simp [imgAt, dot, zeroP, Pen.ns, gt]
theorem imgAt_unit (M : List Int) (i : Nat) {j : Nat} (hj : j < 6) : imgAt M (unitP j) i = gt M (7 * i) + gt M (7 * i + (j + 1)) := by
  rcases lt6 hj with h | h | h | h | h | h <;> subst h <;> simp [imgAt, dot, unitP, delta, Pen.ns, gt]
theorem probe_eq {r : Pen → Pen} {M : List Int} (h : MatOf r M) : probeM r = M := by
  unfold probeM
  refine mx_eq (mx_len _) h.1 fun i j hi hj => ?_
  rw [gt_mx hi hj]
  unfold probeF
  by_cases e : j = 0
  · rw [if_pos e, h.2 _ _ hi, imgAt_zero, e]
    rfl
  · rw [if_neg e, h.2 _ _ hi, h.2 _ _ hi, imgAt_zero, imgAt_unit M i (by omega), show j - 1 + 1 = j by omega]
    omega
theorem imgOf_eq {r : Pen → Pen} {M : List Int} (h : MatOf r M) (z : Pen) : imgOf M z = r z := by
  unfold imgOf
  rw [← h.2 z 1 (by decide), ← h.2 z 2 (by decide), ← h.2 z 3 (by decide), ← h.2 z 4 (by decide), ← h.2 z 5 (by decide), ← h.2 z 6 (by decide)]
  rfl
theorem imgAt_comp (A B : List Int) (z w : Pen) (hw : ∀ k, k < 7 → vc w k = imgAt A z k) (i : Nat) (hi : i < 7) : imgAt (compM A B) z i = imgAt B w i := by
  unfold imgAt
  rw [dot_congr (g := fun j => dot (fun k => gt B (7 * i + k) * gt A (7 * k + j)) 7 * vc z j) fun j hj => by
    unfold compM
    rw [gt_mx hi hj]
    rfl]
  rw [← dot_swap (fun k => gt B (7 * i + k)) (fun k j => gt A (7 * k + j)) (fun j => vc z j) 7 7]
  exact dot_congr fun k hk => by
    show _ * imgAt A z k = _ * vc w k
    rw [hw k hk]
theorem MatOf.comp {r s : Pen → Pen} {A B : List Int} (h : MatOf r A) (k : MatOf s B) : MatOf (fun z => s (r z)) (compM A B) := ⟨compM_len _ _, fun z i hi => by rw [k.2 _ _ hi, imgAt_comp A B z (r z) (fun l hl => h.2 _ _ hl) i hi]⟩
theorem MatOf.unit : MatOf (fun z => z) unitM := ⟨unit_len, fun z i hi => by
  unfold imgAt
  rw [dot_congr (g := fun j => vc z j * delta j i) fun j hj => by
    unfold unitM
    rw [gt_mx hi hj, Int.mul_comm]
    unfold delta
    by_cases e : i = j
    · rw [if_pos e, if_pos e.symm]; rfl
    · rw [if_neg e, if_neg fun z => e z.symm, Int.mul_zero, Int.mul_zero]]
  rw [dot_delta, if_pos hi]⟩
/-- a map whose numbers are affine in the numbers -/
theorem MatOf.of {r : Pen → Pen} (h : ∀ z i, i < 7 → vc (r z) i = dot (fun j => probeF r i j * vc z j) 7) : MatOf r (probeM r) := ⟨probeM_len r, fun z i hi => by
  rw [h z i hi]
  unfold imgAt
  exact dot_congr fun j hj => by
    unfold probeM
    rw [gt_mx hi hj]
    rfl⟩
def Cmd.mat (m : Cmd) : List Int := probeM m.run
theorem Cmd.matOf {m : Cmd} (ok : m.Ok) : MatOf m.run m.mat := MatOf.of fun z i hi => by
  cases m with
  | turn k =>
    have hk : k = 1 ∨ k = 2 ∨ k = 3 := by have := ok.1; have := ok.2; omega
    rcases hk with e | e | e <;> subst e <;> rcases lt7 hi with h | h | h | h | h | h | h <;> subst h <;> simp [dot, probeF, vc, gt, Cmd.run, zeroP, unitP, delta, Pen.ns, turnN]
  | _ => rcases lt7 hi with h | h | h | h | h | h | h <;> subst h <;> simp [dot, probeF, vc, gt, Cmd.run, zeroP, unitP, delta, Pen.ns]
theorem Cmd.mat_bd {m : Cmd} (ok : m.Ok) : ∀ x ∈ m.mat, Bd 5 x := by
  unfold Cmd.mat probeM
  refine mx_bd fun i j hi hj => ?_
  cases m with
  | turn k =>
    have hk : k = 1 ∨ k = 2 ∨ k = 3 := by have := ok.1; have := ok.2; omega
    rcases hk with e | e | e <;> subst e <;> rcases lt7 hi with h | h | h | h | h | h | h <;> subst h <;> rcases lt7 hj with h | h | h | h | h | h | h <;> subst h <;> simp [Bd, probeF, vc, gt, Cmd.run, zeroP, unitP, delta, Pen.ns, turnN]
  | go k =>
    have := ok.1; have := ok.2
    rcases lt7 hi with h | h | h | h | h | h | h <;> subst h <;> rcases lt7 hj with h | h | h | h | h | h | h <;> subst h <;> simp [Bd, probeF, vc, gt, Cmd.run, zeroP, unitP, delta, Pen.ns] <;> omega
  | scale k =>
    have := ok.1; have := ok.2
    rcases lt7 hi with h | h | h | h | h | h | h <;> subst h <;> rcases lt7 hj with h | h | h | h | h | h | h <;> subst h <;> simp [Bd, probeF, vc, gt, Cmd.run, zeroP, unitP, delta, Pen.ns] <;> omega
  | aim a b =>
    have := ok.1.1; have := ok.1.2; have := ok.2.1; have := ok.2.2
    rcases lt7 hi with h | h | h | h | h | h | h <;> subst h <;> rcases lt7 hj with h | h | h | h | h | h | h <;> subst h <;> simp [Bd, probeF, vc, gt, Cmd.run, zeroP, unitP, delta, Pen.ns] <;> omega
  | place a b =>
    have := ok.1.1; have := ok.1.2; have := ok.2.1; have := ok.2.2
    rcases lt7 hi with h | h | h | h | h | h | h <;> subst h <;> rcases lt7 hj with h | h | h | h | h | h | h <;> subst h <;> simp [Bd, probeF, vc, gt, Cmd.run, zeroP, unitP, delta, Pen.ns] <;> omega
  | _ => rcases lt7 hi with h | h | h | h | h | h | h <;> subst h <;> rcases lt7 hj with h | h | h | h | h | h | h <;> subst h <;> simp [Bd, probeF, vc, gt, Cmd.run, zeroP, unitP, delta, Pen.ns]
end PH

namespace PH
open PySem PySem.Spec PyProof.Rows L2
inductive Deed where
  | cmd (m : Cmd) | hold | shut
def Deed.vs : Deed → List V
  | .cmd m => m.vs
  | .hold => [.str "hold"]
  | .shut => [.str "shut"]
def Deed.Ok : Deed → Prop
  | .cmd m => m.Ok
  | _ => True
/-- place and heading of y, mark of z -/
def Pen.put (y z : Pen) : Pen := ⟨y.x, y.y, y.u, y.v, z.p, z.q⟩
/-- the pens behind the commands, the last pen -/
def pensRun : List Deed → List Pen → Pen → Option (List Pen × Pen)
  | [], _, z => some ([], z)
  | .cmd m :: r, h, z => (pensRun r h (m.run z)).map fun o => (m.run z :: o.1, o.2)
  | .hold :: r, h, z => pensRun r (z :: h) z
  | .shut :: _, [], _ => none
  | .shut :: r, y :: h, z => pensRun r h (y.put z)
def PenAt (K : PySem.W.Frag) (H : Hp) (v : V) (z : Pen) : Prop := ∃ q, v = .ref q ∧ SqT K H q z.vs
def DeedAt (K : PySem.W.Frag) (H : Hp) (v : V) (d : Deed) : Prop := ∃ q, v = .ref q ∧ SqT K H q d.vs
theorem SqT.put {K : PySem.W.Frag} {H : Hp} {a b : Addr} {xs ys : List V} {o : HO} (h : SqT K H a xs) (hb : H b = some (.lst ys)) : SqT K (upd H b o) a xs := by
  rcases h with (h | ⟨u, h⟩) | h
  · exact .inl (.inl (by rw [upd_ne fun e => by rw [e, hb] at h; cases h]; exact h))
  · exact .inl (.inr ⟨u, by rw [upd_ne fun e => by rw [e, hb] at h; cases h]; exact h⟩)
  · exact .inr h
theorem Paired.mono {α β : Type} {F G : α → β → Prop} (h : ∀ a b, F a b → G a b) : ∀ {xs : List α} {ys : List β}, Paired F xs ys → Paired G xs ys
  | _, _, .nil => .nil
  | _, _, .cons r t => .cons (h _ _ r) (Paired.mono h t)
theorem Paired.snoc {α β : Type} {F : α → β → Prop} {a : α} {b : β} (h : F a b) : ∀ {xs : List α} {ys : List β}, Paired F xs ys → Paired F (xs ++ [a]) (ys ++ [b])
  | _, _, .nil => .cons h .nil
  | _, _, .cons r t => .cons r (Paired.snoc h t)
theorem Paired.at {α β : Type} {F : α → β → Prop} : ∀ {xs : List α} {ys : List β} {i : Nat} {x : α}, Paired F xs ys → xs[i]? = some x → ∃ y, ys[i]? = some y ∧ F x y
  | _, _, _, _, .nil, h => by cases h
  | _, _, 0, x, .cons r t, h => ⟨_, rfl, by
      have e := Option.some.inj h
      rw [← e]
      exact r⟩
  | _, _, i + 1, x, .cons r t, h => by
    obtain ⟨y, h1, h2⟩ := Paired.at (i := i) (x := x) t (by simpa using h)
    exact ⟨y, by simpa using h1, h2⟩
theorem Paired.len {α β : Type} {F : α → β → Prop} {xs : List α} {ys : List β} (h : Paired F xs ys) : xs.length = ys.length := Paired.length h
theorem drop_at {α : Type} {xs : List α} {i : Nat} {x : α} (h : xs[i]? = some x) : xs.drop i = x :: xs.drop (i + 1) := by
  obtain ⟨hi, e⟩ := List.getElem?_eq_some_iff.mp h
  rw [List.drop_eq_getElem_cons hi, e]
def pPens (K : PySem.W.Frag) : V → V → Hp → VK → Prop := fun a b H Q => ∃ (dp b0 : Addr) (vs : List V) (ds : List Deed) (z : Pen) (ps : List Pen) (w : Pen), a = .ref dp ∧ b = .ref b0 ∧ SqL K H dp vs ∧ Paired (DeedAt K H) vs ds ∧ vs.length ≤ 90000 ∧ (∀ d ∈ ds, d.Ok) ∧ SqT K H b0 z.vs ∧ pensRun ds [] z = some (ps, w) ∧
  ∀ (t l q : Addr) (us : List V) H', Same H H' → H t = none → H' t = some (.lst [.ref l, .ref q]) → H' l = some (.lst us) → Paired (PenAt K H') us ps → SqT K H' q w.vs → Q (.ref t) H'
theorem Cmd.words (m : Cmd) : ∃ w r, m.vs = .str w :: r ∧ decide (w = "hold") = false ∧ decide (w = "shut") = false := by
  cases m <;> exact ⟨_, _, rfl, by decide +kernel, by decide +kernel⟩
theorem dropLast_snoc {α : Type} (xs : List α) (x : α) : (xs ++ [x]).dropLast = xs := by simp
theorem Paired.snocR {α β : Type} {F : α → β → Prop} {b : β} : ∀ {ys : List β} {xs : List α}, Paired F xs (ys ++ [b]) → ∃ xs0 a, xs = xs0 ++ [a] ∧ Paired F xs0 ys ∧ F a b
  | [], _, .cons r .nil => ⟨[], _, rfl, .nil, r⟩
  | y :: ys, _, .cons r t => by
    obtain ⟨xs0, a, rfl, h1, h2⟩ := Paired.snocR (ys := ys) t
    exact ⟨_ :: xs0, a, rfl, .cons r h1, h2⟩
theorem wHH : decide (("hold" : Str) = "hold") = true := by decide +kernel
theorem wSS : decide (("shut" : Str) = "shut") = true := by decide +kernel
theorem wSH : decide (("shut" : Str) = "hold") = false := by decide +kernel
theorem st_ixF {K : PySem.W.Frag} {i : Nat} {x y : Str} {A B : TS} {D : Ends} {σ : L2.St} {H : Hp} {p : Addr} {r : List V} (hs : sl σ i = some (.ref p)) (hx : SqT K H p (.str x :: r)) (e : decide (x = y) = false) (h : B D σ H) : tIfS (cB (tOp (cEq K) (tOp (cIx K) (cVar i) (tC (.int 0))) (tC (.str y)))) A B D σ H := by
  simp only [tIfS, cB, tOp, cVar, tC, hs]
  refine ⟨_, _, .inr hx, ix0, ?_⟩
  simp only [cEq, e]
  exact iteF h
theorem st_ixT {K : PySem.W.Frag} {i : Nat} {x y : Str} {A B : TS} {D : Ends} {σ : L2.St} {H : Hp} {p : Addr} {r : List V} (hs : sl σ i = some (.ref p)) (hx : SqT K H p (.str x :: r)) (e : decide (x = y) = true) (h : A D σ H) : tIfS (cB (tOp (cEq K) (tOp (cIx K) (cVar i) (tC (.int 0))) (tC (.str y)))) A B D σ H := by
  simp only [tIfS, cB, tOp, cVar, tC, hs]
  refine ⟨_, _, .inr hx, ix0, ?_⟩
  simp only [cEq, e, if_true]
  exact h
theorem cut_head4 (z : Pen) : cutV z.vs none (some 4) = [.int z.x, .int z.y, .int z.u, .int z.v] := by
  unfold cutV
  rw [HT.sIx_none, show HT.sIx z.vs.length z.vs.length (some 4) = min 4 z.vs.length from HT.sIx_nat _ _ 4]
  rfl
theorem cut_tail4 (z : Pen) : cutV z.vs (some 4) none = [.int z.p, .int z.q] := by
  unfold cutV
  rw [HT.sIx_none, show HT.sIx z.vs.length 0 (some 4) = min 4 z.vs.length from HT.sIx_nat _ _ 4]
  rfl
theorem r_L_pens {K : PySem.W.Frag} {a b : V} {H : Hp} {Q : VK} (h : pPens K a b H Q) : t_L_pens K (sp2 (pRun K)) (dEnds Q) [some a, some b, none, none, none] H := by
  obtain ⟨dp, b0, vs, ds, z, ps, w, rfl, rfl, hd, hds, hl, ok, hb, run, q⟩ := h
  refine ⟨Nat.zero_le _, fun l nl => ?_⟩
  dsimp only [gName, List.set]
  refine ⟨Nat.zero_le _, fun g ng => ?_⟩
  dsimp only [gName, List.set]
  have s1 := same_upd (o := .lst []) nl
  have s2 := same_upd (o := .lst []) ng
  have hgl : g ≠ l := fun e => by rw [e, upd_same] at ng; cases ng
  have ng0 : H g = none := by rw [upd_ne hgl] at ng; exact ng
  have el : upd (upd H l (.lst [])) g (.lst []) l = some (.lst []) := s2 _ _ upd_same
  have eg : upd (upd H l (.lst [])) g (.lst []) g = some (.lst []) := upd_same
  have s12 := s1.trans s2
  generalize upd (upd H l (.lst [])) g (.lst []) = H2 at s12 el eg ⊢
  refine st_forL (p := dp) (xs := vs) (ev_var rfl) (s12.seq hd) fun H3 s3 => ?_
  have s03 := s12.trans s3
  refine for_list (K := K) (a := dp) (xs := vs) (fun i σ H' => Same H H' ∧ ∃ (bb : Addr) (y : Option V) (us hs : List V) (zz : Pen) (held pre post : List Pen), σ = [some (.ref dp), some (.ref bb), some (.ref l), some (.ref g), y] ∧ H' l = some (.lst us) ∧ H' g = some (.lst hs) ∧ Paired (PenAt K H') us pre ∧ Paired (PenAt K H') hs held.reverse ∧ us.length ≤ i ∧ hs.length ≤ i ∧ SqT K H' bb zz.vs ∧ pensRun (ds.drop i) held zz = some (post, w) ∧ pre ++ post = ps)
    ⟨s03, b0, _, [], [], z, [], [], ps, rfl, s3 _ _ el, s3 _ _ eg, .nil, .nil, Nat.le_refl _, Nat.le_refl _, Same.tup s03 hb, run, rfl⟩ (fun i σ H' _ hv => hv.1.seq hd) (fun i x σ H' hi hv => ?_) (fun σ H' hv => ?_)
  · obtain ⟨s4, bb, y, us, hs, zz, held, pre, post, rfl, hl4, hg4, hus, hhs, lu, lh, hbb, run4, epp⟩ := hv
    obtain ⟨d, hdi, xq, rfl, hx⟩ := Paired.at hds hi
    have dok : d.Ok := ok d (List.mem_of_getElem? hdi)
    rw [drop_at hdi] at run4
    have hi' : i ≤ 90000 := by
      obtain ⟨h, _⟩ := List.getElem?_eq_some_iff.mp hi
      omega
    have hx4 := Same.tup (K := K) s4 hx
    dsimp only [gName, List.set]
    cases d with
    | hold =>
      refine st_ixT rfl hx4 wHH ?_
      refine ⟨.inl ⟨rfl, _, SqL.of hg4⟩, _, hg4, sz (by omega), ?_⟩
      have up : ∀ v z, PenAt K H' v z → PenAt K (upd H' g (.lst (hs ++ [.ref bb]))) v z := fun v z ⟨q, e, h⟩ => ⟨q, e, SqT.put h hg4⟩
      refine ⟨Same.put s4 ng0, bb, _, us, hs ++ [.ref bb], zz, zz :: held, pre, post, rfl, by rw [upd_ne (Ne.symm hgl)]; exact hl4, upd_same, Paired.mono up hus, ?_, by omega, by simp; omega, SqT.put hbb hg4, run4, epp⟩
      rw [List.reverse_cons]
      exact Paired.snoc ⟨bb, rfl, SqT.put hbb hg4⟩ (Paired.mono up hhs)
    | shut =>
      refine st_ixF rfl hx4 wSH ?_
      refine st_ixT rfl hx4 wSS ?_
      cases held with
      | nil => cases run4
      | cons yy held =>
        rw [List.reverse_cons] at hhs
        obtain ⟨hs0, v, rfl, hhs0, yq, rfl, hyq⟩ := Paired.snocR hhs
        refine ⟨.inl ⟨rfl, _, SqL.of hg4⟩, _, .ref yq, hg4, by simp, ?_⟩
        rw [dropLast_snoc]
        have hyq' : SqT K (upd H' g (.lst hs0)) yq yy.vs := SqT.put hyq hg4
        have hbb' : SqT K (upd H' g (.lst hs0)) bb zz.vs := SqT.put hbb hg4
        have hl5 : upd H' g (.lst hs0) l = some (.lst us) := by rw [upd_ne (Ne.symm hgl)]; exact hl4
        have hg5 : upd H' g (.lst hs0) g = some (.lst hs0) := upd_same
        have up : ∀ v z, PenAt K H' v z → PenAt K (upd H' g (.lst hs0)) v z := fun v z ⟨q, e, h⟩ => ⟨q, e, SqT.put h hg4⟩
        have hus5 := Paired.mono up hus
        have hhs5 := Paired.mono up hhs0
        have s5 : Same H (upd H' g (.lst hs0)) := Same.put s4 ng0
        generalize upd H' g (.lst hs0) = H5 at hyq' hbb' hl5 hg5 hus5 hhs5 s5 ⊢
        refine Or.inr ⟨_, hyq', fun e => absurd (show HT.sIx 6 6 (some 4) = 6 from e.2) (by decide), fun _ c nc => ?_⟩
        have s6 := same_upd (o := .tup (cutV yy.vs none (some 4))) nc
        refine Or.inr ⟨_, Same.tup s6 hbb', fun e => absurd (show HT.sIx 6 0 (some 4) = 0 from e.1) (by decide), fun _ e ne => ?_⟩
        have s7 := same_upd (o := .tup (cutV zz.vs (some 4) none)) ne
        refine Or.inr ⟨c, e, _, _, rfl, rfl, SqT.of (s7 _ _ upd_same), SqT.of upd_same, ?_, fun e2 => ?_, fun _ e2 => ?_, fun _ _ f nf => ?_⟩
        · rw [cut_head4, cut_tail4]; exact le6
        · rw [cut_head4] at e2; cases e2
        · rw [cut_tail4] at e2; cases e2
        · have s8 := same_upd (o := .tup (cutV yy.vs none (some 4) ++ cutV zz.vs (some 4) none)) nf
          have s58 := (s6.trans s7).trans s8
          have up : ∀ v z, PenAt K H5 v z → PenAt K (upd (upd (upd H5 c (.tup (cutV yy.vs none (some 4)))) e (.tup (cutV zz.vs (some 4) none))) f (.tup (cutV yy.vs none (some 4) ++ cutV zz.vs (some 4) none))) v z := fun v z ⟨q, e, h⟩ => ⟨q, e, Same.tup s58 h⟩
          refine ⟨s5.trans s58, f, _, us, hs0, yy.put zz, held, pre, post, rfl, s58 _ _ hl5, s58 _ _ hg5, Paired.mono up hus5, Paired.mono up hhs5, by omega, by simp at lh; omega, SqT.of ?_, run4, epp⟩
          rw [upd_same, cut_head4, cut_tail4]
          rfl
    | cmd m =>
      obtain ⟨wd, r, em, ew1, ew2⟩ := m.words
      have hx5 : SqT K H' xq (.str wd :: r) := by rw [← em]; exact hx4
      refine st_ixF rfl hx5 ew1 ?_
      refine st_ixF rfl hx5 ew2 ?_
      refine ⟨bb, xq, zz, m, rfl, rfl, hbb, hx4, dok, fun c H6 s6 hc => ?_⟩
      dsimp only [gName, List.set]
      have hl6 := s6 _ _ hl4
      refine ⟨.inl ⟨rfl, _, SqL.of hl6⟩, _, hl6, sz (by omega), ?_⟩
      have up : ∀ v z, PenAt K H' v z → PenAt K (upd H6 l (.lst (us ++ [.ref c]))) v z := fun v z ⟨q, e, h⟩ => ⟨q, e, SqT.put (Same.tup s6 h) hl6⟩
      have run5 : (pensRun (ds.drop (i + 1)) held (m.run zz)).map (fun o => (m.run zz :: o.1, o.2)) = some (post, w) := run4
      cases e5 : pensRun (ds.drop (i + 1)) held (m.run zz) with
      | none => rw [e5] at run5; cases run5
      | some o =>
        rw [e5] at run5
        obtain ⟨e6, e7⟩ := Prod.mk.inj (Option.some.inj run5)
        have hc' : SqT K (upd H6 l (.lst (us ++ [.ref c]))) c (m.run zz).vs := SqT.put (SqT.of hc) hl6
        refine ⟨Same.put (s4.trans s6) nl, c, _, us ++ [.ref c], hs, m.run zz, held, pre ++ [m.run zz], o.1, rfl, upd_same, by rw [upd_ne hgl]; exact s6 _ _ hg4, Paired.snoc ⟨c, rfl, hc'⟩ (Paired.mono up hus), Paired.mono up hhs, by simp; omega, by omega, hc', ?_, ?_⟩
        · rw [e5, ← e7]
        · rw [← epp, ← e6]; simp
  · obtain ⟨s4, bb, y, us, hs, zz, held, pre, post, rfl, hl4, hg4, hus, hhs, lu, lh, hbb, run4, epp⟩ := hv
    rw [Paired.len hds, List.drop_length] at run4
    obtain ⟨e1, e2⟩ := Prod.mk.inj (Option.some.inj run4)
    refine ⟨le2, fun t nt => ?_⟩
    have s5 := same_upd (o := .lst [.ref l, .ref bb]) nt
    refine q t l bb us _ (s4.trans s5) (s4.free nt) upd_same (s5 _ _ hl4) ?_ ?_
    · rw [← epp, ← e1, List.append_nil]
      exact Paired.mono (fun v z ⟨q, e, h⟩ => ⟨q, e, Same.tup s5 h⟩) hus
    · rw [← e2]
      exact Same.tup s5 hbb
end PH

namespace PH
open PySem PySem.Spec PyProof.Rows L2
def pMatOf (K : PySem.W.Frag) : V → Hp → VK → Prop := fun a H Q => ∃ (c : Addr) (m : Cmd), a = .ref c ∧ SqT K H c m.vs ∧ m.Ok ∧ ∀ t H', Same H H' → H t = none → H' t = some (.lst (m.mat.map V.int)) → Q (.ref t) H'
/-- the unit pens -/
theorem unit_vs {j : Nat} (hj : j < 6) : ((List.range 6).map fun k : Nat => V.int (if decide ((0 + (k : Int)) = (0 + (j : Int))) = true then 1 else 0)) = (unitP j).vs := by
  rcases lt6 hj with h | h | h | h | h | h <;> subst h <;> rfl
theorem eu_unit {K : PySem.W.Frag} {σ : L2.St} {H : Hp} {c d j : Nat} (hj : j < 6) (hc : c < σ.length) (hd : sl σ d = some (.int (0 + (j : Nat)))) (hcd : d ≠ c) : EvU (tCB (c1 (cTuple K)) (tCons (tLc (iRng1 (tCons (tC (.int 6)) tNil)) (gName c) tYes (tCB (c1 cInt) (tCons (tOp (cEq K) (cVar c) (cVar d)) tNil)) [c]) tNil)) σ H (unitP j).vs := by
  refine eu_tupleN ?_
  rw [← unit_vs hj]
  refine el_range _ (by decide) (by decide) fun k hk => ?_
  have h1 : ∀ (σ : L2.St) (c : Nat) (v : V), c < σ.length → sl (σ.set c (some v)) c = some v := by
    intro σ
    induction σ with
    | nil => intro c v h; cases h
    | cons x r ih =>
      intro c v h
      cases c with
      | zero => rfl
      | succ n => exact ih n v (by simpa using h)
  have h2 : ∀ (σ : L2.St) (c d : Nat) (v : V), d ≠ c → sl (σ.set c (some v)) d = sl σ d := by
    intro σ
    induction σ with
    | nil => intro c d v h; rfl
    | cons x r ih =>
      intro c d v h
      cases c with
      | zero => cases d with
        | zero => exact absurd rfl h
        | succ n => rfl
      | succ m => cases d with
        | zero => rfl
        | succ n => exact ih m n v (by omega)
  exact ev_intB (ev_eq (ev_var (h1 _ _ _ hc)) (ev_var (by rw [h2 _ _ _ _ hcd]; exact hd)))
theorem vs_gt (z : Pen) {j : Nat} (hj : j < 6) : atI z.vs (0 + (j : Int)) = some (.int (gt z.ns j)) := by
  rw [Int.zero_add]
  rcases lt6 hj with h | h | h | h | h | h <;> subst h <;> exact atI_nat rfl
theorem ev_penIx {K : PySem.W.Frag} {σ : L2.St} {H : Hp} {ta tb : TE} {p : Addr} {z : Pen} {j : Nat} (ha : Ev ta σ H (.ref p)) (hb : Ev tb σ H (.int (0 + (j : Int)))) (hp : SqT K H p z.vs) (hj : j < 6) : Ev (tOp (cIx K) ta tb) σ H (.int (gt z.ns j)) := ev_ixT ha hb hp (vs_gt z hj)
/-- the columns -/
def colV (r : Pen → Pen) (j : Nat) : List Int := (List.range 7).map fun i => probeF r i j
theorem col0 (r : Pen → Pen) : (V.int 1 :: (r zeroP).vs) = (colV r 0).map V.int := rfl
theorem colS (r : Pen → Pen) (j : Nat) (o : Pen) (ho : o = r zeroP) : [V.int 0] ++ ((List.range 6).map fun k => V.int (gt (r (unitP j)).ns k - gt o.ns k)) = (colV r (j + 1)).map V.int := by
  subst ho
  show _ = ([0, 1, 2, 3, 4, 5, 6].map fun i => probeF r i (j + 1)).map V.int
  simp only [List.map_cons, List.map_nil]
  have e : probeF r 0 (j + 1) = 0 := by
    show vc _ 0 - vc _ 0 = 0
    exact Int.sub_self 1
  rw [e]
  rfl
theorem Paired.get {α β : Type} {F : α → β → Prop} : ∀ {xs : List α} {ys : List β} {i : Nat} {y : β}, Paired F xs ys → ys[i]? = some y → ∃ x, xs[i]? = some x ∧ F x y
  | _, _, _, _, .nil, h => by cases h
  | _, _, 0, x, .cons r t, h => ⟨_, rfl, by
      have e := Option.some.inj h
      rw [← e]
      exact r⟩
  | _, _, i + 1, x, .cons r t, h => by
    obtain ⟨y, h1, h2⟩ := Paired.get (i := i) (y := x) t (by simpa using h)
    exact ⟨y, by simpa using h1, h2⟩
def LstAt (H : Hp) (v : V) (ns : List Int) : Prop := ∃ q, v = .ref q ∧ H q = some (.lst (ns.map V.int))
theorem lstAt_put {H H9 : Hp} {cs : Addr} {o : HO} (s : Same H H9) : ∀ {vs : List V} {ys : List (List Int)}, (∀ q v, v ∈ vs → v = .ref q → q ≠ cs) → Paired (LstAt H) vs ys → Paired (LstAt (upd H9 cs o)) vs ys
  | _, _, _, .nil => .nil
  | _, _, h, .cons ⟨q, e, r⟩ t => .cons ⟨q, e, by rw [upd_ne (h q _ (List.mem_cons_self ..) e)]; exact s _ _ r⟩ (lstAt_put s (fun q v hv e => h q v (List.mem_cons_of_mem _ hv) e) t)
theorem r_matrix_of {K : PySem.W.Frag} {a : V} {H : Hp} {Q : VK} (h : pMatOf K a H Q) : t_matrix_of K (sp1 (pIsCmd K)) (sp2 (pRun K)) (dEnds Q) [some a, none, none, none, none, none, none, none, none] H := by
  obtain ⟨c, m, rfl, hc, ok, q⟩ := h
  refine ⟨some m.vs, seen_cmd hc, fun H1 s1 => ?_⟩
  rw [cmdB_ok ok]
  refine ⟨le6, fun z0 nz0 => ?_⟩
  have s2 := same_upd (o := .tup zeroP.vs) nz0
  refine ⟨z0, c, zeroP, m, rfl, rfl, SqT.of upd_same, Same.tup (s1.trans s2) hc, ok, fun o H3 s3 ho => ?_⟩
  have s03 := (s1.trans s2).trans s3
  dsimp only [gName, List.set]
  refine ⟨o, (m.run zeroP).vs, rfl, .inl (SqT.of ho), le7, fun k0 nk0 => ⟨le1, fun cs ncs => ?_⟩⟩
  dsimp only [gName, List.set]
  have s4 := same_upd (o := .lst ((colV m.run 0).map V.int)) nk0
  replace ncs : upd H3 k0 (.lst ((colV m.run 0).map V.int)) cs = none := ncs
  have s5 := same_upd (o := .lst [V.ref k0]) ncs
  have ncs3 : H3 cs = none := s4.free ncs
  have e0 : upd (upd H3 k0 (.lst ((colV m.run 0).map V.int))) cs (.lst [V.ref k0]) k0 = some (.lst ((colV m.run 0).map V.int)) := s5 _ _ upd_same
  have e1 : upd (upd H3 k0 (.lst ((colV m.run 0).map V.int))) cs (.lst [V.ref k0]) cs = some (.lst [V.ref k0]) := upd_same
  have s35 := s4.trans s5
  change tSeq _ _ _ _ (upd (upd H3 k0 (.lst ((colV m.run 0).map V.int))) cs (.lst [V.ref k0]))
  generalize upd (upd H3 k0 (.lst ((colV m.run 0).map V.int))) cs (.lst [V.ref k0]) = H5 at e0 e1 s35 ⊢
  have ncs0 : H cs = none := s03.free ncs3
  refine st_forRc (n := 6) (by decide) (by decide) ?_
  refine for_range (n := 6) (fun i σ H' => Same H3 H' ∧ ∃ (vs : List V) (y3 y4 y5 : Option V), σ = [some (.ref c), some (.ref o), some (.ref cs), y3, y4, y5, none, none, none] ∧ H' cs = some (.lst vs) ∧ Paired (LstAt H') vs ((List.range (i + 1)).map (colV m.run)) ∧ ∀ q v, v ∈ vs → v = .ref q → q ≠ cs)
    ⟨s35, [.ref k0], none, none, none, rfl, e1, .cons ⟨k0, rfl, e0⟩ .nil, fun q v hv e => ?_⟩ (fun i σ H' hi hv => ?_) (fun σ H' hv => ?_)
  · rw [List.mem_singleton] at hv
    rw [hv] at e
    cases e
    exact ne_of e0 e1 (fun z => by cases z)
  · obtain ⟨s6, vs, y3, y4, y5, rfl, hcs, hvs, hne⟩ := hv
    dsimp only [gName, List.set]
    refine st_asgU (eu_unit (j := i) hi (by show 6 < 9; decide) rfl (by decide)) fun u H7 _ s7 hu => ?_
    dsimp only [gName, List.set]
    refine st_asgP (P := fun v H' => ∃ t, v = .ref t ∧ H' t = some (.tup (m.run (unitP i)).vs)) (ep_call2 (ev_var rfl) (ev_var rfl) fun H8 Q8 s8 k8 => ?_) fun v H8 s8 hv => ?_
    · exact ⟨u, c, unitP i, m, rfl, rfl, SqT.of (s8 _ _ hu), Same.tup (s03.trans (s6.trans (s7.trans s8))) hc, ok, fun t H' s3 e => k8 _ H' s3 ⟨t, rfl, e⟩⟩
    obtain ⟨w, rfl, hw⟩ := hv
    dsimp only [gName, List.set]
    have s68 := s7.trans s8
    have hcs8 := s68 _ _ hcs
    have ho8 := ((s6.trans s68)) _ _ ho
    have lv : vs.length = i + 1 := by rw [Paired.len hvs]; simp
    refine st_appLn rfl rfl (el_cat (xs := [.int 0]) (el_lst (ea_cons ev_c ea_nil) le1) (el_range (n := 6) (fun k => V.int (gt (m.run (unitP i)).ns k - gt (m.run zeroP).ns k)) (by decide) (by decide) fun k hk => ?_) le7) hcs8 (by omega) fun p H9 np s9 hp => ?_
    · exact ev_sub (ev_penIx (ev_var rfl) (ev_var rfl) (SqT.of hw) hk) (ev_penIx (ev_var rfl) (ev_var rfl) (SqT.of ho8) hk)
    · rw [colS m.run i _ rfl] at hp
      have hpcs : p ≠ cs := fun e => by rw [e, hcs8] at np; cases np
      refine ⟨Same.put (s6.trans (s68.trans s9)) ncs3, vs ++ [.ref p], _, _, _, rfl, upd_same, ?_, fun q v hv e => ?_⟩
      · rw [List.range_succ, List.map_append]
        refine Paired.snoc ⟨p, rfl, by rw [upd_ne hpcs]; exact hp⟩ ?_
        exact lstAt_put (s68.trans s9) hne hvs
      · rcases List.mem_append.mp hv with h | h
        · exact hne q v h e
        · rw [List.mem_singleton.mp h] at e
          cases e
          exact hpcs
  · obtain ⟨s6, vs, y3, y4, y5, rfl, hcs, hvs, hne⟩ := hv
    refine st_retL (el_rr (n1 := 7) (n2 := 7) (by decide) (fun i j => .int (probeF m.run i j)) (by decide) (by decide) (by decide) (by decide) fun i j hi hj => ?_) fun t H9 nt s9 ht => ?_
    · obtain ⟨v, hv, p, rfl, hp⟩ := Paired.get (i := j) hvs (by rw [List.getElem?_map, List.getElem?_range (by omega)]; rfl)
      refine ev_ixL (p := p) (ev_ixL (p := cs) (ev_var rfl) (ev_var rfl) (SqL.of hcs) (by rw [Int.zero_add]; exact atI_nat hv)) (ev_var rfl) (SqL.of hp) ?_
      rw [Int.zero_add]
      refine atI_nat ?_
      unfold colV
      rw [List.getElem?_map, List.getElem?_map, List.getElem?_range hi]
      rfl
    · refine q t H9 (s03.trans (s6.trans s9)) ((s03.trans s6).free nt) ?_
      rw [ht]
      unfold Cmd.mat probeM
      rw [← rows_mx]
      unfold rows
      rw [List.map_flatMap]
      simp only [List.map_map]
      rfl
end PH

namespace PH
open PySem PySem.Spec PyProof.Rows L2
theorem SqT.sb {K : PySem.W.Frag} {H H' : Hp} {D q : Addr} {xs ys : List V} (h : SqT K H q xs) (hD : H D = some (.lst ys)) (s : SB D H H') : SqT K H' q xs := by
  rcases h with (h | ⟨u, h⟩) | h
  · exact .inl (.inl (s q _ (fun e => by rw [e, hD] at h; cases h) h))
  · exact .inl (.inr ⟨u, s q _ (fun e => by rw [e, hD] at h; cases h) h⟩)
  · exact .inr h
theorem deeds_same {K : PySem.W.Frag} {H H' : Hp} (s : Same H H') {vs : List V} {ds : List Deed} (h : Paired (DeedAt K H) vs ds) : Paired (DeedAt K H') vs ds := Paired.mono (fun v d ⟨q, e, h⟩ => ⟨q, e, Same.tup s h⟩) h
/-- deeds that can be done from any pen, and lead to r of it -/
def Does (ds : List Deed) (r : Pen → Pen) : Prop := ∀ z, ∃ ps, pensRun ds [] z = some (ps, r z)
def pProbe (K : PySem.W.Frag) : V → Hp → VK → Prop := fun a H Q => ∃ (dp : Addr) (vs : List V) (ds : List Deed) (r : Pen → Pen), a = .ref dp ∧ SqL K H dp vs ∧ Paired (DeedAt K H) vs ds ∧ vs.length ≤ 90000 ∧ (∀ d ∈ ds, d.Ok) ∧ Does ds r ∧ ∀ t H', Same H H' → H t = none → H' t = some (.lst ((probeM r).map V.int)) → Q (.ref t) H'
theorem row0 (r : Pen → Pen) : [V.int 1, V.int 0, V.int 0, V.int 0, V.int 0, V.int 0, V.int 0] = (rows (probeF r) 1).map V.int := by
  have e : ∀ j, probeF r 0 (j + 1) = 0 := fun j => by
    show vc _ 0 - vc _ 0 = 0
    exact Int.sub_self 1
  rw [rows_succ]
  show _ = (([] : List Int) ++ [probeF r 0 0, probeF r 0 1, probeF r 0 2, probeF r 0 3, probeF r 0 4, probeF r 0 5, probeF r 0 6]).map V.int
  rw [e 0, e 1, e 2, e 3, e 4, e 5]
  rfl
theorem r_L_probe {K : PySem.W.Frag} {a : V} {H : Hp} {Q : VK} (h : pProbe K a H Q) : t_L_probe K (sp2 (pPens K)) (dEnds Q) [some a, none, none, none, none, none, none] H := by
  obtain ⟨dp, vs, ds, r, rfl, hd, hds, hl, ok, does, q⟩ := h
  obtain ⟨p0, run0⟩ := does zeroP
  refine ⟨le6, fun z0 nz0 => ?_⟩
  have s1 := same_upd (o := .tup zeroP.vs) nz0
  refine ⟨dp, z0, vs, ds, zeroP, p0, r zeroP, rfl, rfl, s1.seq hd, deeds_same s1 hds, hl, ok, SqT.of upd_same, run0, fun t0 l0 o us H2 s2 _ ht0 _ _ ho => ⟨_, _, .inl (SqL.of ht0), ix1, ?_⟩⟩
  dsimp only [gName, List.set]
  have s02 := s1.trans s2
  refine st_asgLP (el_rangeP (n := 6) (fun j v H' => ∃ p, v = .ref p ∧ SqT K H' p (r (unitP j)).vs) (by decide) (by decide) fun j hj => ?_) fun im H3 ws nim s3 him hws => ?_
  · intro H4 Q4 s4 k4
    refine eu_unit (j := j) hj (by show 6 < 7; decide) rfl (by decide) H4 _ (Same.refl _) fun u H5 _ s5 hu => ?_
    obtain ⟨p1, run1⟩ := does (unitP j)
    have s05 := s02.trans (s4.trans s5)
    refine ⟨dp, u, vs, ds, unitP j, p1, r (unitP j), rfl, rfl, s05.seq hd, deeds_same s05 hds, hl, ok, SqT.of hu, run1, fun t1 l1 w us H6 s6 _ ht1 _ _ hw => ⟨_, _, .inl (SqL.of ht1), ix1, ?_⟩⟩
    refine k4 _ _ (s5.trans s6) fun D H' _ hD sb => ⟨w, rfl, ?_⟩
    obtain ⟨xs, hD⟩ := hD
    exact SqT.sb hw ((s5.trans s6) _ _ hD) sb
  dsimp only [gName, List.set]
  obtain ⟨lws, hws⟩ := hws
  have s03 := s02.trans s3
  have ho3 := Same.tup s3 ho
  refine ⟨le7, fun m nm => ?_⟩
  dsimp only [gName, List.set]
  rw [row0 r]
  have s4 := same_upd (o := .lst ((rows (probeF r) 1).map V.int)) nm
  have hm : upd H3 m (.lst ((rows (probeF r) 1).map V.int)) m = some (.lst ((rows (probeF r) 1).map V.int)) := upd_same
  generalize upd H3 m (.lst ((rows (probeF r) 1).map V.int)) = H4 at s4 hm ⊢
  refine st_forRc (n := 6) (by decide) (by decide) ?_
  refine for_range (n := 6) (fun i σ H' => Same H3 H' ∧ ∃ y4 y5, σ = [some (.ref dp), some (.ref o), some (.ref im), some (.ref m), y4, y5, none] ∧ H' m = some (.lst ((rows (probeF r) (i + 1)).map V.int))) ⟨s4, _, _, rfl, hm⟩ (fun i σ H5 hi hv => ?_) (fun σ H5 hv => ?_)
  · obtain ⟨s5, y4, y5, rfl, hm5⟩ := hv
    dsimp only [gName, List.set]
    refine st_appL rfl rfl (ev_penIx (ev_var rfl) (ev_var rfl) (Same.tup s5 ho3) hi) hm5 (by rw [List.length_map, rows_len]; omega) fun H6 s6 => ?_
    have s7 := Same.put (o := .lst ((rows (probeF r) (i + 1)).map V.int ++ [V.int (gt (r zeroP).ns i)])) (s5.trans s6) nm
    have hm7 : upd H6 m (.lst ((rows (probeF r) (i + 1)).map V.int ++ [V.int (gt (r zeroP).ns i)])) m = some (.lst ((rows (probeF r) (i + 1) ++ (List.range 1).map (probeF r (i + 1))).map V.int)) := by
      rw [upd_same, List.map_append]
      rfl
    generalize upd H6 m (.lst ((rows (probeF r) (i + 1)).map V.int ++ [V.int (gt (r zeroP).ns i)])) = H7 at s7 hm7 ⊢
    refine ⟨6, rfl, by decide, by decide, ?_⟩
    refine for_range (n := 6) (fun j σ H' => Same H3 H' ∧ ∃ y5, σ = [some (.ref dp), some (.ref o), some (.ref im), some (.ref m), some (.int (0 + (i : Nat))), y5, none] ∧ H' m = some (.lst ((rows (probeF r) (i + 1) ++ (List.range (j + 1)).map (probeF r (i + 1))).map V.int))) ⟨s7, _, rfl, hm7⟩ (fun j σ H8 hj hv => ?_) (fun σ H8 hv => ?_)
    · obtain ⟨s8, y5, rfl, hm8⟩ := hv
      dsimp only [gName, List.set]
      obtain ⟨v, hv⟩ : ∃ v, ws[j]? = some v := ⟨_, List.getElem?_eq_getElem (by omega)⟩
      obtain ⟨p, rfl, hp⟩ := hws j v hv
      refine st_appL rfl rfl (ev_sub (ev_penIx (p := p) (ev_ixL (p := im) (ev_var rfl) (ev_var rfl) (SqL.of (s8 _ _ him)) (by rw [Int.zero_add]; exact atI_nat hv)) (ev_var rfl) (Same.tup s8 hp) hi) (ev_penIx (ev_var rfl) (ev_var rfl) (Same.tup s8 ho3) hi)) hm8 (by rw [List.length_map, List.length_append, rows_len, List.length_map, List.length_range]; omega) fun H9 s9 => ?_
      refine ⟨Same.put (s8.trans s9) nm, _, rfl, ?_⟩
      rw [upd_same, List.range_succ (n := j + 1), List.map_append (l₁ := List.range (j + 1)), ← List.append_assoc, List.map_append (l₂ := List.map (probeF r (i + 1)) [j + 1])]
      rfl
    · obtain ⟨s8, y5, rfl, hm8⟩ := hv
      exact ⟨s8, _, _, rfl, by rw [hm8, rows_succ (probeF r) (i + 1)]⟩
  · obtain ⟨s5, y4, y5, rfl, hm5⟩ := hv
    refine q m H5 (s03.trans s5) (s03.free nm) ?_
    unfold probeM
    rw [hm5, ← rows_mx]
theorem does_cmd (m : Cmd) : Does [.cmd m] m.run := fun z => ⟨[m.run z], rfl⟩
theorem r_law_k03 {K : PySem.W.Frag} {a : V} {H : Hp} {Q : VK} (h : pLaw K a H Q) :
    t_law_k03 K (sp1 (pMkPool K)) (sp1 pAnyCmd) (sp1 pPen) (sp1 (pMatOf K)) (sp1 (pIsMat K)) (sp1 (pProbe K)) (sp2 (pApplied K)) (sp2 (pRun K)) (sp2 pDraw) (dEnds Q) [some a, none, none, none, none, none, none] H := by
  obtain ⟨s, ns, rfl, hs, hl, q⟩ := h
  refine ⟨s, ns, rfl, hs, hl, fun p H1 n s1 np hP hn => ?_⟩
  dsimp only [gName, List.set]
  obtain ⟨ms, hp, hml⟩ := id hP
  refine st_forR (n := n + 1) (ev_sub (ev_lenL (p := p) (ev_var rfl) (SqL.of hp)) ev_c) (by rw [List.length_map, hml]; omega) (by omega) fun H2 s2 => ?_
  refine for_range (n := n + 1) (fun i σ H' => Pool H' p n ∧ ∃ y2 y3 y4 y5 y6, σ = [some (.ref s), some (.ref p), y2, y3, y4, y5, y6]) ⟨Same.pool s2 hP, _, _, _, _, _, rfl⟩ (fun i σ H' hi hv => ?_) (fun σ H' hv => q _)
  obtain ⟨hP3, y2, y3, y4, y5, y6, rfl⟩ := hv
  dsimp only [gName, List.set]
  refine ⟨p, n, rfl, hP3, fun c H4 m d4 hc ok => ?_⟩
  dsimp only [gName, List.set]
  refine ⟨p, n, rfl, d4.pool, fun b H5 z hz d5 hb => ?_⟩
  dsimp only [gName, List.set]
  have hc5 : SqT K H5 c m.vs := SB.tup d5 d4.pool (SqT.of hc)
  have hP5 := d5.pool
  refine ⟨c, m, rfl, hc5, ok, fun t H6 s6 nt ht => ?_⟩
  dsimp only [gName, List.set]
  have htp : t ≠ p := hP5.ne nt
  have mlen : m.mat.length = 49 := (Cmd.matOf ok).1
  refine ⟨t, _, rfl, SqL.of ht, mlen, fun H7 s7 => ?_⟩
  refine ⟨le1, fun l nl => ⟨l, [.ref c], [.cmd m], m.run, rfl, SqL.of upd_same, .cons ⟨c, rfl, Same.tup ((s6.trans s7).trans (same_upd nl)) hc5⟩ .nil, (show 1 ≤ 90000 by decide), fun d hd => (by rw [List.mem_singleton.mp hd]; exact ok), does_cmd m, fun u H8 s8 nu hu => ?_⟩⟩
  replace s8 := (same_upd nl).trans s8
  replace hu : H8 u = some (.lst (m.mat.map V.int)) := hu
  refine ⟨_, _, dp_ints (SqL.of ((s7.trans s8) _ _ ht)), dp_ints (SqL.of hu), intsD_shaped _, intsD_shaped _, ?_⟩
  rw [intsD_eq]
  have s58 := s6.trans (s7.trans s8)
  have hb8 : SqT K H8 b z.vs := Same.tup s58 (SqT.of hb)
  have ht8 := (s7.trans s8) _ _ ht
  refine ⟨t, b, m.mat, z, 137, rfl, rfl, ⟨SqL.of ht8, mlen, fun x hx => Bd.mono (Cmd.mat_bd ok x hx) (by decide)⟩, by decide, by decide, hb8, hz, fun v H9 s9 hv => ?_⟩
  rw [imgOf_eq (Cmd.matOf ok)] at hv
  refine ⟨b, c, z, m, rfl, rfl, Same.tup s9 hb8, Same.tup (s58.trans s9) hc5, ok, fun w H10 s10 hw => ?_⟩
  refine ⟨_, _, dp_pen (SqT.of (s10 _ _ hv)), dp_pen (SqT.of hw), rfl, rfl, ?_⟩
  rw [penD_eq]
  have s510 := s58.trans (s9.trans s10)
  refine ⟨p, n, 49, rfl, rfl, Same.pool s510 hP5, by decide, by decide, fun d H11 d0 d1 s11 => ?_⟩
  dsimp only [gName, List.set]
  have ht11 : H11 t = some (.lst (m.mat.map V.int)) := by rw [s11.at htp]; exact (s9.trans s10) _ _ ht8
  have hP11 := s11.pool
  have hc11 : SqT K H11 c m.vs := SB.tup s11.drew (Same.pool s510 hP5) (Same.tup s510 hc5)
  refine ⟨_, _, .inl (SqL.of ht11), atM (n := d.toNat) (by omega) (by rw [mlen]; omega), _, ht11, d0, by rw [List.length_map, mlen]; omega, ?_⟩
  have hc12 : SqT K (upd H11 t (.lst ((m.mat.map V.int).set d.toNat (.int (gt m.mat d.toNat + 1))))) c m.vs := SqT.put hc11 ht11
  have hP12 : Pool (upd H11 t (.lst ((m.mat.map V.int).set d.toNat (.int (gt m.mat d.toNat + 1))))) p n := by
    obtain ⟨ks, h1, h2⟩ := hP11
    exact ⟨ks, by rw [upd_ne (Ne.symm htp)]; exact h1, h2⟩
  generalize upd H11 t (.lst ((m.mat.map V.int).set d.toNat (.int (gt m.mat d.toNat + 1)))) = H12 at hc12 hP12 ⊢
  refine ⟨c, m, rfl, hc12, ok, fun t2 H13 s13 _ ht2 => ?_⟩
  refine ⟨le1, fun l2 nl2 => ⟨l2, [.ref c], [.cmd m], m.run, rfl, SqL.of upd_same, .cons ⟨c, rfl, Same.tup (s13.trans (same_upd nl2)) hc12⟩ .nil, (show 1 ≤ 90000 by decide), fun d hd => (by rw [List.mem_singleton.mp hd]; exact ok), does_cmd m, fun u2 H14 s14 _ hu2 => ?_⟩⟩
  replace s14 := (same_upd nl2).trans s14
  replace hu2 : H14 u2 = some (.lst (m.mat.map V.int)) := hu2
  refine ⟨_, _, dp_ints (SqL.of (s14 _ _ ht2)), dp_ints (SqL.of hu2), intsD_shaped _, intsD_shaped _, ?_⟩
  rw [intsD_eq]
  exact ⟨Same.pool (s13.trans s14) hP12, _, _, _, _, _, rfl⟩
end PH

namespace PH
open PySem PySem.Spec PyProof.Rows L2
theorem for_rev {K : PySem.W.Frag} {a : Addr} {xs : List V} {g : TG} {tb : TS} {D : Ends} {σ : L2.St} {H : Hp} (Pv : Nat → L2.St → Hp → Prop) (h0 : Pv 0 σ H) (hl : ∀ i σ H, i ≤ xs.length → Pv i σ H → SqL K H a xs)
    (hs : ∀ i x σ H, i < xs.length → xs[xs.length - 1 - i]? = some x → Pv i σ H → g x σ H fun σ2 H2 => tb { D with nx := Pv (i + 1), ct := Pv (i + 1), bk := D.nx } σ2 H2) (hd : ∀ σ H, Pv xs.length σ H → D.nx σ H) : ForB (Itv K a xs.length) g tb D σ H := by
  refine ⟨fun i m σ H => m = xs.length - i ∧ i ≤ xs.length ∧ Pv i σ H, ⟨xs.length, by simp, Nat.zero_le _, h0⟩, ?_⟩
  rintro i m σ H ⟨rfl, hi, p⟩
  by_cases hlt : i < xs.length
  · have hlt2 : xs.length - 1 - i < xs.length := by omega
    refine .inr ⟨⟨hlt, xs, xs[xs.length - 1 - i], hl i σ H hi p, List.getElem?_eq_getElem hlt2⟩, fun σ' H' => Pv (i + 1) σ' H', fun σ' H' h => ⟨xs.length - (i + 1), by omega, rfl, by omega, h⟩, fun x H' hy => ?_⟩
    obtain ⟨rfl, hy⟩ := hy
    exact hs i x σ H' hlt (hy xs (hl i σ H' hi p)) p
  · have e : i = xs.length := by omega
    subst e
    exact .inl ⟨Nat.le_refl _, hd σ H p⟩
theorem st_forV {K : PySem.W.Frag} {σ : L2.St} {H : Hp} {ta : TE} {xs : List V} {D : Ends} {rest tb : TS} {g : TG} (h : EvL ta σ H xs) (k : ∀ l H3, H l = none → Same H H3 → H3 l = some (.lst xs) → ForB (Itv K l xs.length) g tb { D with nx := rest D } σ H3) : tSeq (tFor (iRev K (tCons ta tNil)) g tb) rest D σ H :=
  h H _ (Same.refl _) fun l H3 nl s3 hl => ⟨l, xs, rfl, SqL.of hl, k l H3 nl s3 hl⟩
def runAll (ms : List Cmd) (z : Pen) : Pen := ms.foldl (fun z m => m.run z) z
def CmdsAt (K : PySem.W.Frag) (H : Hp) (vs : List V) (ms : List Cmd) : Prop := Paired (fun v m => DeedAt K H v (.cmd m)) vs ms
theorem CmdsAt.deeds {K : PySem.W.Frag} {H : Hp} : ∀ {vs : List V} {ms : List Cmd}, CmdsAt K H vs ms → Paired (DeedAt K H) vs (ms.map Deed.cmd)
  | _, _, .nil => .nil
  | _, _, .cons r t => .cons r (CmdsAt.deeds t)
theorem CmdsAt.same {K : PySem.W.Frag} {H H' : Hp} (s : Same H H') {vs : List V} {ms : List Cmd} (h : CmdsAt K H vs ms) : CmdsAt K H' vs ms := Paired.mono (fun v d ⟨q, e, h⟩ => ⟨q, e, Same.tup s h⟩) h
theorem CmdsAt.drew {K : PySem.W.Frag} {p : Addr} {n : Nat} {H H' : Hp} (d : Drew p n H H') (hP : Pool H p n) {vs : List V} {ms : List Cmd} (h : CmdsAt K H vs ms) : CmdsAt K H' vs ms := Paired.mono (fun v c ⟨q, e, h⟩ => ⟨q, e, SB.tup d hP h⟩) h
theorem Paired.take {α β : Type} {F : α → β → Prop} : ∀ {xs : List α} {ys : List β} (n : Nat), Paired F xs ys → Paired F (xs.take n) (ys.take n)
  | _, _, 0, _ => by rw [List.take_zero, List.take_zero]; exact .nil
  | _, _, n + 1, .nil => .nil
  | _, _, n + 1, .cons r t => .cons r (Paired.take n t)
theorem Paired.drop {α β : Type} {F : α → β → Prop} : ∀ {xs : List α} {ys : List β} (n : Nat), Paired F xs ys → Paired F (xs.drop n) (ys.drop n)
  | _, _, 0, h => h
  | _, _, n + 1, .nil => .nil
  | _, _, n + 1, .cons r t => Paired.drop n t
theorem pens_cmds : ∀ (ms : List Cmd) (z : Pen), ∃ ps, pensRun (ms.map Deed.cmd) [] z = some (ps, runAll ms z)
  | [], z => ⟨[], rfl⟩
  | m :: r, z => by
    obtain ⟨ps, h⟩ := pens_cmds r (m.run z)
    refine ⟨m.run z :: ps, ?_⟩
    show (pensRun (r.map Deed.cmd) [] (m.run z)).map _ = _
    rw [h]
    rfl
theorem does_cmds (ms : List Cmd) : Does (ms.map Deed.cmd) (runAll ms) := pens_cmds ms
theorem cmds_ok {ms : List Cmd} (ok : ∀ m ∈ ms, m.Ok) : ∀ d ∈ ms.map Deed.cmd, d.Ok := fun d hd => by
  obtain ⟨m, hm, rfl⟩ := List.mem_map.mp hd
  exact ok m hm
theorem runAll_snoc (ms : List Cmd) (m : Cmd) (z : Pen) : runAll (ms ++ [m]) z = m.run (runAll ms z) := by
  unfold runAll
  rw [List.foldl_append]
  rfl
theorem runAll_append (ms ns : List Cmd) (z : Pen) : runAll (ms ++ ns) z = runAll ns (runAll ms z) := by
  unfold runAll
  rw [List.foldl_append]
theorem MatOf.uniq {r : Pen → Pen} {A B : List Int} (h : MatOf r A) (k : MatOf r B) : A = B := (probe_eq h).symm.trans (probe_eq k)
/-- a matrix of the run of these, with numbers of this size -/
structure Mt (H : Hp) (t : Addr) (ms : List Cmd) (a : Nat) : Prop where
  ex : ∃ M, H t = some (.lst (M.map V.int)) ∧ MatOf (runAll ms) M ∧ ∀ x ∈ M, Bd a x
theorem Mt.same {H H' : Hp} (s : Same H H') {t : Addr} {ms : List Cmd} {a : Nat} (h : Mt H t ms a) : Mt H' t ms a := by
  obtain ⟨M, h1, h2, h3⟩ := h.ex
  exact ⟨⟨M, s _ _ h1, h2, h3⟩⟩
def pChain (K : PySem.W.Frag) : V → Hp → VK → Prop := fun a H Q => ∃ (p : Addr) (vs : List V) (ms : List Cmd), a = .ref p ∧ SqL K H p vs ∧ CmdsAt K H vs ms ∧ (∀ m ∈ ms, m.Ok) ∧ vs.length ≤ 1000 ∧ ∀ t H', Same H H' → Mt H' t ms (137 + 8 * vs.length) → Q (.ref t) H'
theorem take_snoc {α : Type} {xs : List α} {i : Nat} {x : α} (h : xs[i]? = some x) : xs.take (i + 1) = xs.take i ++ [x] := by
  rw [List.take_add_one, h]
  rfl
theorem r_L_chain {K : PySem.W.Frag} {a : V} {H : Hp} {Q : VK} (h : pChain K a H Q) : t_L_chain K (sp2 (pComposed K)) (sp1 (pMatOf K)) (dEnds Q) [some a, none, none, none] H := by
  obtain ⟨p, vs, ms, rfl, hp, hms, ok, hl, q⟩ := h
  refine st_asgL (el_unit (by show 3 < 4; decide)) fun u H1 nu s1 hu => ?_
  dsimp only [List.set]
  refine st_forL (p := p) (xs := vs) (ev_var rfl) (s1.seq hp) fun H2 s2 => ?_
  have s02 := s1.trans s2
  refine for_list (K := K) (a := p) (xs := vs) (fun i σ H' => Same H H' ∧ ∃ t y, σ = [some (.ref p), some (.ref t), y, none] ∧ Mt H' t (ms.take i) (137 + 8 * i)) ⟨s02, u, none, rfl, ⟨unitM, s2 _ _ hu, MatOf.unit, unit_bd⟩⟩ (fun i σ H' _ hv => hv.1.seq hp) (fun i x σ H' hi hv => ?_) (fun σ H' hv => ?_)
  · obtain ⟨s3, t, y, rfl, ⟨M, ht, hM, hb⟩⟩ := hv
    obtain ⟨m, hmi, xq, rfl, hx⟩ := Paired.at hms hi
    have hi' : i ≤ 1000 := by
      obtain ⟨h, _⟩ := List.getElem?_eq_some_iff.mp hi
      omega
    have mok := ok m (List.mem_of_getElem? hmi)
    dsimp only [gName, List.set]
    refine ⟨xq, m, rfl, Same.tup s3 hx, mok, fun n H4 s4 nn hn => ?_⟩
    refine ⟨t, n, M, m.mat, 137 + 8 * i, 5, rfl, rfl, ⟨SqL.of (s4 _ _ ht), hM.1, hb⟩, ⟨SqL.of hn, (Cmd.matOf mok).1, Cmd.mat_bd mok⟩, by omega, by omega, by omega, fun t2 H5 s5 _ ht2 => ?_⟩
    refine ⟨s3.trans (s4.trans s5), t2, _, rfl, ⟨_, ht2, ?_, fun x hx => Bd.mono (compM_bd hb (Cmd.mat_bd mok) x hx) (by omega)⟩⟩
    rw [take_snoc hmi]
    have := MatOf.comp hM (Cmd.matOf mok)
    refine ⟨this.1, fun z i hi => ?_⟩
    rw [runAll_snoc]
    exact this.2 z i hi
  · obtain ⟨s3, t, y, rfl, hM⟩ := hv
    rw [Paired.len hms, List.take_length] at hM
    refine q t H' s3 ?_
    rw [Paired.len hms]
    exact hM
end PH

namespace PH
open PySem PySem.Spec PyProof.Rows L2
theorem cut_to {xs : List V} {d : Int} {n : Nat} (h : d = (n : Int)) (hn : n ≤ xs.length) : cutV xs none (some d) = xs.take n := by
  subst h
  unfold cutV
  rw [HT.sIx_none, HT.sIx_nat, Nat.min_eq_left hn]
  simp
theorem cut_from {xs : List V} {d : Int} {n : Nat} (h : d = (n : Int)) (hn : n ≤ xs.length) : cutV xs (some d) none = xs.drop n := by
  subst h
  unfold cutV
  rw [HT.sIx_none, HT.sIx_nat, Nat.min_eq_left hn]
  rw [List.take_of_length_le (by simp)]
theorem r_law_k07 {K : PySem.W.Frag} {a : V} {H : Hp} {Q : VK} (h : pLaw K a H Q) :
    t_law_k07 K (sp1 (pMkPool K)) (sp1 pAnyCmd) (sp1 pPen) (sp2 pDraw) (sp1 (pChain K)) (sp2 (pComposed K)) (sp1 (pMatOf K)) (sp1 (pProbe K)) (sp2 (pRun K)) (sp2 (pPens K)) (sp2 (pApplied K)) (dEnds Q) [some a, none, none, none, none, none, none, none, none, none, none] H := by
  obtain ⟨s, ns, rfl, hs, hl, q⟩ := h
  refine ⟨s, ns, rfl, hs, hl, fun p H1 n s1 np hP hn => ?_⟩
  dsimp only [gName, List.set]
  obtain ⟨ks, hp, hkl⟩ := id hP
  refine ⟨_, .inl (SqL.of hp), ((ks.map V.int).length : Int) - 1, rfl, by omega, by rw [List.length_map, hkl]; omega, fun D nD => ?_⟩
  have hDp : D ≠ p := hP.ne nD
  rw [show ((((ks.map V.int).length : Nat) : Int) - 1).toNat = n + 1 by rw [List.length_map, hkl]; omega]
  refine lc_range (n := n + 1) (fun i H' => Drew p n H1 H' ∧ ∃ vs ms, H' D = some (.lst vs) ∧ CmdsAt K H' vs ms ∧ (∀ m ∈ ms, m.Ok) ∧ vs.length = i) ⟨(Drew.refl hP).new nD, [], [], upd_same, .nil, (fun m hm => by cases hm), rfl⟩ (fun i H' hi hv => ?_) (fun H2 hv => ?_)
  · obtain ⟨d1, vs, ms, hD, hms, ok, hvl⟩ := hv
    refine ⟨rfl, p, n, rfl, d1.pool, fun t H3 m d3 ht mok => ⟨vs, d3.sb _ _ hDp hD, sz (by omega), ?_⟩⟩
    have hD3 := d3.sb _ _ hDp hD
    have up : ∀ v (c : Cmd), DeedAt K H3 v (.cmd c) → DeedAt K (upd H3 D (.lst (vs ++ [.ref t]))) v (.cmd c) := fun v c ⟨q, e, h⟩ => ⟨q, e, SqT.put h hD3⟩
    have hms3 : CmdsAt K (upd H3 D (.lst (vs ++ [V.ref t]))) (vs ++ [V.ref t]) (ms ++ [m]) := Paired.snoc (F := fun v (c : Cmd) => DeedAt K (upd H3 D (.lst (vs ++ [V.ref t]))) v (.cmd c)) (up _ _ ⟨t, rfl, SqT.of ht⟩) (Paired.mono up (CmdsAt.drew d3 d1.pool hms))
    refine ⟨(d1.trans d3).set nD hDp, vs ++ [.ref t], ms ++ [m], upd_same, hms3, fun c hc => ?_, by simp [hvl]⟩
    rcases List.mem_append.mp hc with h | h
    · exact ok c h
    · rw [List.mem_singleton.mp h]; exact mok
  obtain ⟨d2, vs, ms, hD, hms, ok, hvl⟩ := hv
  dsimp only [gName, List.set]
  refine ⟨p, n, rfl, d2.pool, fun b H3 z hz d3 hb => ?_⟩
  dsimp only [gName, List.set]
  have hD3 := d3.sb _ _ hDp hD
  have hms3 := CmdsAt.drew d3 d2.pool hms
  refine ⟨_, .inl (SqL.of hD3), p, n, (vs.length : Int) + 1, rfl, rfl, d3.pool, by omega, by omega, fun d H4 d0 d1 s4 => ?_⟩
  dsimp only [gName, List.set]
  have hD4 : H4 D = some (.lst vs) := by rw [s4.at hDp]; exact hD3
  have hms4 := CmdsAt.drew s4.drew d3.pool hms3
  have hb4 : SqT K H4 b z.vs := SB.tup s4.drew d3.pool (SqT.of hb)
  have hmlen : ms.length = vs.length := (Paired.len hms).symm
  clear hD3 hms3 hD hms d2 d3 s4
  refine ⟨D, vs, ms, rfl, SqL.of hD4, hms4, ok, by omega, fun t1 H5 s5 m1 => ?_⟩
  dsimp only [gName, List.set]
  refine st_asgL (el_unit (by show 10 < 11; decide)) fun u H6 nu s6 hu => ?_
  dsimp only [List.set]
  have s46 := s5.trans s6
  have hD6 := s46 _ _ hD4
  refine st_forV (xs := vs) (el_listL (p := D) (ev_var rfl) (SqL.of hD6)) fun l H7 nl s7 hl7 => ?_
  have s47 := s46.trans s7
  refine for_rev (K := K) (a := l) (xs := vs) (fun i σ H' => Same H7 H' ∧ ∃ t y, σ = [some (.ref s), some (.ref p), some (.ref D), some (.ref b), some (.int d), some (.ref t1), some (.ref t), y, none, none, none] ∧ Mt H' t (ms.drop (vs.length - i)) (137 + 8 * i)) ⟨Same.refl _, u, none, rfl, ?_⟩ (fun i σ H' _ hv => hv.1.seq (SqL.of hl7)) (fun i x σ H' hlt hi hv => ?_) (fun σ H8 hv => ?_)
  · refine ⟨unitM, s7 _ _ hu, ?_, unit_bd⟩
    rw [Nat.sub_zero, ← hmlen, List.drop_length]
    exact MatOf.unit
  · obtain ⟨s8, t, y, rfl, ⟨M, ht, hM, hbd⟩⟩ := hv
    obtain ⟨m, hmi, xq, rfl, hx⟩ := Paired.at hms4 hi
    have mok := ok m (List.mem_of_getElem? hmi)
    dsimp only [gName, List.set]
    refine ⟨xq, m, rfl, Same.tup (s47.trans s8) hx, mok, fun w H9 s9 nw hw => ?_⟩
    refine ⟨w, t, m.mat, M, 5, 137 + 8 * i, rfl, rfl, ⟨SqL.of hw, (Cmd.matOf mok).1, Cmd.mat_bd mok⟩, ⟨SqL.of (s9 _ _ ht), hM.1, hbd⟩, by omega, by omega, by omega, fun t2 H10 s10 _ ht2 => ?_⟩
    refine ⟨s8.trans (s9.trans s10), t2, _, rfl, ⟨_, ht2, ?_, fun x hx => Bd.mono (compM_bd (Cmd.mat_bd mok) hbd x hx) (by omega)⟩⟩
    have := MatOf.comp (Cmd.matOf mok) hM
    have e : vs.length - (i + 1) = vs.length - 1 - i := by omega
    rw [e, drop_at hmi, show vs.length - 1 - i + 1 = vs.length - i by omega]
    exact this
  obtain ⟨s8, t2, y, rfl, m2⟩ := hv
  rw [Nat.sub_self, List.drop_zero] at m2
  have s48 := s47.trans s8
  have hD8 := s48 _ _ hD4
  have hms8 := hms4.same s48
  have hcut : d.toNat ≤ vs.length := by omega
  refine Or.inl ⟨vs, SqL.of hD8, fun l1 nl1 => ?_⟩
  rw [cut_to (n := d.toNat) (by omega) hcut]
  have s9 := same_upd (o := .lst (vs.take d.toNat)) nl1
  have hD9 := s9 _ _ hD8
  refine ⟨l1, vs.take d.toNat, ms.take d.toNat, rfl, SqL.of upd_same, Paired.take _ (hms8.same s9), fun m hm => ok m (List.mem_of_mem_take hm), by rw [List.length_take]; omega, fun t3 H10 s10 m3 => ?_⟩
  have hD10 := s10 _ _ hD9
  refine Or.inl ⟨vs, SqL.of hD10, fun l2 nl2 => ?_⟩
  rw [cut_from (n := d.toNat) (by omega) hcut]
  have s11 := same_upd (o := .lst (vs.drop d.toNat)) nl2
  refine ⟨l2, vs.drop d.toNat, ms.drop d.toNat, rfl, SqL.of upd_same, Paired.drop _ (((hms8.same s9).same s10).same s11), fun m hm => ok m (List.mem_of_mem_drop hm), by rw [List.length_drop]; omega, fun t4 H12 s12 m4 => ?_⟩
  obtain ⟨A, hA, mA, bA⟩ := (m3.same (s11.trans s12)).ex
  obtain ⟨B, hB, mB, bB⟩ := m4.ex
  rw [List.length_take, Nat.min_eq_left hcut] at bA
  rw [List.length_drop] at bB
  refine ⟨t3, t4, A, B, 137 + 8 * d.toNat, 137 + 8 * (vs.length - d.toNat), rfl, rfl, ⟨SqL.of hA, mA.1, bA⟩, ⟨SqL.of hB, mB.1, bB⟩, by omega, by omega, by omega, fun t5 H13 s13 _ ht5 => ?_⟩
  dsimp only [gName, List.set]
  have mC : MatOf (runAll ms) (compM A B) := by
    have := MatOf.comp mA mB
    refine ⟨this.1, fun z i hi => ?_⟩
    rw [← this.2 z i hi]
    show _ = vc (runAll (ms.drop d.toNat) (runAll (ms.take d.toNat) z)) i
    rw [← runAll_append, List.take_append_drop]
  have s813 := ((s9.trans s10).trans (s11.trans s12)).trans s13
  have s413 := s48.trans s813
  refine ⟨D, vs, ms.map Deed.cmd, runAll ms, rfl, SqL.of (s413 _ _ hD4), (hms4.same s413).deeds, by omega, cmds_ok ok, does_cmds ms, fun t6 H14 s14 _ ht6 => ?_⟩
  obtain ⟨M1, h1, k1, b1⟩ := (m1.same (s6.trans (s7.trans (s8.trans (s813.trans s14))))).ex
  obtain ⟨M2, h2, k2, b2⟩ := (m2.same (s813.trans s14)).ex
  rw [probe_eq k1] at ht6
  rw [MatOf.uniq k2 k1] at h2
  rw [MatOf.uniq mC k1] at ht5
  refine ⟨_, _, dp_ints (SqL.of h1), dp_ints (SqL.of ht6), intsD_shaped _, intsD_shaped _, ?_⟩
  rw [intsD_eq]
  refine ⟨_, _, dp_ints (SqL.of h2), dp_ints (SqL.of h1), intsD_shaped _, intsD_shaped _, ?_⟩
  rw [intsD_eq]
  refine ⟨_, _, dp_ints (SqL.of (s14 _ _ ht5)), dp_ints (SqL.of h1), intsD_shaped _, intsD_shaped _, ?_⟩
  rw [intsD_eq]
  have s414 := s413.trans s14
  refine Or.inl ⟨⟨_, SqL.of (s414 _ _ hD4)⟩, for_list (K := K) (a := D) (xs := vs) (fun i σ H' => Same H14 H' ∧ ∃ t y, σ = [some (.ref s), some (.ref p), some (.ref D), some (.ref b), some (.int d), some (.ref t1), some (.ref t2), y, some (.ref t5), some (.ref t), none] ∧ SqT K H' t (runAll (ms.take i) z).vs) ⟨Same.refl _, b, _, rfl, Same.tup s414 hb4⟩ (fun i σ H' _ hv => SqL.of (hv.1 _ _ (s414 _ _ hD4))) (fun i x σ H' hi hv => ?_) (fun σ H17 hv => ?_)⟩
  · obtain ⟨s17, t, y, rfl, ht⟩ := hv
    obtain ⟨m, hmi, xq, rfl, hx⟩ := Paired.at hms4 hi
    have mok := ok m (List.mem_of_getElem? hmi)
    dsimp only [gName, List.set]
    refine ⟨t, xq, _, m, rfl, rfl, ht, Same.tup (s414.trans s17) hx, mok, fun t7 H18 s18 h7 => ⟨s17.trans s18, t7, _, rfl, ?_⟩⟩
    rw [take_snoc hmi, runAll_snoc]
    exact SqT.of h7
  obtain ⟨s17, t, y, rfl, ht⟩ := hv
  rw [← hmlen, List.take_length] at ht
  have s417 := s414.trans s17
  obtain ⟨ps, hps⟩ := pens_cmds ms z
  refine ⟨D, b, vs, ms.map Deed.cmd, z, ps, runAll ms z, rfl, rfl, SqL.of (s417 _ _ hD4), (hms4.same s417).deeds, by omega, cmds_ok ok, Same.tup s417 hb4, hps, fun t8 l8 q8 us H18 s18 _ h8 _ _ hq8 => ?_⟩
  refine ⟨_, _, .inl (SqL.of h8), ix1, _, _, dp_pen (Same.tup s18 ht), dp_pen hq8, rfl, rfl, ?_⟩
  rw [penD_eq]
  have h1' := (s17.trans s18) _ _ h1
  have s418 := s417.trans s18
  refine ⟨t1, b, M1, z, 137 + 8 * vs.length, rfl, rfl, ⟨SqL.of h1', k1.1, b1⟩, by omega, by omega, Same.tup s418 hb4, fun x hx => Bd.mono (hz x hx) (by omega), fun t9 H19 s19 h9 => ?_⟩
  rw [imgOf_eq k1] at h9
  refine ⟨_, _, dp_pen (SqT.of h9), dp_pen (Same.tup (s18.trans s19) ht), rfl, rfl, ?_⟩
  rw [penD_eq]
  exact q _
end PH

namespace PH
open PySem PySem.Spec PyProof.Rows L2
abbrev veL : List Value := [.type "ValueError", .type "Exception", .type "BaseException", .type "object"]
structure XcF (K : PySem.W.Frag) (mg : Str → Option Value) (x : Str) : Prop where
  exc : PySem.W.excIn K (He.ga K x) veL "ValueError.__new__" = true
  glo : mg x = some (.ref (He.ga K x))
  kp : PySem.W.keepIn K (.ref (He.ga K x)) = true
  sub : PySem.W.subIn K (.ref (He.ga K x)) (.type "BaseException") = some true
  ty : PySem.W.typeIn K (.ref (He.ga K x)) = some (.type "type")
/-- what a table of the head can tell of it -/
def xcB (K : PySem.W.Frag) (x : Str) : Bool := PySem.W.excIn K (He.ga K x) veL "ValueError.__new__" && (PySem.W.keepIn K (.ref (He.ga K x)) && (decide (PySem.W.subIn K (.ref (He.ga K x)) (.type "BaseException") = some true) && decide (PySem.W.typeIn K (.ref (He.ga K x)) = some (.type "type"))))
theorem xcB_ok {K : PySem.W.Frag} {mg : Str → Option Value} {x : Str} (h : xcB K x = true) (g : mg x = some (.ref (He.ga K x))) : XcF K mg x := by
  obtain ⟨h1, h2⟩ := He.ba h
  obtain ⟨h3, h4⟩ := He.ba h2
  obtain ⟨h5, h6⟩ := He.ba h4
  exact ⟨h1, g, h3, of_decide_eq_true h5, of_decide_eq_true h6⟩
section
variable {X : Cx} {x : Str} {p pos pos' : Pos} {W : WX} {e : Expr} {es : List Expr} {t : TA} {ps : List Str} {sp : Sp} {k j : Nat} {E : XK}
def tRaise (cls : Value) (W : WX) : TS := fun _ σ H => W cls none σ H
def tRaiseX (cls : Value) (E : XK) : TS := fun _ _ H => E cls none H
theorem pmk_none (F : XcF X.K X.mg x) (hg : Gl X x) (hdb : (x == ("__debug__" : Str)) = false) : PMk X (.Call (.Name x p) [] [] pos) (fun _ H Q => Q (.ref (He.ga X.K x)) none H) := by
  intro pins s σ H Q I q
  refine wpAny_Call_Name_kw (ld_glob I hg F.glo ?_ hdb)
  refine PySem.W.callWith_K0 I.kIn F.kp ?_
  show wpAny _ _ (call (.ref (He.ga X.K x)) []) _ _ _
  obtain ⟨_, _, _, _, _, _, _, _, _, _, _, _, _, _, _, _, _, c1, c2, c3, T⟩ := exc_obj I.kIn F.exc
  exact wpAny_call_exc_subT PySem.F.excBase_ValueError T c1 c2 c3 (fun _ _ m => mk_of I m (raises_own F.sub F.ty) q (I.hok.gone m.new)) (Nat.zero_le _)
theorem p_raise (F : XcF X.K X.mg x) (tk : Takes X W) (hc : X.calm = true := by rfl) (hg : Gl X x := by rfl) (hdb : (x == ("__debug__" : Str)) = false := by decide) : PS X (.Raise (some (.Call (.Name x p) [] [] pos)) none pos') (tRaise (.ref (He.ga X.K x)) W) :=
  ps_raise hc tk (pmk_none F hg hdb)
end
/-- the def x keeps the promise sp and may raise, at the level k -/
def OkX (P : Program) (w : World) (K : PySem.W.Frag) (mg : Str → Option Value) (base : Heap) (k : Nat) (x : Str) (ps : List Str) (sp : Sp) : Prop :=
  ∃ fd, FnOk P w K mg base (L2.CX P w) k (He.ga K x) fd ps sp ∧ mg x = some (.ref (He.ga K x)) ∧ PySem.W.keepIn K (.ref (He.ga K x)) = true ∧ Binds K fd ps []
section
variable {X : Cx} {e : Expr} {es : List Expr} {t : TA} {pos p : Pos} {x : Str} {ps : List Str} {sp : Sp} {k j : Nat} {E : XK} {W : WX}
def cCallX (sp : Sp) (E : XK) (t : TA) : TE := fun σ H Q => t σ H fun vs H1 => sp vs H1 Q E
def cCallW (sp : Sp) (W : WX) (t : TA) : TE := fun σ H Q => t σ H fun vs H1 => sp vs H1 Q fun c d H2 => W c d σ H2
theorem app_nil_funE {sp : Sp} {Q : VK} {E : XK} : (fun (vs : List V) (H1 : Hp) => sp (vs ++ []) H1 Q E) = fun vs H1 => sp vs H1 Q E := by
  funext vs H1
  rw [List.append_nil]
/-- a call whose exceptions leave this def too -/
theorem e_callX (F : OkX X.prog X.w X.K X.mg X.base j x ps sp) (hr : Room k X.A) (hx : Passes (L2.CX X.prog X.w) X E) (ha : PA X (e :: es) t) (hjk : j ≤ k := by decide) (hg : Gl X x := by rfl) (hdb : (x == ("__debug__" : Str)) = false := by decide)
    (he : starEach (e :: es) X.env = (false, eval e X.env) :: starEach es X.env := by rfl) (hpl : (backTo pos (starEach es X.env)).any (·.1) = false := by rfl) : PE X (.Call (.Name x p) (e :: es) [] pos) (cCallX sp E t) := by
  obtain ⟨fd, F, hm, hk, hb⟩ := F
  refine PE_imp (pe_call F (hr.mono hjk) hg hm hk hb .nil hx ha hdb he hpl) fun σ H Q h => ?_
  show t σ H fun vs H1 => sp (vs ++ []) H1 Q E
  rw [app_nil_funE]
  exact h
/-- a call that does not raise -/
theorem e_callN (F : OkX X.prog X.w X.K X.mg X.base j x ps sp) (hr : Room k X.A) (ha : PA X (e :: es) t) (hjk : j ≤ k := by decide) (hg : Gl X x := by rfl) (hdb : (x == ("__debug__" : Str)) = false := by decide)
    (he : starEach (e :: es) X.env = (false, eval e X.env) :: starEach es X.env := by rfl) (hpl : (backTo pos (starEach es X.env)).any (·.1) = false := by rfl) : PE X (.Call (.Name x p) (e :: es) [] pos) (cCall sp t) := e_callX F hr passL ha hjk hg hdb he hpl
/-- a call within a try -/
theorem e_callW (F : OkX X.prog X.w X.K X.mg X.base j x ps sp) (hr : Room k X.A) (tk : Takes X W) (ha : PA X (e :: es) t) (hjk : j ≤ k := by decide) (hg : Gl X x := by rfl) (hdb : (x == ("__debug__" : Str)) = false := by decide)
    (he : starEach (e :: es) X.env = (false, eval e X.env) :: starEach es X.env := by rfl) (hpl : (backTo pos (starEach es X.env)).any (·.1) = false := by rfl) : PE X (.Call (.Name x p) (e :: es) [] pos) (cCallW sp W t) := by
  obtain ⟨fd, F, hm, hk, hb⟩ := F
  exact pe_callS F (hr.mono hjk) hg hm hk hb (fun σ => passAt tk σ) ha hdb he hpl
end
section
variable {P : Program} {w : World} {K : PySem.W.Frag} {mg : Str → Option Value} {base : Heap}
theorem okX_of {x : Str} {st : Stmt} {N ps : List Str} {k : Nat} {sp : Sp} (F : FnP K x st) (g : mg x = some (.ref (He.ga K x))) (S : FnScope N ps (defScope st)) (len : ∀ vs H Q E, sp vs H Q E → vs.length = ps.length)
    (bnd : ∀ (kV doc pm : Value) (an : Option Addr) (cdv ct : Value) (us : List Value), us.length = ps.length → bindArgs (PySem.W.fnOf x x (defArgs st) (defBody st) (defScope st) .none kV doc pm an cdv ct) ⟨us, []⟩ = pure (ps.zip us))
    (hbody : ∀ (cdv : Value) (A : Around) (outer : List Env) (s : Shared) (H : Hp) (vs : List V) (Q : VK) (E : XK), Room k (A.deeper (envOfC x (defScope st) s.heap.objs.size (He.ga K x) cdv)) → sp vs H Q E →
      ∃ t, PSs (cxOf (L2.CX P w) P w K mg base N x (defScope st) (He.ga K x) cdv A outer s H E) (defBody st) t ∧ t { nx := fun _ H' => Q .non H', rt := Q } (start N vs) H) : OkX P w K mg base (k + 1) x ps sp := by
  obtain ⟨fd, F⟩ := F
  refine ⟨fd, ?_, g, F.kp, F.bindsN bnd⟩
  obtain ⟨oc, od, dV, kV, doc, pm, an, cdv, ct, osl, e, lk, hc⟩ := F.ex
  subst e
  exact fn_of lk hc.1 S len fun A outer s H vs Q E hr hsp => hbody cdv A outer s H vs Q E hr hsp
end
/-- promises with a way out -/
def sx1 (p : V → Hp → VK → XK → Prop) : Sp := fun vs H Q E => match vs with
  | [a] => p a H Q E
  | _ => False
def sx2 (p : V → V → Hp → VK → XK → Prop) : Sp := fun vs H Q E => match vs with
  | [a, b] => p a b H Q E
  | _ => False
theorem sx1_e {p : V → Hp → VK → XK → Prop} {vs : List V} {H : Hp} {Q : VK} {E : XK} (h : sx1 p vs H Q E) : ∃ a, vs = [a] ∧ p a H Q E := by
  match vs, h with
  | [a], h => exact ⟨a, rfl, h⟩
theorem sx2_e {p : V → V → Hp → VK → XK → Prop} {vs : List V} {H : Hp} {Q : VK} {E : XK} (h : sx2 p vs H Q E) : ∃ a b, vs = [a, b] ∧ p a b H Q E := by
  match vs, h with
  | [a, b], h => exact ⟨a, b, rfl, h⟩
theorem lenx1 {p : V → Hp → VK → XK → Prop} {a : Str} : ∀ vs H Q E, sx1 p vs H Q E → vs.length = [a].length := fun vs H Q E h => by
  match vs, h with
  | [_], _ => rfl
theorem lenx2 {p : V → V → Hp → VK → XK → Prop} {a b : Str} : ∀ vs H Q E, sx2 p vs H Q E → vs.length = [a, b].length := fun vs H Q E h => by
  match vs, h with
  | [_, _], _ => rfl
/-- try with these clauses -/
def tTry (K : PySem.W.Frag) (Wout : WX) (tb : WX → TS) (l : List (Value × (Addr → Value → Option Addr → TS))) : TS := fun D σ H => tb (wMany K Wout D l) D σ H
def wNo : WX := fun _ _ _ _ => False
end PH

namespace PH
open PySem PySem.Spec PyProof.Rows L2
def t_check_penX (K : PySem.W.Frag) (E : XK) (f_is_pen : Sp) : TS :=
  (tIfS (tNot (cTest K (cCall f_is_pen (tCons (cVar 0) tNil)))) (tRaiseX (.ref (He.ga K "NoPen")) E) tNext)
def t_movedX (K : PySem.W.Frag) (E : XK) (f_check_penX : Sp) (f_is_command : Sp) (f_executed : Sp) : TS :=
  (tSeq (tDrop (cCallX f_check_penX E (tCons (cVar 0) tNil)))
  (tSeq (tIfS (tNot (cTest K (cCall f_is_command (tCons (cVar 1) tNil)))) (tRaiseX (.ref (He.ga K "NoCommand")) E) tNext)
  (tRet (cCall f_executed (tCons (cVar 0) (tCons (cVar 1) tNil))))))
def t_vectorX (K : PySem.W.Frag) (E : XK) (f_is_pen : Sp) : TS :=
  (tSeq (tIfS (tNot (cTest K (cCall f_is_pen (tCons (cVar 0) tNil)))) (tRaiseX (.ref (He.ga K "NoPen")) E) tNext)
  (tRet (tLst (tCons (tC (.int 1)) (StX.tStar K (cVar 0) tNil)))))
def t_matrix_ofX (K : PySem.W.Frag) (E : XK) (f_is_command : Sp) (f_executed : Sp) : TS :=
  (tSeq (tIfS (tNot (cTest K (cCall f_is_command (tCons (cVar 0) tNil)))) (tRaiseX (.ref (He.ga K "NoCommand")) E) tNext)
  (tSeq (tAsg (cCall f_executed (tCons (tTup (tCons (tC (.int 0)) (tCons (tC (.int 0)) (tCons (tC (.int 0)) (tCons (tC (.int 0)) (tCons (tC (.int 0)) (tCons (tC (.int 0)) tNil))))))) (tCons (cVar 0) tNil))) (gName 1))
  (tSeq (tAsg (tLst (tCons (tLst (tCons (tC (.int 1)) (StX.tStar K (cVar 1) tNil))) tNil)) (gName 2))
  (tSeq (tFor (iRng1 (tCons (tC (.int 6)) tNil)) (gName 3) (tSeq (tAsg (tCB (c1 (cTuple K)) (tCons (tLc (iRng1 (tCons (tC (.int 6)) tNil)) (gName 6) tYes (tCB (c1 cInt) (tCons (tOp (cEq K) (cVar 6) (cVar 3)) tNil)) [6]) tNil)) (gName 4))
  (tSeq (tAsg (cCall f_executed (tCons (cVar 4) (tCons (cVar 0) tNil))) (gName 5))
  (tDrop (tBM K "list" cAppend (cVar 2) (tCons (tOp (cAdd K) (tLst (tCons (tC (.int 0)) tNil)) (tLc (iRng1 (tCons (tC (.int 6)) tNil)) (gName 6) tYes (tOp rSubC (tOp (cIx K) (cVar 5) (cVar 6)) (tOp (cIx K) (cVar 1) (cVar 6))) [6])) tNil))))))
  (tRet (tLc2 (iRng1 (tCons (tC (.int 7)) tNil)) (gName 7) tYes (iRng1 (tCons (tC (.int 7)) tNil)) (gName 8) tYes (tOp (cIx K) (tOp (cIx K) (cVar 2) (cVar 8)) (cVar 7)) [7, 8] [8]))))))
def t_appliedX (K : PySem.W.Frag) (E : XK) (f_vectorX : Sp) : TS :=
  (tSeq (tAsg (cCallX f_vectorX E (tCons (cVar 1) tNil)) (gName 2))
  (tSeq (tAsg (tLc (iRng2 (tCons (tC (.int 1)) (tCons (tC (.int 7)) tNil))) (gName 4) tYes (tCB (c1 (cSum K)) (tCons (tLc (iRng1 (tCons (tC (.int 7)) tNil)) (gName 5) tYes (tOp rMulC (tOp (cIx K) (cVar 0) (tOp (cAdd K) (tOp rMulC (tC (.int 7)) (cVar 4)) (cVar 5))) (tOp (cIx K) (cVar 2) (cVar 5))) [5]) tNil)) [4]) (gName 3))
  (tRet (tCB (c1 (cTuple K)) (tCons (cVar 3) tNil)))))
def t_L_odd (K : PySem.W.Frag) (f_L_draw : Sp) : TS :=
  (tRet (tOp (cIx K) (tTup (tCons (tC (.bl true)) (tCons (tC .non) (tCons (tC (.str "1")) (tCons (tTup (tCons (tC (.int 1)) tNil)) (tCons (tLst (tCons (tC (.int 1)) tNil)) (tCons (tC (.bl false)) (tCons (tC (.str "")) tNil)))))))) (cCall f_L_draw (tCons (cVar 0) (tCons (tC (.int 7)) tNil)))))
def t_L_bad_pen (K : PySem.W.Frag) (f_L_number : Sp) (f_L_draw : Sp) (f_L_odd : Sp) : TS :=
  (tSeq (tAsg (tLc (iRng1 (tCons (tC (.int 6)) tNil)) (gName 4) tYes (cCall f_L_number (tCons (cVar 0) tNil)) [4]) (gName 1))
  (tSeq (tAsg (cCall f_L_draw (tCons (cVar 0) (tCons (tC (.int 5)) tNil))) (gName 2))
  (tSeq (tIfS (cB (tOp (cEq K) (cVar 2) (tC (.int 0)))) (tRet (cVar 1)) tNext)
  (tSeq (tIfS (cB (tOp (cEq K) (cVar 2) (tC (.int 1)))) (tDrop (tBM K "list" cAppend (cVar 1) (tCons (tC (.int 0)) tNil))) (tIfS (cB (tOp (cEq K) (cVar 2) (tC (.int 2)))) (tDrop (tBM0 K "list" cPop (cVar 1))) (tSeq (tAsg (cCall f_L_draw (tCons (cVar 0) (tCons (tC (.int 6)) tNil))) (gName 3))
  (tAsg (cCall f_L_odd (tCons (cVar 0) tNil)) (gSub (cVar 1) (cVar 3) cSetL)))))
  (tRet (tCB (c1 (cTuple K)) (tCons (cVar 1) tNil)))))))
def t_L_bad_command (K : PySem.W.Frag) (f_L_any_command : Sp) (f_L_draw : Sp) (f_L_odd : Sp) : TS :=
  (tSeq (tAsg (tCB (c1 (cList K)) (tCons (cCall f_L_any_command (tCons (cVar 0) tNil)) tNil)) (gName 1))
  (tSeq (tAsg (cCall f_L_draw (tCons (cVar 0) (tCons (tC (.int 6)) tNil))) (gName 2))
  (tSeq (tIfS (cB (tOp (cEq K) (cVar 2) (tC (.int 0)))) (tRet (cVar 1)) tNext)
  (tSeq (tIfS (cB (tOp (cEq K) (cVar 2) (tC (.int 1)))) (tSeq (tDrop (tBM K "list" cAppend (cVar 1) (tCons (tC (.int 1)) tNil)))
  (tRet (tCB (c1 (cTuple K)) (tCons (cVar 1) tNil)))) tNext)
  (tSeq (tIfS (cB (tOp (cEq K) (cVar 2) (tC (.int 2)))) (tSeq (tAsg (cCall f_L_draw (tCons (cVar 0) (tCons (tCB (c1 (cLen K)) (tCons (cVar 1) tNil)) tNil))) (gName 3))
  (tSeq (tAsg (cCall f_L_odd (tCons (cVar 0) tNil)) (gSub (cVar 1) (cVar 3) cSetL))
  (tRet (tCB (c1 (cTuple K)) (tCons (cVar 1) tNil))))) tNext)
  (tSeq (tIfS (cB (tOp (cEq K) (cVar 2) (tC (.int 3)))) (tSeq (tAsg (tLst (tCons (tTup (tCons (tC (.str "go")) (tCons (tC (.int 10)) tNil))) (tCons (tTup (tCons (tC (.str "go")) (tCons (tUn cNeg (tC (.int 10))) tNil))) (tCons (tTup (tCons (tC (.str "turn")) (tCons (tC (.int 0)) tNil))) (tCons (tTup (tCons (tC (.str "turn")) (tCons (tC (.int 4)) tNil))) (tCons (tTup (tCons (tC (.str "turn")) (tCons (tUn cNeg (tC (.int 1))) tNil))) (tCons (tTup (tCons (tC (.str "scale")) (tCons (tC (.int 4)) tNil))) (tCons (tTup (tCons (tC (.str "scale")) (tCons (tUn cNeg (tC (.int 4))) tNil))) tNil)))))))) (gName 4))
  (tSeq (tAsg (tOp (cAdd K) (cVar 4) (tLst (tCons (tTup (tCons (tC (.str "aim")) (tCons (tC (.int 10)) (tCons (tC (.int 0)) tNil)))) (tCons (tTup (tCons (tC (.str "aim")) (tCons (tC (.int 0)) (tCons (tUn cNeg (tC (.int 10))) tNil)))) (tCons (tTup (tCons (tC (.str "place")) (tCons (tUn cNeg (tC (.int 10))) (tCons (tC (.int 9)) tNil)))) (tCons (tTup (tCons (tC (.str "place")) (tCons (tC (.int 9)) (tCons (tC (.int 10)) tNil)))) (tCons (tTup (tCons (tC (.str "go")) tNil)) (tCons (tTup (tCons (tC (.str "aim")) (tCons (tC (.int 1)) tNil))) tNil)))))))) (gName 4))
  (tRet (tOp (cIx K) (cVar 4) (cCall f_L_draw (tCons (cVar 0) (tCons (tC (.int 13)) tNil))))))) tNext)
  (tSeq (tIfS (cB (tOp (cEq K) (cVar 2) (tC (.int 4)))) (tRet (tOp (cIx K) (tTup (tCons (tTup tNil) (tCons (tC .non) (tCons (tC (.str "mark")) (tCons (tC (.int 0)) (tCons (tTup (tCons (tC (.str "keep")) (tCons (tLst tNil) tNil))) (tCons (tTup (tCons (tC (.str "end")) (tCons (tC (.int 0)) tNil))) (tCons (tTup (tCons (tC (.str "Mark")) tNil)) (tCons (tTup (tCons (tC (.str "marks")) tNil)) (tCons tDNewK tNil)))))))))) (cCall f_L_draw (tCons (cVar 0) (tCons (tC (.int 9)) tNil))))) tNext)
  (tSeq (tAsg (tOp (cAdd K) (tOp rPowC (tC (.int 10)) (tC (.int 20))) (cCall f_L_draw (tCons (cVar 0) (tCons (tC (.int 1000)) tNil)))) (gName 5))
  (tRet (tTup (tCons (tOp (cIx K) (tTup (tCons (tC (.str "go")) (tCons (tC (.str "turn")) (tCons (tC (.str "scale")) (tCons (tC (.str "aim")) (tCons (tC (.str "place")) tNil)))))) (cCall f_L_draw (tCons (cVar 0) (tCons (tC (.int 5)) tNil)))) (tCons (cVar 5) (tCons (tC (.int 0)) tNil)))))))))))))
def t_L_moved (K : PySem.W.Frag) (f_movedX : Sp) : TS :=
  (tSeq (tTry K wNo (fun W => (tAsg (cCallW f_movedX W (tCons (cVar 0) (tCons (cVar 1) tNil))) (gName 2))) [(.ref (He.ga K "NoPen"), fun _ _ _ => (tRet (tTup (tCons (tC (.str "NoPen")) (tCons (tC .non) tNil))))), (.ref (He.ga K "NoCommand"), fun _ _ _ => (tRet (tTup (tCons (tC (.str "NoCommand")) (tCons (tC .non) tNil)))))])
  (tRet (tTup (tCons (tC (.str "told")) (tCons (cVar 2) tNil)))))
def t_L_vector (K : PySem.W.Frag) (f_vectorX : Sp) : TS :=
  (tSeq (tTry K wNo (fun W => (tAsg (cCallW f_vectorX W (tCons (cVar 0) tNil)) (gName 1))) [(.ref (He.ga K "NoPen"), fun _ _ _ => (tRet (tTup (tCons (tC (.str "NoPen")) (tCons (tC .non) tNil)))))])
  (tRet (tTup (tCons (tC (.str "told")) (tCons (cVar 1) tNil)))))
def t_L_applied (K : PySem.W.Frag) (f_appliedX : Sp) : TS :=
  (tSeq (tTry K wNo (fun W => (tAsg (cCallW f_appliedX W (tCons (cVar 0) (tCons (cVar 1) tNil))) (gName 2))) [(.ref (He.ga K "NoPen"), fun _ _ _ => (tRet (tTup (tCons (tC (.str "NoPen")) (tCons (tC .non) tNil)))))])
  (tRet (tTup (tCons (tC (.str "told")) (tCons (cVar 2) tNil)))))
def t_L_matrix_of (K : PySem.W.Frag) (f_matrix_ofX : Sp) : TS :=
  (tSeq (tTry K wNo (fun W => (tAsg (cCallW f_matrix_ofX W (tCons (cVar 0) tNil)) (gName 1))) [(.ref (He.ga K "NoCommand"), fun _ _ _ => (tRet (tTup (tCons (tC (.str "NoCommand")) (tCons (tC .non) tNil)))))])
  (tRet (tTup (tCons (tC (.str "told")) (tCons (cVar 1) tNil)))))
def t_law_k02 (K : PySem.W.Frag) (f_L_pool : Sp) (f_L_pen : Sp) (f_L_any_command : Sp) (f_L_bad_pen : Sp) (f_L_bad_command : Sp) (f_L_any_matrix : Sp) (f_L_move : Sp) (f_L_moved : Sp) (f_L_vector : Sp) (f_L_applied : Sp) (f_L_matrix_of : Sp) (f_L_image : Sp) (f_L_probe : Sp) : TS :=
  (tSeq (tAsg (cCall f_L_pool (tCons (cVar 0) tNil)) (gName 1))
  (tSeq (tFor (iRng1 (tCons (tOp (cAdd K) (tC (.int 1)) (tOp rFdivC (tCB (c1 (cLen K)) (tCons (cVar 1) tNil)) (tC (.int 4)))) tNil)) (gName 2) (tSeq (tAsg (cCall f_L_pen (tCons (cVar 1) tNil)) (gName 3))
  (tSeq (tAsg (cCall f_L_any_command (tCons (cVar 1) tNil)) (gName 4))
  (tSeq (tAsg (cCall f_L_bad_pen (tCons (cVar 1) tNil)) (gName 5))
  (tSeq (tAsg (cCall f_L_bad_command (tCons (cVar 1) tNil)) (gName 6))
  (tSeq (tAsg (cCall f_L_any_matrix (tCons (cVar 1) tNil)) (gName 7))
  (tSeq (tAsg (cCall f_L_move (tCons (cVar 3) (tCons (cVar 4) tNil))) (gName 8))
  (tSeq (tIfS (tOr (cB (tOp (cNe K) (tOp (cIx K) (cCall f_L_moved (tCons (cVar 5) (tCons (cVar 4) tNil))) (tC (.int 0))) (tC (.str "NoPen")))) (cB (tOp (cNe K) (tOp (cIx K) (cCall f_L_moved (tCons (cVar 5) (tCons (cVar 6) tNil))) (tC (.int 0))) (tC (.str "NoPen"))))) (tRet (tC (.bl false))) tNext)
  (tSeq (tIfS (tOr (cB (tOp (cNe K) (tOp (cIx K) (cCall f_L_moved (tCons (cVar 3) (tCons (cVar 6) tNil))) (tC (.int 0))) (tC (.str "NoCommand")))) (cB (tOp (cNe K) (cCall f_L_moved (tCons (cVar 3) (tCons (cVar 4) tNil))) (tTup (tCons (tC (.str "told")) (tCons (cVar 8) tNil)))))) (tRet (tC (.bl false))) tNext)
  (tSeq (tIfS (tOr (cB (tOp (cNe K) (tOp (cIx K) (cCall f_L_vector (tCons (cVar 5) tNil)) (tC (.int 0))) (tC (.str "NoPen")))) (cB (tOp (cNe K) (cCall f_L_vector (tCons (cVar 3) tNil)) (tTup (tCons (tC (.str "told")) (tCons (tOp (cAdd K) (tLst (tCons (tC (.int 1)) tNil)) (tCB (c1 (cList K)) (tCons (cVar 3) tNil))) tNil)))))) (tRet (tC (.bl false))) tNext)
  (tSeq (tIfS (tOr (cB (tOp (cNe K) (tOp (cIx K) (cCall f_L_applied (tCons (tCB (c1 (cList K)) (tCons (cVar 7) tNil)) (tCons (cVar 5) tNil))) (tC (.int 0))) (tC (.str "NoPen")))) (cB (tOp (cNe K) (tOp (cIx K) (cCall f_L_matrix_of (tCons (cVar 6) tNil)) (tC (.int 0))) (tC (.str "NoCommand"))))) (tRet (tC (.bl false))) tNext)
  (tSeq (tIfS (cB (tOp (cNe K) (cCall f_L_applied (tCons (tCB (c1 (cList K)) (tCons (cVar 7) tNil)) (tCons (cVar 3) tNil))) (tTup (tCons (tC (.str "told")) (tCons (cCall f_L_image (tCons (cVar 7) (tCons (cVar 3) tNil))) tNil))))) (tRet (tC (.bl false))) tNext)
  (tIfS (cB (tOp (cNe K) (cCall f_L_matrix_of (tCons (cVar 4) tNil)) (tTup (tCons (tC (.str "told")) (tCons (cCall f_L_probe (tCons (tLst (tCons (cVar 4) tNil)) tNil)) tNil))))) (tRet (tC (.bl false))) tNext)))))))))))))
  (tRet (tC (.bl true)))))
end PH

namespace PH
open PySem PySem.Spec PyProof.Rows L2
theorem KindAt.drew {K : PySem.W.Frag} {p a : Addr} {n : Nat} {H H' : Hp} {k : String} (d : Drew p n H H') (hP : Pool H p n) (h : KindAt K H a k) : KindAt K H' a k := by
  obtain ⟨hn, ty⟩ := h
  obtain ⟨ns, hp, _⟩ := hP
  obtain ⟨ms, hp', _⟩ := d.pool
  have go : ∀ o, H a = some o → (∀ ys, o ≠ .lst ys) → H' a = some o := fun o e z => d.sb a o (fun q => by rw [q, hp] at e; exact z _ (Option.some.inj e).symm) e
  refine ⟨hn, ?_⟩
  cases ty with
  | base b => cases b with
    | lst e =>
      by_cases q : a = p
      · rw [q]; exact .base (.lst hp')
      · exact .base (.lst (d.sb a _ q e))
    | frz e => exact .base (.frz (go _ e fun _ z => by cases z))
    | tup e => exact .base (.tup (go _ e fun _ z => by cases z))
    | dK e => exact .base (.dK (go _ e fun _ z => by cases z))
    | dT e => exact .base (.dT (go _ e fun _ z => by cases z))
  | set e => exact .set (go _ e fun _ z => by cases z)
  | kList e c => exact .kList e c
  | kTuple e c => exact .kTuple e c
  | kDict e c => exact .kDict e c
  | fTuple e => exact .fTuple (go _ e fun _ z => by cases z)
  | fDict e => exact .fDict (go _ e fun _ z => by cases z)
theorem KindAt.same {K : PySem.W.Frag} {a : Addr} {H H' : Hp} {k : String} (s : Same H H') (h : KindAt K H a k) : KindAt K H' a k := by
  obtain ⟨hn, ty⟩ := h
  refine ⟨hn, ?_⟩
  cases ty with
  | base b => cases b with
    | lst e => exact .base (.lst (s _ _ e))
    | frz e => exact .base (.frz (s _ _ e))
    | tup e => exact .base (.tup (s _ _ e))
    | dK e => exact .base (.dK (s _ _ e))
    | dT e => exact .base (.dT (s _ _ e))
  | set e => exact .set (s _ _ e)
  | kList e c => exact .kList e c
  | kTuple e c => exact .kTuple e c
  | kDict e c => exact .kDict e c
  | fTuple e => exact .fTuple (s _ _ e)
  | fDict e => exact .fDict (s _ _ e)
theorem Told.drew {K : PySem.W.Frag} {p : Addr} {n : Nat} {H H' : Hp} (d : Drew p n H H') (hP : Pool H p n) : ∀ {x : V}, Told K H x → Told K H' x
  | .non, _ => trivial
  | .bl _, _ => trivial
  | .int _, _ => trivial
  | .str _, _ => trivial
  | .ref a, ⟨k, h⟩ => ⟨k, h.drew d hP⟩
theorem Seen.drew {K : PySem.W.Frag} {p : Addr} {n : Nat} {H H' : Hp} (d : Drew p n H H') (hP : Pool H p n) {a : V} {o : Option (List V)} (h : Seen K H a o) : Seen K H' a o := by
  cases o with
  | some xs =>
    obtain ⟨q, e, h1, h2, h3⟩ := h
    exact ⟨q, e, SB.tup d hP h1, h2, fun x hx => (h3 x hx).drew d hP⟩
  | none =>
    cases a with
    | non => trivial
    | bl b => trivial
    | int i => trivial
    | str z => trivial
    | ref q =>
      obtain ⟨k, hk, h⟩ := h
      exact ⟨k, hk, h.drew d hP⟩
    | _ => exact h.elim
theorem Seen.same {K : PySem.W.Frag} {H H' : Hp} (s : Same H H') {a : V} {o : Option (List V)} (h : Seen K H a o) : Seen K H' a o := by
  cases o with
  | some xs =>
    obtain ⟨q, e, h1, h2, h3⟩ := h
    exact ⟨q, e, Same.tup s h1, h2, fun x hx => (h3 x hx).same s⟩
  | none =>
    cases a with
    | non => trivial
    | bl b => trivial
    | int i => trivial
    | str z => trivial
    | ref q =>
      obtain ⟨k, hk, h⟩ := h
      exact ⟨k, hk, h.same s⟩
    | _ => exact h.elim
abbrev clNP (K : PySem.W.Frag) : Value := .ref (He.ga K "NoPen")
abbrev clNC (K : PySem.W.Frag) : Value := .ref (He.ga K "NoCommand")
def BadPen (K : PySem.W.Frag) (H : Hp) (a : V) : Prop := ∃ o, Seen K H a o ∧ penB o = false
def BadCmd (K : PySem.W.Frag) (H : Hp) (a : V) : Prop := ∃ o, Seen K H a o ∧ cmdB o = false
def pCheckPenX (K : PySem.W.Frag) : V → Hp → VK → XK → Prop := fun a H Q E => (BadPen K H a ∧ ∀ H', Same H H' → E (clNP K) none H') ∨ pCheckPen K a H Q
def pVectorX (K : PySem.W.Frag) : V → Hp → VK → XK → Prop := fun a H Q E => (BadPen K H a ∧ ∀ H', Same H H' → E (clNP K) none H') ∨ pVector K a H Q
def pAppliedX (K : PySem.W.Frag) : V → V → Hp → VK → XK → Prop := fun a b H Q E => (BadPen K H b ∧ ∀ H', Same H H' → E (clNP K) none H') ∨ pApplied K a b H Q
def pMatOfX (K : PySem.W.Frag) : V → Hp → VK → XK → Prop := fun a H Q E => (BadCmd K H a ∧ ∀ H', Same H H' → E (clNC K) none H') ∨ pMatOf K a H Q
def pMovedX (K : PySem.W.Frag) : V → V → Hp → VK → XK → Prop := fun a b H Q E => (BadPen K H a ∧ ∀ H', Same H H' → E (clNP K) none H') ∨ (∃ p z, a = .ref p ∧ SqT K H p (Pen.vs z) ∧ BadCmd K H b ∧ ∀ H', Same H H' → E (clNC K) none H') ∨ pRun K a b H Q
theorem r_check_penX {K : PySem.W.Frag} {a : V} {H : Hp} {Q : VK} {E : XK} (h : pCheckPenX K a H Q E) : t_check_penX K E (sp1 (pIsPen K)) (dEnds Q) [some a] H := by
  rcases h with ⟨⟨o, hs, e⟩, q⟩ | h
  · refine ⟨o, hs, fun H' s => ?_⟩
    rw [e]
    exact q H' s
  · obtain ⟨o, hs, q⟩ := r_check_pen h
    refine ⟨o, hs, fun H' s => ?_⟩
    have z := q H' s
    cases e : penB o with
    | true => rw [e] at z; exact z
    | false => rw [e] at z; exact z.elim
theorem r_vectorX {K : PySem.W.Frag} {a : V} {H : Hp} {Q : VK} {E : XK} (h : pVectorX K a H Q E) : t_vectorX K E (sp1 (pIsPen K)) (dEnds Q) [some a] H := by
  rcases h with ⟨⟨o, hs, e⟩, q⟩ | h
  · refine ⟨o, hs, fun H' s => ?_⟩
    rw [e]
    exact q H' s
  · obtain ⟨o, hs, q⟩ := r_vector h
    refine ⟨o, hs, fun H' s => ?_⟩
    have z := q H' s
    cases e : penB o with
    | true => rw [e] at z; exact z
    | false => rw [e] at z; exact z.elim
theorem r_matrix_ofX {K : PySem.W.Frag} {a : V} {H : Hp} {Q : VK} {E : XK} (h : pMatOfX K a H Q E) : t_matrix_ofX K E (sp1 (pIsCmd K)) (sp2 (pRun K)) (dEnds Q) [some a, none, none, none, none, none, none, none, none] H := by
  rcases h with ⟨⟨o, hs, e⟩, q⟩ | h
  · refine ⟨o, hs, fun H' s => ?_⟩
    rw [e]
    exact q H' s
  · obtain ⟨o, hs, q⟩ := r_matrix_of h
    refine ⟨o, hs, fun H' s => ?_⟩
    have z := q H' s
    cases e : cmdB o with
    | true => rw [e] at z; exact z
    | false => rw [e] at z; exact z.elim
theorem r_appliedX {K : PySem.W.Frag} {a b : V} {H : Hp} {Q : VK} {E : XK} (h : pAppliedX K a b H Q E) : t_appliedX K E (sx1 (pVectorX K)) (dEnds Q) [some a, some b, none, none, none, none] H := by
  rcases h with ⟨h, q⟩ | h
  · exact Or.inl ⟨h, q⟩
  · exact Or.inr (r_applied h)
theorem r_movedX {K : PySem.W.Frag} {a b : V} {H : Hp} {Q : VK} {E : XK} (h : pMovedX K a b H Q E) : t_movedX K E (sx1 (pCheckPenX K)) (sp1 (pIsCmd K)) (sp2 (pRun K)) (dEnds Q) [some a, some b] H := by
  rcases h with ⟨h, q⟩ | ⟨p, z, rfl, hz, ⟨o, hs, e⟩, q⟩ | h
  · exact Or.inl ⟨h, q⟩
  · refine Or.inr ⟨p, z, rfl, hz, fun H1 s1 => ⟨o, hs.same s1, fun H' s => ?_⟩⟩
    rw [e]
    exact q H' (s1.trans s)
  · obtain ⟨p, z, h1, h2, q⟩ := r_moved h
    refine Or.inr ⟨p, z, h1, h2, fun H1 s1 => ?_⟩
    obtain ⟨o, hs, q⟩ := q H1 s1
    refine ⟨o, hs, fun H' s => ?_⟩
    have z := q H' s
    cases e : cmdB o with
    | true => rw [e] at z; exact z
    | false => rw [e] at z; exact z.elim
structure XM (K : PySem.W.Frag) : Prop where
  pp : PySem.W.exmOne K (clNP K) (clNP K) = some true
  cp : PySem.W.exmOne K (clNC K) (clNP K) = some false
  cc : PySem.W.exmOne K (clNC K) (clNC K) = some true
/-- a refusal told, an answer told -/
def Ends2 (H : Hp) (Q : VK) (w : Str) : Prop := ∀ t H', Same H H' → H' t = some (.tup [.str w, .non]) → Q (.ref t) H'
def pTMoved (K : PySem.W.Frag) : V → V → Hp → VK → Prop := fun a b H Q => (BadPen K H a ∧ Ends2 H Q "NoPen") ∨ (∃ p z, a = .ref p ∧ SqT K H p (Pen.vs z) ∧ BadCmd K H b ∧ Ends2 H Q "NoCommand") ∨
  ∃ (p c : Addr) (z : Pen) (m : Cmd), a = .ref p ∧ b = .ref c ∧ SqT K H p z.vs ∧ SqT K H c m.vs ∧ m.Ok ∧ ∀ t u H', Same H H' → H' t = some (.tup [.str "told", .ref u]) → H' u = some (.tup (m.run z).vs) → Q (.ref t) H'
def pTVector (K : PySem.W.Frag) : V → Hp → VK → Prop := fun a H Q => (BadPen K H a ∧ Ends2 H Q "NoPen") ∨ ∃ (p : Addr) (z : Pen), a = .ref p ∧ SqT K H p z.vs ∧ ∀ t u H', Same H H' → H' t = some (.tup [.str "told", .ref u]) → H' u = some (.lst (((1 : Int) :: z.ns).map V.int)) → Q (.ref t) H'
def pTApplied (K : PySem.W.Frag) : V → V → Hp → VK → Prop := fun a b H Q => (BadPen K H b ∧ Ends2 H Q "NoPen") ∨
  ∃ (m p : Addr) (M : List Int) (z : Pen) (c : Nat), a = .ref m ∧ b = .ref p ∧ IsM K H m M c ∧ 0 < c ∧ c ≤ 400000 ∧ SqT K H p z.vs ∧ (∀ x ∈ z.ns, Bd c x) ∧ ∀ t u H', Same H H' → H' t = some (.tup [.str "told", .ref u]) → H' u = some (.tup (imgOf M z).vs) → Q (.ref t) H'
def pTMatOf (K : PySem.W.Frag) : V → Hp → VK → Prop := fun a H Q => (BadCmd K H a ∧ Ends2 H Q "NoCommand") ∨ ∃ (c : Addr) (m : Cmd), a = .ref c ∧ SqT K H c m.vs ∧ m.Ok ∧ ∀ t u H', Same H H' → H' t = some (.tup [.str "told", .ref u]) → H' u = some (.lst (m.mat.map V.int)) → Q (.ref t) H'
theorem no2 {b : Bool} {A : Prop} (e : b = true) (f : b = false) : A := by rw [e] at f; cases f
theorem r_L_moved {K : PySem.W.Frag} (X : XM K) {a b : V} {H : Hp} {Q : VK} (h : pTMoved K a b H Q) : t_L_moved K (sx2 (pMovedX K)) (dEnds Q) [some a, some b, none] H := by
  rcases h with ⟨h, q⟩ | ⟨p, z, e, hz, h, q⟩ | ⟨p, c, z, m, rfl, rfl, hp, hc, ok, q⟩
  · exact Or.inl ⟨h, fun H' s => ⟨true, X.pp, fun _ _ _ => ⟨le2, fun t nt => q t _ (s.trans (same_upd nt)) upd_same⟩, fun f => by cases f⟩⟩
  · exact Or.inr (Or.inl ⟨p, z, e, hz, h, fun H' s => ⟨false, X.cp, fun f => (by cases f), fun _ => ⟨true, X.cc, fun _ _ _ => ⟨le2, fun t nt => q t _ (s.trans (same_upd nt)) upd_same⟩, fun f => by cases f⟩⟩⟩)
  · exact Or.inr (Or.inr ⟨p, c, z, m, rfl, rfl, hp, hc, ok, fun u H' s e => ⟨le2, fun t nt => q t u _ (s.trans (same_upd nt)) upd_same ((same_upd nt) _ _ e)⟩⟩)
theorem r_L_vector {K : PySem.W.Frag} (X : XM K) {a : V} {H : Hp} {Q : VK} (h : pTVector K a H Q) : t_L_vector K (sx1 (pVectorX K)) (dEnds Q) [some a, none] H := by
  rcases h with ⟨h, q⟩ | ⟨p, z, rfl, hp, q⟩
  · exact Or.inl ⟨h, fun H' s => ⟨true, X.pp, fun _ _ _ => ⟨le2, fun t nt => q t _ (s.trans (same_upd nt)) upd_same⟩, fun f => by cases f⟩⟩
  · exact Or.inr ⟨p, z, rfl, hp, fun u H' s nu e => ⟨le2, fun t nt => q t u _ (s.trans (same_upd nt)) upd_same ((same_upd nt) _ _ e)⟩⟩
theorem r_L_applied {K : PySem.W.Frag} (X : XM K) {a b : V} {H : Hp} {Q : VK} (h : pTApplied K a b H Q) : t_L_applied K (sx2 (pAppliedX K)) (dEnds Q) [some a, some b, none] H := by
  rcases h with ⟨h, q⟩ | ⟨m, p, M, z, c, rfl, rfl, hM, c0, c1, hz, hb, q⟩
  · exact Or.inl ⟨h, fun H' s => ⟨true, X.pp, fun _ _ _ => ⟨le2, fun t nt => q t _ (s.trans (same_upd nt)) upd_same⟩, fun f => by cases f⟩⟩
  · exact Or.inr ⟨m, p, M, z, c, rfl, rfl, hM, c0, c1, hz, hb, fun u H' s e => ⟨le2, fun t nt => q t u _ (s.trans (same_upd nt)) upd_same ((same_upd nt) _ _ e)⟩⟩
theorem r_L_matrix_of {K : PySem.W.Frag} (X : XM K) {a : V} {H : Hp} {Q : VK} (h : pTMatOf K a H Q) : t_L_matrix_of K (sx1 (pMatOfX K)) (dEnds Q) [some a, none] H := by
  rcases h with ⟨h, q⟩ | ⟨c, m, rfl, hc, ok, q⟩
  · exact Or.inl ⟨h, fun H' s => ⟨true, X.cc, fun _ _ _ => ⟨le2, fun t nt => q t _ (s.trans (same_upd nt)) upd_same⟩, fun f => by cases f⟩⟩
  · exact Or.inr ⟨c, m, rfl, hc, ok, fun u H' s nu e => ⟨le2, fun t nt => q t u _ (s.trans (same_upd nt)) upd_same ((same_upd nt) _ _ e)⟩⟩
end PH

namespace PH
open PySem PySem.Spec PyProof.Rows L2
def oddB : V → Bool
  | .int _ => false
  | .str z => (limits.lookup z).isNone
  | _ => true
def pOdd (K : PySem.W.Frag) : V → Hp → VK → Prop := fun a H Q => ∃ (p : Addr) (n : Nat), a = .ref p ∧ Pool H p n ∧ ∀ v H', Drew p n H H' → Told K H' v → oddB v = true → Q v H'
theorem lt7' {d : Int} (h0 : 0 ≤ d) (h1 : d < 7) : d = 0 ∨ d = 1 ∨ d = 2 ∨ d = 3 ∨ d = 4 ∨ d = 5 ∨ d = 6 := by omega
theorem r_L_odd {K : PySem.W.Frag} {a : V} {H : Hp} {Q : VK} (h : pOdd K a H Q) : t_L_odd K (sp2 pDraw) (dEnds Q) [some a] H := by
  obtain ⟨p, n, rfl, hP, q⟩ := h
  refine ⟨le1, fun t1 n1 => ⟨le1, fun l1 n2 => ⟨le7, fun T n3 => ?_⟩⟩⟩
  have s1 := same_upd (o := .tup [V.int 1]) n1
  have s2 := same_upd (o := .lst [V.int 1]) n2
  have s3 := same_upd (o := .tup [V.bl true, .non, .str "1", .ref t1, .ref l1, .bl false, .str ""]) n3
  have k1 := s3 _ _ (s2 _ _ (upd_same (H := H) (a := t1) (o := .tup [V.int 1])))
  have k2 := s3 _ _ (upd_same (H := upd H t1 (.tup [V.int 1])) (a := l1) (o := .lst [V.int 1]))
  have kT : upd (upd (upd H t1 (.tup [V.int 1])) l1 (.lst [V.int 1])) T (.tup [V.bl true, .non, .str "1", .ref t1, .ref l1, .bl false, .str ""]) T = _ := upd_same
  have s := (s1.trans s2).trans s3
  generalize upd (upd (upd H t1 (.tup [V.int 1])) l1 (.lst [V.int 1])) T (.tup [V.bl true, .non, .str "1", .ref t1, .ref l1, .bl false, .str ""]) = H3 at k1 k2 kT s
  have hP3 := Same.pool s hP
  refine ⟨p, n, 7, rfl, rfl, hP3, by decide, by decide, fun d H4 d0 d1 s4 => ?_⟩
  have dr : Drew p n H H4 := (Same.drew s hP).trans s4.drew
  have hT4 : SqT K H4 T [V.bl true, .non, .str "1", .ref t1, .ref l1, .bl false, .str ""] := SB.tup s4.drew hP3 (SqT.of kT)
  have u1 : Told K H4 (.ref t1) := ⟨_, (kind_tup (SqT.of (K := K) k1)).drew s4.drew hP3⟩
  have u2 : Told K H4 (.ref l1) := ⟨_, (kind_lst (SqL.of (K := K) k2)).drew s4.drew hP3⟩
  rcases lt7' d0 d1 with e | e | e | e | e | e | e <;> subst e
  · exact ⟨_, _, .inr hT4, atI_nat (j := 0) rfl, q _ _ dr trivial rfl⟩
  · exact ⟨_, _, .inr hT4, atI_nat (j := 1) rfl, q _ _ dr trivial rfl⟩
  · exact ⟨_, _, .inr hT4, atI_nat (j := 2) rfl, q _ _ dr trivial (by decide +kernel)⟩
  · exact ⟨_, _, .inr hT4, atI_nat (j := 3) rfl, q _ _ dr u1 rfl⟩
  · exact ⟨_, _, .inr hT4, atI_nat (j := 4) rfl, q _ _ dr u2 rfl⟩
  · exact ⟨_, _, .inr hT4, atI_nat (j := 5) rfl, q _ _ dr trivial rfl⟩
  · exact ⟨_, _, .inr hT4, atI_nat (j := 6) rfl, q _ _ dr trivial (by decide +kernel)⟩
theorem odd_int {v : V} (h : oddB v = true) : intB v = false := by
  cases v with
  | int i => cases h
  | _ => rfl
theorem odd_in {v : V} (h : oddB v = true) (lo hi : Int) : inB lo hi v = false := by
  cases v with
  | int i => cases h
  | _ => rfl
def pBad (B : PySem.W.Frag → Hp → V → Prop) (K : PySem.W.Frag) : V → Hp → VK → Prop := fun a H Q => ∃ (p : Addr) (n : Nat), a = .ref p ∧ Pool H p n ∧ ∀ v H', Drew p n H H' → B K H' v → Q v H'
theorem all_set {xs : List V} {i : Nat} {v : V} {f : V → Bool} (h : i < xs.length) (e : f v = false) : (xs.set i v).all f = false := by
  rw [List.all_eq_false]
  exact ⟨v, List.mem_of_getElem? (by rw [List.getElem?_set_self h]), by rw [e]; decide⟩
theorem told_set {K : PySem.W.Frag} {H : Hp} {xs : List V} {i : Nat} {v : V} (h : ∀ x ∈ xs, Told K H x) (hv : Told K H v) : ∀ x ∈ xs.set i v, Told K H x := fun x hx => by
  rcases List.mem_or_eq_of_mem_set hx with e | e
  · exact h x e
  · rw [e]; exact hv
theorem told_ints {K : PySem.W.Frag} {H : Hp} (ns : List Int) : ∀ x ∈ ns.map V.int, Told K H x := fun x hx => by
  obtain ⟨i, _, rfl⟩ := List.mem_map.mp hx
  trivial
theorem penB_len {xs : List V} (h : xs.length ≠ 6) : penB (some xs) = false := by
  show (decide (xs.length = 6) && xs.all intB) = false
  rw [decide_eq_false h]
  rfl
theorem penB_all {xs : List V} (h : xs.all intB = false) : penB (some xs) = false := by
  show (decide (xs.length = 6) && xs.all intB) = false
  rw [h, Bool.and_false]
theorem r_L_bad_pen {K : PySem.W.Frag} {a : V} {H : Hp} {Q : VK} (h : pBad BadPen K a H Q) : t_L_bad_pen K (sp1 pNumber) (sp2 pDraw) (sp1 (pOdd K)) (dEnds Q) [some a, none, none, none, none] H := by
  obtain ⟨p, n, rfl, hP, q⟩ := h
  refine ⟨6, rfl, by decide, by decide, fun D nD => lc_range (n := 6) (fun i H' => Drew p n H H' ∧ ∃ ns : List Int, ns.length = i ∧ H' D = some (.lst (ns.map V.int))) ⟨(Drew.refl hP).new nD, [], rfl, upd_same⟩ (fun i H' hi hv => ?_) (fun H1 hv => ?_)⟩
  · obtain ⟨d1, ns, hl, hD⟩ := hv
    have hne : D ≠ p := hP.ne nD
    refine ⟨rfl, p, n, rfl, d1.pool, fun d H2 hd s2 => ⟨ns.map V.int, by rw [s2.at hne]; exact hD, sz (by rw [List.length_map]; omega), ?_⟩⟩
    exact ⟨(d1.trans s2.drew).set nD hne, ns ++ [d], by simp [hl], by rw [upd_same, List.map_append]; rfl⟩
  obtain ⟨d1, ns, hl, hD⟩ := hv
  have hne : D ≠ p := hP.ne nD
  dsimp only [gName, List.set]
  refine ⟨p, n, 5, rfl, rfl, d1.pool, by decide, by decide, fun k H2 k0 k1 s2 => ?_⟩
  dsimp only [gName, List.set]
  have hD2 : H2 D = some (.lst (ns.map V.int)) := by rw [s2.at hne]; exact hD
  have d2 := d1.trans s2.drew
  -- a tuple of these at the end
  have fin : ∀ (H3 : Hp) (xs : List V) (y3 : Option V), Drew p n H H3 → H3 D = some (.lst xs) → (∀ x ∈ xs, Told K H3 x) → penB (some xs) = false → xs.length ≤ 100000 → tRet (tCB (c1 (cTuple K)) (tCons (cVar 1) tNil)) (dEnds Q) [some (.ref p), some (.ref D), some (.int k), y3, none] H3 := fun H3 xs y3 d3 hD3 ht hb hl => by
    refine ⟨xs, SqL.of hD3, fun t nt => ?_⟩
    have s4 := same_upd (o := .tup xs) nt
    exact q _ _ (d3.new nt) ⟨some xs, ⟨t, rfl, SqT.of upd_same, hl, fun x hx => (ht x hx).same s4⟩, hb⟩
  refine if2 (fun e => ?_) (fun e => ?_)
  · exact q _ _ d2 ⟨none, ⟨"list", by decide, kind_lst (SqL.of hD2)⟩, rfl⟩
  refine if2 (fun e => ?_) (fun e => ?_)
  · refine ⟨.inl ⟨rfl, _, SqL.of hD2⟩, _, hD2, sz (by rw [List.length_map]; omega), ?_⟩
    refine fin _ (ns.map V.int ++ [.int 0]) none (d2.set nD hne) upd_same (fun x hx => ?_) ?_ (by simp; omega)
    · rcases List.mem_append.mp hx with h | h
      · exact told_ints ns x h
      · rw [List.mem_singleton.mp h]; trivial
    · exact penB_len (by simp; omega)
  refine if2 (fun e => ?_) (fun e => ?_)
  · obtain ⟨ns0, z, rfl⟩ : ∃ ns0 z, ns = ns0 ++ [z] := ⟨ns.dropLast, ns.getLast (by intro e; rw [e] at hl; cases hl), (List.dropLast_concat_getLast _).symm⟩
    rw [List.map_append] at hD2
    refine ⟨.inl ⟨rfl, _, SqL.of hD2⟩, _, .int z, hD2, by simp, ?_⟩
    have hd : (ns0.map V.int ++ [z].map V.int).dropLast = ns0.map V.int := dropLast_snoc _ _
    rw [hd]
    refine fin _ (ns0.map V.int) none (d2.set nD hne) upd_same (told_ints ns0) ?_ (by simp at hl ⊢; omega)
    exact penB_len (by simp at hl ⊢; omega)
  · refine ⟨p, n, 6, rfl, rfl, d2.pool, by decide, by decide, fun i H3 i0 i1 s3 => ?_⟩
    dsimp only [gName, List.set]
    refine ⟨p, n, rfl, s3.pool, fun v H4 d4 hv ho => ?_⟩
    have hD4 : H4 D = some (.lst (ns.map V.int)) := d4.sb _ _ hne (by rw [s3.at hne]; exact hD2)
    refine ⟨_, hD4, i0, by rw [List.length_map]; omega, ?_⟩
    have hv' : ∀ x ∈ (ns.map V.int).set i.toNat v, Told K H4 x := told_set (told_ints ns) hv
    refine fin _ _ (some (.int i)) ((d2.trans (s3.drew.trans d4)).set nD hne) upd_same (fun x hx => ?_) ?_ (by simp; omega)
    · have := hv' x hx
      cases x with
      | non => trivial
      | bl b => trivial
      | int i => trivial
      | str z => trivial
      | ref b =>
        obtain ⟨k, hk⟩ := this
        by_cases eb : b = D
        · rw [eb]; exact ⟨"list", kind_lst (SqL.of upd_same)⟩
        · refine ⟨k, hk.1, ?_⟩
          have keep : ∀ o, H4 b = some o → upd H4 D (.lst ((ns.map V.int).set i.toNat v)) b = some o := fun o e => by rw [upd_ne eb]; exact e
          cases hk.2 with
          | base bb => cases bb with
            | lst e => exact .base (.lst (keep _ e))
            | frz e => exact .base (.frz (keep _ e))
            | tup e => exact .base (.tup (keep _ e))
            | dK e => exact .base (.dK (keep _ e))
            | dT e => exact .base (.dT (keep _ e))
          | set e => exact .set (keep _ e)
          | kList e c => exact .kList e c
          | kTuple e c => exact .kTuple e c
          | kDict e c => exact .kDict e c
          | fTuple e => exact .fTuple (keep _ e)
          | fDict e => exact .fDict (keep _ e)
      | _ => exact this.elim
    · exact penB_all (all_set (by rw [List.length_map]; omega) (odd_int ho))
theorem told_put {K : PySem.W.Frag} {H : Hp} {D : Addr} {ys zs : List V} (hD : H D = some (.lst ys)) : ∀ {x : V}, Told K H x → Told K (upd H D (.lst zs)) x
  | .non, _ => trivial
  | .bl _, _ => trivial
  | .int _, _ => trivial
  | .str _, _ => trivial
  | .ref b, ⟨k, hk⟩ => by
    by_cases eb : b = D
    · rw [eb]; exact ⟨"list", kind_lst (SqL.of upd_same)⟩
    · refine ⟨k, hk.1, ?_⟩
      have keep : ∀ o, H b = some o → upd H D (.lst zs) b = some o := fun o e => by rw [upd_ne eb]; exact e
      cases hk.2 with
      | base bb => cases bb with
        | lst e => exact .base (.lst (keep _ e))
        | frz e => exact .base (.frz (keep _ e))
        | tup e => exact .base (.tup (keep _ e))
        | dK e => exact .base (.dK (keep _ e))
        | dT e => exact .base (.dT (keep _ e))
      | set e => exact .set (keep _ e)
      | kList e c => exact .kList e c
      | kTuple e c => exact .kTuple e c
      | kDict e c => exact .kDict e c
      | fTuple e => exact .fTuple (keep _ e)
      | fDict e => exact .fDict (keep _ e)
/-- what any command has -/
theorem Cmd.form {m : Cmd} (ok : m.Ok) : ∃ z k lo hi, ∃ r : List V, m.vs = .str z :: r ∧ limits.lookup z = some (k, lo, hi) ∧ r.length = k ∧ ∀ x ∈ r, ∃ i, x = .int i := by
  cases m with
  | go k => exact ⟨_, _, _, _, _, rfl, rfl, rfl, fun x hx => by rw [List.mem_singleton.mp hx]; exact ⟨_, rfl⟩⟩
  | turn k => exact ⟨_, _, _, _, _, rfl, rfl, rfl, fun x hx => by rw [List.mem_singleton.mp hx]; exact ⟨_, rfl⟩⟩
  | scale k => exact ⟨_, _, _, _, _, rfl, rfl, rfl, fun x hx => by rw [List.mem_singleton.mp hx]; exact ⟨_, rfl⟩⟩
  | aim a b => exact ⟨_, _, _, _, _, rfl, rfl, rfl, fun x hx => by
      rcases List.mem_cons.mp hx with e | e
      · exact ⟨_, e⟩
      · exact ⟨_, List.mem_singleton.mp e⟩⟩
  | place a b => exact ⟨_, _, _, _, _, rfl, rfl, rfl, fun x hx => by
      rcases List.mem_cons.mp hx with e | e
      · exact ⟨_, e⟩
      · exact ⟨_, List.mem_singleton.mp e⟩⟩
  | mirror => exact ⟨_, _, _, _, _, rfl, rfl, rfl, fun x hx => by cases hx⟩
  | mark => exact ⟨_, _, _, _, _, rfl, rfl, rfl, fun x hx => by cases hx⟩
  | ret => exact ⟨_, _, _, _, _, rfl, rfl, rfl, fun x hx => by cases hx⟩
  | exch => exact ⟨_, _, _, _, _, rfl, rfl, rfl, fun x hx => by cases hx⟩
theorem cmdB_str {z : Str} {r : List V} {k : Nat} {lo hi : Int} (h : limits.lookup z = some (k, lo, hi)) : cmdB (some (.str z :: r)) = (decide (r.length = k) && r.all (inB lo hi)) := by
  show (match limits.lookup z with
    | some (m, lo, hi) => decide (r.length = m) && r.all (inB lo hi)
    | none => false) = _
  rw [h]
theorem cmdB_odd {v : V} {r : List V} (h : oddB v = true) : cmdB (some (v :: r)) = false := by
  cases v with
  | str z =>
    have h2 : limits.lookup z = none := by
      have : (limits.lookup z).isNone = true := h
      simpa using this
    show (match limits.lookup z with
      | some (m, lo, hi) => decide (r.length = m) && r.all (inB lo hi)
      | none => false) = _
    rw [h2]
  | _ => rfl
def wrongs : List (List V) := [[.str "go", .int 10], [.str "go", .int (-10)], [.str "turn", .int 0], [.str "turn", .int 4], [.str "turn", .int (-1)], [.str "scale", .int 4], [.str "scale", .int (-4)]]
def wrongs2 : List (List V) := [[.str "aim", .int 10, .int 0], [.str "aim", .int 0, .int (-10)], [.str "place", .int (-10), .int 9], [.str "place", .int 9, .int 10], [.str "go"], [.str "aim", .int 1]]
def flatB : V → Bool
  | .int _ => true
  | .str _ => true
  | _ => false
theorem flat_told {K : PySem.W.Frag} {H : Hp} {x : V} (h : flatB x = true) : Told K H x := by
  cases x with
  | int i => trivial
  | str z => trivial
  | _ => cases h
theorem wrongs_bad : ((wrongs ++ wrongs2).all fun xs => !cmdB (some xs) && (xs.all flatB && decide (xs.length ≤ 100000))) = true := by decide +kernel
theorem wrong_of {K : PySem.W.Frag} {H : Hp} {p : Addr} {xs : List V} (hx : xs ∈ wrongs ++ wrongs2) (hp : SqT K H p xs) : BadCmd K H (.ref p) := by
  obtain ⟨h1, h2⟩ := He.ba (List.all_eq_true.mp wrongs_bad xs hx)
  obtain ⟨h3, h4⟩ := He.ba h2
  exact ⟨some xs, ⟨p, rfl, hp, of_decide_eq_true h4, fun x m => flat_told (List.all_eq_true.mp h3 x m)⟩, by simpa using h1⟩
theorem st_asgLU {σ : L2.St} {H : Hp} {te : TE} {xss : List (List V)} {D : Ends} {rest : TS} {i : Nat} (h : EvLU te σ H xss) (k : ∀ l ps H3, H l = none → Same H H3 → H3 l = some (.lst (ps.map V.ref)) → Paired (fun p xs => H3 p = some (HO.tup xs)) ps xss → rest D (σ.set i (some (.ref l))) H3) : tSeq (tAsg te (gName i)) rest D σ H := h H _ (Same.refl _) k
theorem Paired.app {α β : Type} {F : α → β → Prop} : ∀ {xs xs' : List α} {ys ys' : List β}, Paired F xs ys → Paired F xs' ys' → Paired F (xs ++ xs') (ys ++ ys')
  | _, _, _, _, .nil, h => h
  | _, _, _, _, .cons r t, h => .cons r (Paired.app t h)
theorem st_asgCatU {K : PySem.W.Frag} {σ : L2.St} {H : Hp} {ta tb : TE} {p : Addr} {xs : List V} {xss : List (List V)} {D : Ends} {rest : TS} {i : Nat} (ha : Ev ta σ H (.ref p)) (hp : H p = some (.lst xs)) (hb : EvLU tb σ H xss) (hz : xs.length + xss.length ≤ 100000)
    (k : ∀ l ps H3, H l = none → Same H H3 → H3 l = some (.lst (xs ++ ps.map V.ref)) → Paired (fun p xs => H3 p = some (HO.tup xs)) ps xss → rest D (σ.set i (some (.ref l))) H3) : tSeq (tAsg (tOp (cAdd K) ta tb) (gName i)) rest D σ H :=
  ha H _ (Same.refl _) fun H1 s1 => hb H1 _ s1 fun q ps H2 nq s2 hq hps => Or.inl ⟨p, q, xs, ps.map V.ref, rfl, rfl, (s1.trans s2) _ _ hp, hq, Nat.le_trans (by rw [List.length_map, Paired.len hps]; exact hz) (by decide), fun l nl => k l ps _ ((s1.trans s2).free nl) ((s1.trans s2).trans (same_upd nl)) upd_same (Paired.heap (same_upd nl) hps)⟩
theorem r_L_bad_command {K : PySem.W.Frag} {a : V} {H : Hp} {Q : VK} (h : pBad BadCmd K a H Q) : t_L_bad_command K (sp1 pAnyCmd) (sp2 pDraw) (sp1 (pOdd K)) (dEnds Q) [some a, none, none, none, none, none] H := by
  obtain ⟨p, n, rfl, hP, q⟩ := h
  refine ⟨p, n, rfl, hP, fun c H1 m d1 hc ok => ⟨m.vs, .inr (SqT.of hc), fun l nl => ?_⟩⟩
  obtain ⟨z, km, lo, hi, r, em, hz, hr, hints⟩ := Cmd.form ok
  have hlp : l ≠ p := d1.pool.ne nl
  have nl0 : H l = none := d1.free nl
  have d2 : Drew p n H (upd H1 l (.lst m.vs)) := d1.new nl
  have hl2 : upd H1 l (.lst m.vs) l = some (.lst m.vs) := upd_same
  generalize upd H1 l (.lst m.vs) = H2 at d2 hl2 ⊢
  dsimp only [gName, List.set]
  refine ⟨p, n, 6, rfl, rfl, d2.pool, by decide, by decide, fun k H3 k0 k1 s3 => ?_⟩
  dsimp only [gName, List.set]
  have d3 := d2.trans s3.drew
  have hl3 : H3 l = some (.lst m.vs) := by rw [s3.at hlp]; exact hl2
  rw [em] at hl3
  have rl : r.length ≤ 2 := by
    have : ∀ q ∈ limits, q.2.1 ≤ 2 := by decide +kernel
    rw [hr]
    exact this _ (lookup_mem' hz)
  have rtold : ∀ {H'} x, x ∈ V.str z :: r → Told K H' x := fun x hx => by
    rcases List.mem_cons.mp hx with e | e
    · rw [e]; trivial
    · obtain ⟨i, rfl⟩ := hints x e
      trivial
  have fin : ∀ (H4 : Hp) (xs : List V) (y3 : Option V), Drew p n H H4 → H4 l = some (.lst xs) → (∀ x ∈ xs, Told K H4 x) → cmdB (some xs) = false → xs.length ≤ 100000 → tRet (tCB (c1 (cTuple K)) (tCons (cVar 1) tNil)) (dEnds Q) [some (.ref p), some (.ref l), some (.int k), y3, none, none] H4 := fun H4 xs y3 d4 hD4 ht hb hl => by
    refine ⟨xs, SqL.of hD4, fun t nt => ?_⟩
    have s4 := same_upd (o := .tup xs) nt
    exact q _ _ (d4.new nt) ⟨some xs, ⟨t, rfl, SqT.of upd_same, hl, fun x hx => (ht x hx).same s4⟩, hb⟩
  refine if2 (fun e => ?_) (fun e => ?_)
  · exact q _ _ d3 ⟨none, ⟨"list", by decide, kind_lst (SqL.of hl3)⟩, rfl⟩
  refine if2 (fun e => ?_) (fun e => ?_)
  · refine ⟨.inl ⟨rfl, _, SqL.of hl3⟩, _, hl3, sz (by simp; omega), ?_⟩
    refine fin _ (.str z :: (r ++ [.int 1])) none (d3.set nl0 hlp) upd_same (fun x hx => ?_) ?_ (by simp; omega)
    · rcases List.mem_append.mp (show x ∈ (V.str z :: r) ++ [.int 1] from hx) with h | h
      · exact rtold x h
      · rw [List.mem_singleton.mp h]; trivial
    · rw [cmdB_str hz, decide_eq_false (by simp; omega)]
      rfl
  refine if2 (fun e => ?_) (fun e => ?_)
  · refine ⟨_, .inl (SqL.of hl3), p, n, ((V.str z :: r).length : Int), rfl, rfl, d3.pool, by rw [List.length_cons]; omega, by rw [List.length_cons]; omega, fun i H4 i0 i1 s4 => ?_⟩
    dsimp only [gName, List.set]
    refine ⟨p, n, rfl, s4.pool, fun v H5 d5 hv ho => ?_⟩
    have hl5 : H5 l = some (.lst (.str z :: r)) := d5.sb _ _ hlp (by rw [s4.at hlp]; exact hl3)
    refine ⟨_, hl5, i0, by omega, ?_⟩
    refine fin _ ((V.str z :: r).set i.toNat v) (some (.int i)) ((d3.trans (s4.drew.trans d5)).set nl0 hlp) upd_same (fun x hx => told_put hl5 (told_set (fun x hx => rtold x hx) hv x hx)) ?_ (by simp; omega)
    cases ei : i.toNat with
    | zero => exact cmdB_odd ho
    | succ j =>
      show cmdB (some (.str z :: r.set j v)) = false
      rw [cmdB_str hz, all_set (by simp at i1; omega) (odd_in ho lo hi), Bool.and_false]
  refine if2 (fun e => ?_) (fun e => ?_)
  · refine st_asgLU (xss := wrongs) (el_lstU (ea_consU (eu_tup (ea_cons ev_c (ea_cons ev_c ea_nil)) le2) (ea_consU (eu_tup (ea_cons ev_c (ea_cons (ev_neg ev_c) ea_nil)) le2) (ea_consU (eu_tup (ea_cons ev_c (ea_cons ev_c ea_nil)) le2) (ea_consU (eu_tup (ea_cons ev_c (ea_cons ev_c ea_nil)) le2) (ea_consU (eu_tup (ea_cons ev_c (ea_cons (ev_neg ev_c) ea_nil)) le2) (ea_consU (eu_tup (ea_cons ev_c (ea_cons ev_c ea_nil)) le2) (ea_consU (eu_tup (ea_cons ev_c (ea_cons (ev_neg ev_c) ea_nil)) le2) ea_nilU))))))) (show 7 ≤ 100000 by decide)) fun w1 ps H4 nw1 s4 hw1 hps => ?_
    dsimp only [gName, List.set]
    have hl1 : (ps.map V.ref).length = 7 := by rw [List.length_map, Paired.len hps]; rfl
    refine st_asgCatU (p := w1) (xss := wrongs2) (ev_var rfl) hw1 (el_lstU (ea_consU (eu_tup (ea_cons ev_c (ea_cons ev_c (ea_cons ev_c ea_nil))) le3) (ea_consU (eu_tup (ea_cons ev_c (ea_cons ev_c (ea_cons (ev_neg ev_c) ea_nil))) le3) (ea_consU (eu_tup (ea_cons ev_c (ea_cons (ev_neg ev_c) (ea_cons ev_c ea_nil))) le3) (ea_consU (eu_tup (ea_cons ev_c (ea_cons ev_c (ea_cons ev_c ea_nil))) le3) (ea_consU (eu_tup (ea_cons ev_c ea_nil) le1) (ea_consU (eu_tup (ea_cons ev_c (ea_cons ev_c ea_nil)) le2) ea_nilU)))))) (show 6 ≤ 100000 by decide)) (by rw [hl1]; decide) fun w3 ps2 H6 nw3 s6 hw3 hps2 => ?_
    dsimp only [gName, List.set]
    have hall : Paired (fun p xs => H6 p = some (HO.tup xs)) (ps ++ ps2) (wrongs ++ wrongs2) := Paired.app (Paired.heap s6 hps) hps2
    have s36 := s4.trans s6
    rw [← List.map_append] at hw3
    have hP6 := Same.pool s36 d3.pool
    have hw3p : w3 ≠ p := by
      exact (Same.pool s4 d3.pool).ne nw3
    refine ⟨p, n, 13, rfl, rfl, hP6, by decide, by decide, fun i H7 i0 i1 s7 => ?_⟩
    have hw7 : H7 w3 = some (.lst ((ps ++ ps2).map V.ref)) := by rw [s7.at hw3p]; exact hw3
    have hlen : (ps ++ ps2).length = 13 := Paired.len hall
    obtain ⟨w, hw⟩ : ∃ w, (ps ++ ps2)[i.toNat]? = some w := ⟨_, List.getElem?_eq_getElem (by omega)⟩
    obtain ⟨xs, hxs, hwx⟩ := Paired.at hall hw
    refine ⟨_, .ref w, .inl (SqL.of hw7), ?_, ?_⟩
    · have := atI_nat (xs := (ps ++ ps2).map V.ref) (j := i.toNat) (by rw [List.getElem?_map, hw]; rfl)
      rwa [show ((i.toNat : Nat) : Int) = i by omega] at this
    · refine q _ _ ((d3.trans (Same.drew s36 d3.pool)).trans s7.drew) (wrong_of (List.mem_of_getElem? hxs) (SB.tup s7.drew hP6 (SqT.of hwx)))
  refine if2 (fun e => ?_) (fun e => ?_)
  · refine ⟨Nat.zero_le _, fun t0 n0 => ⟨Nat.zero_le _, fun t1 n1 => ⟨le2, fun t2 n2 => ⟨le2, fun t3 n3 => ⟨le1, fun t4 n4 => ⟨le1, fun t5 n5 => fun t6 n6 => ⟨?_, fun T nT => ?_⟩⟩⟩⟩⟩⟩⟩
    · exact (show 9 ≤ sizeLine by decide)
    have u0 := same_upd (o := .tup []) n0
    have u1 := same_upd (o := .lst []) n1
    have u2 := same_upd (o := .tup [V.str "keep", .ref t1]) n2
    have u3 := same_upd (o := .tup [V.str "end", .int 0]) n3
    have u4 := same_upd (o := .tup [V.str "Mark"]) n4
    have u5 := same_upd (o := .tup [V.str "marks"]) n5
    have u6 := same_upd (o := .dK []) n6
    have u7 := same_upd (o := .tup [.ref t0, .non, .str "mark", .int 0, .ref t2, .ref t3, .ref t4, .ref t5, .ref t6]) nT
    have h0 := u7 _ _ (u6 _ _ (u5 _ _ (u4 _ _ (u3 _ _ (u2 _ _ (u1 _ _ (upd_same (H := H3) (a := t0) (o := .tup []))))))))
    have h1 := u7 _ _ (u6 _ _ (u5 _ _ (u4 _ _ (u3 _ _ (u2 _ _ (upd_same (a := t1) (o := .lst [])))))))
    have h2 := u7 _ _ (u6 _ _ (u5 _ _ (u4 _ _ (u3 _ _ (upd_same (a := t2) (o := .tup [V.str "keep", .ref t1]))))))
    have h3 := u7 _ _ (u6 _ _ (u5 _ _ (u4 _ _ (upd_same (a := t3) (o := .tup [V.str "end", .int 0])))))
    have h4 := u7 _ _ (u6 _ _ (u5 _ _ (upd_same (a := t4) (o := .tup [V.str "Mark"]))))
    have h5 := u7 _ _ (u6 _ _ (upd_same (a := t5) (o := .tup [V.str "marks"])))
    have h6 := u7 _ _ (upd_same (a := t6) (o := .dK []))
    have h7 := upd_same (H := upd (upd (upd (upd (upd (upd (upd H3 t0 (.tup [])) t1 (.lst [])) t2 (.tup [V.str "keep", .ref t1])) t3 (.tup [V.str "end", .int 0])) t4 (.tup [V.str "Mark"])) t5 (.tup [V.str "marks"])) t6 (.dK [])) (a := T) (o := .tup [.ref t0, .non, .str "mark", .int 0, .ref t2, .ref t3, .ref t4, .ref t5, .ref t6])
    have s4 := ((u0.trans u1).trans (u2.trans u3)).trans ((u4.trans u5).trans (u6.trans u7))
    generalize upd (upd (upd (upd (upd (upd (upd (upd H3 t0 (.tup [])) t1 (.lst [])) t2 (.tup [V.str "keep", .ref t1])) t3 (.tup [V.str "end", .int 0])) t4 (.tup [V.str "Mark"])) t5 (.tup [V.str "marks"])) t6 (.dK [])) T (.tup [.ref t0, .non, .str "mark", .int 0, .ref t2, .ref t3, .ref t4, .ref t5, .ref t6]) = H4 at h0 h1 h2 h3 h4 h5 h6 h7 s4 ⊢
    have hP4 := Same.pool s4 d3.pool
    refine ⟨p, n, 9, rfl, rfl, hP4, by decide, by decide, fun i H5 i0 i1 s5 => ?_⟩
    have d5 := (d3.trans (Same.drew s4 d3.pool)).trans s5.drew
    have hT : SqT K H5 T _ := SB.tup s5.drew hP4 (SqT.of h7)
    have hi : i = 0 ∨ i = 1 ∨ i = 2 ∨ i = 3 ∨ i = 4 ∨ i = 5 ∨ i = 6 ∨ i = 7 ∨ i = 8 := by omega
    rcases hi with e | e | e | e | e | e | e | e | e <;> subst e
    · exact ⟨_, _, .inr hT, atI_nat (j := 0) rfl, q _ _ d5 ⟨some [], ⟨t0, rfl, SB.tup s5.drew hP4 (SqT.of h0), Nat.zero_le _, fun x hx => by cases hx⟩, rfl⟩⟩
    · exact ⟨_, _, .inr hT, atI_nat (j := 1) rfl, q _ _ d5 ⟨none, trivial, rfl⟩⟩
    · exact ⟨_, _, .inr hT, atI_nat (j := 2) rfl, q _ _ d5 ⟨none, trivial, rfl⟩⟩
    · exact ⟨_, _, .inr hT, atI_nat (j := 3) rfl, q _ _ d5 ⟨none, trivial, rfl⟩⟩
    · refine ⟨_, _, .inr hT, atI_nat (j := 4) rfl, q _ _ d5 ⟨some _, ⟨t2, rfl, SB.tup s5.drew hP4 (SqT.of h2), (show 2 ≤ 100000 by decide), fun x hx => ?_⟩, ?_⟩⟩
      · rcases List.mem_cons.mp hx with e | e
        · rw [e]; trivial
        · rw [List.mem_singleton.mp e]; exact ⟨"list", (kind_lst (SqL.of h1)).drew s5.drew hP4⟩
      · rfl
    · refine ⟨_, _, .inr hT, atI_nat (j := 5) rfl, q _ _ d5 ⟨some _, ⟨t3, rfl, SB.tup s5.drew hP4 (SqT.of h3), (show 2 ≤ 100000 by decide), fun x hx => ?_⟩, ?_⟩⟩
      · rcases List.mem_cons.mp hx with e | e
        · rw [e]; trivial
        · rw [List.mem_singleton.mp e]; trivial
      · decide +kernel
    · exact ⟨_, _, .inr hT, atI_nat (j := 6) rfl, q _ _ d5 ⟨some _, ⟨t4, rfl, SB.tup s5.drew hP4 (SqT.of h4), (show 1 ≤ 100000 by decide), fun x hx => by rw [List.mem_singleton.mp hx]; trivial⟩, by decide +kernel⟩⟩
    · exact ⟨_, _, .inr hT, atI_nat (j := 7) rfl, q _ _ d5 ⟨some _, ⟨t5, rfl, SB.tup s5.drew hP4 (SqT.of h5), (show 1 ≤ 100000 by decide), fun x hx => by rw [List.mem_singleton.mp hx]; trivial⟩, by decide +kernel⟩⟩
    · refine ⟨_, _, .inr hT, atI_nat (j := 8) rfl, q _ _ d5 ⟨none, ⟨"dict", by decide, KindAt.drew s5.drew hP4 ⟨by decide, .base (.dK h6)⟩⟩, rfl⟩⟩
  · refine ⟨⟨by decide, by decide, by decide⟩, p, n, 1000, rfl, rfl, d3.pool, by decide, by decide, fun f H4 f0 f1 s4 => ?_⟩
    dsimp only [gName, List.set]
    refine ⟨le5, fun T nT => ?_⟩
    have s5 := same_upd (o := .tup [V.str "go", .str "turn", .str "scale", .str "aim", .str "place"]) nT
    have d5 := (d3.trans s4.drew).new (o := .tup [V.str "go", .str "turn", .str "scale", .str "aim", .str "place"]) nT
    have hT5 := upd_same (H := H4) (a := T) (o := .tup [V.str "go", .str "turn", .str "scale", .str "aim", .str "place"])
    generalize upd H4 T (.tup [V.str "go", .str "turn", .str "scale", .str "aim", .str "place"]) = H5 at s5 d5 hT5 ⊢
    refine ⟨p, n, 5, rfl, rfl, d5.pool, by decide, by decide, fun i H6 i0 i1 s6 => ?_⟩
    have hT6 : SqT K H6 T _ := SB.tup s6.drew d5.pool (SqT.of hT5)
    have hbig : (10 : Int) ^ Int.toNat 20 = 100000000000000000000 := by decide
    have fin2 : ∀ (w : Str) (j : Nat), i = (j : Int) → [V.str "go", .str "turn", .str "scale", .str "aim", .str "place"][j]? = some (.str w) → (∃ k lo hi, limits.lookup w = some (k, lo, hi) ∧ hi ≤ 9) → ∃ xs v, (SqL K H6 T xs ∨ SqT K H6 T xs) ∧ atI xs i = some v ∧ (3 ≤ sizeLine ∧ ∀ t, H6 t = none → Q (.ref t) (upd H6 t (.tup [v, .int (10 ^ Int.toNat 20 + f), .int 0]))) := fun w j ej hw ⟨k, lo, hi, hl, hh⟩ => by
      refine ⟨_, .str w, .inr hT6, by rw [ej]; exact atI_nat hw, le3, fun t nt => ?_⟩
      refine q _ _ ((d5.trans s6.drew).new nt) ⟨some _, ⟨t, rfl, SqT.of upd_same, (show 3 ≤ 100000 by decide), fun x hx => ?_⟩, ?_⟩
      · rcases List.mem_cons.mp hx with e | e
        · rw [e]; trivial
        · rcases List.mem_cons.mp e with e | e
          · rw [e]; trivial
          · rw [List.mem_singleton.mp e]; trivial
      · rw [cmdB_str hl]
        show (_ && (inB lo hi (.int (10 ^ Int.toNat 20 + f)) && _)) = false
        have : inB lo hi (.int (10 ^ Int.toNat 20 + f)) = false := by
          have hd : decide ((10 : Int) ^ Int.toNat 20 + f ≤ hi) = false := decide_eq_false (fun z => by rw [hbig] at z; omega)
          show (_ && decide (10 ^ Int.toNat 20 + f ≤ hi)) = false
          rw [hd, Bool.and_false]
        rw [this, Bool.false_and, Bool.and_false]
    have hi : i = 0 ∨ i = 1 ∨ i = 2 ∨ i = 3 ∨ i = 4 := by omega
    rcases hi with e | e | e | e | e
    · exact fin2 "go" 0 e rfl ⟨1, -9, 9, rfl, by decide⟩
    · exact fin2 "turn" 1 e rfl ⟨1, 1, 3, rfl, by decide⟩
    · exact fin2 "scale" 2 e rfl ⟨1, -3, 3, rfl, by decide⟩
    · exact fin2 "aim" 3 e rfl ⟨2, -9, 9, rfl, by decide⟩
    · exact fin2 "place" 4 e rfl ⟨2, -9, 9, rfl, by decide⟩
end PH

namespace PH
open PySem PySem.Spec PyProof.Rows L2
theorem BadPen.drew {K : PySem.W.Frag} {p : Addr} {n : Nat} {H H' : Hp} (d : Drew p n H H') (hP : Pool H p n) {v : V} (h : BadPen K H v) : BadPen K H' v := by
  obtain ⟨o, h1, h2⟩ := h
  exact ⟨o, h1.drew d hP, h2⟩
theorem BadPen.same {K : PySem.W.Frag} {H H' : Hp} (s : Same H H') {v : V} (h : BadPen K H v) : BadPen K H' v := by
  obtain ⟨o, h1, h2⟩ := h
  exact ⟨o, h1.same s, h2⟩
theorem BadCmd.drew {K : PySem.W.Frag} {p : Addr} {n : Nat} {H H' : Hp} (d : Drew p n H H') (hP : Pool H p n) {v : V} (h : BadCmd K H v) : BadCmd K H' v := by
  obtain ⟨o, h1, h2⟩ := h
  exact ⟨o, h1.drew d hP, h2⟩
theorem BadCmd.same {K : PySem.W.Frag} {H H' : Hp} (s : Same H H') {v : V} (h : BadCmd K H v) : BadCmd K H' v := by
  obtain ⟨o, h1, h2⟩ := h
  exact ⟨o, h1.same s, h2⟩
def toldD (d : PyData) : PyData := .tuple [.str "told", d]
theorem dp_told {K : PySem.W.Frag} {H : Hp} {t u : Addr} {d : PyData} (h : SqT K H t [.str "told", .ref u]) (hd : Dp K H (.ref u) d) : Dp K H (.ref t) (toldD d) := .tup h (.cons (.str _) (.cons hd .nil))
theorem told_eq {d : PyData} (h : PyData.eqv d d = true) : PyData.eqv (toldD d) (toldD d) = true := by
  simp [toldD, PyData.eqv, PyData.eqvAll, h]
theorem told_shaped {d : PyData} (h : d.canLay0 = true) (h2 : d.depth ≤ 63) : SeqAt.shaped (toldD d) = true := by
  show (PyData.canLay0 (toldD d) && decide (PyData.depth (toldD d) ≤ 64)) = true
  rw [Bool.and_eq_true]
  refine ⟨?_, decide_eq_true ?_⟩
  · simp only [toldD, PyData.canLay0, PyData.canLayAll0, h, Bool.and_true]
    decide +kernel
  · simp only [toldD, PyData.depth, PyData.depthAll]
    omega
theorem ne_told {K : PySem.W.Frag} {H : Hp} {t u t' u' : Addr} {d : PyData} {Q : VK} (h : SqT K H t [.str "told", .ref u]) (hd : Dp K H (.ref u) d) (h' : SqT K H t' [.str "told", .ref u']) (hd' : Dp K H (.ref u') d) (hs : d.canLay0 = true) (hs2 : d.depth ≤ 63) (he : PyData.eqv d d = true) (k : Q (.bl false) H) : cNe K (.ref t) (.ref t') H Q :=
  ⟨_, _, dp_told h hd, dp_told h' hd', told_shaped hs hs2, told_shaped hs hs2, by rw [told_eq he]; exact k⟩
theorem lay_ints (ns : List Int) : (intsD ns).canLay0 = true := by
  unfold intsD
  rw [PyData.canLay0]
  exact PySem.W.canLayAll0_ints ns
theorem deep_ints (ns : List Int) : (intsD ns).depth ≤ 63 := by
  have := PySem.W.depthAll_ints ns
  unfold intsD
  rw [PyData.depth]
  omega
theorem lay_pen (z : Pen) : (penD z).canLay0 = true := rfl
theorem deep_pen (z : Pen) : (penD z).depth ≤ 63 := by simp [penD, Pen.ns, PyData.depth, PyData.depthAll]
theorem r_law_k02 {K : PySem.W.Frag} {a : V} {H : Hp} {Q : VK} (h : pLaw K a H Q) :
    t_law_k02 K (sp1 (pMkPool K)) (sp1 pPen) (sp1 pAnyCmd) (sp1 (pBad BadPen K)) (sp1 (pBad BadCmd K)) (sp1 pAnyMatrix) (sp2 (pRun K)) (sp2 (pTMoved K)) (sp1 (pTVector K)) (sp2 (pTApplied K)) (sp1 (pTMatOf K)) (sp2 (pApplied K)) (sp1 (pProbe K)) (dEnds Q) [some a, none, none, none, none, none, none, none, none] H := by
  obtain ⟨s, ns, rfl, hs, hl, q⟩ := h
  refine ⟨s, ns, rfl, hs, hl, fun p H1 n s1 np hP hn => ?_⟩
  dsimp only [gName, List.set]
  obtain ⟨ms, hp, hml⟩ := id hP
  refine ⟨_, .inl (SqL.of hp), ⟨by decide, by decide⟩, 1 + ((ms.map V.int).length : Int) / 4, rfl, ?_, ?_, ?_⟩
  · rw [List.length_map, hml]; omega
  · rw [List.length_map, hml]; omega
  refine for_range (n := (1 + ((ms.map V.int).length : Int) / 4).toNat) (fun i σ H' => Pool H' p n ∧ ∃ y2 y3 y4 y5 y6 y7 y8, σ = [some (.ref s), some (.ref p), y2, y3, y4, y5, y6, y7, y8]) ⟨hP, _, _, _, _, _, _, _, rfl⟩ (fun i σ H' hi hv => ?_) (fun σ H' hv => q _)
  obtain ⟨hP3, y2, y3, y4, y5, y6, y7, y8, rfl⟩ := hv
  dsimp only [gName, List.set]
  refine ⟨p, n, rfl, hP3, fun b H4 z hz d4 hb => ?_⟩
  dsimp only [gName, List.set]
  refine ⟨p, n, rfl, d4.pool, fun c H5 m d5 hc ok => ?_⟩
  dsimp only [gName, List.set]
  refine ⟨p, n, rfl, d5.pool, fun vp H6 d6 bp => ?_⟩
  dsimp only [gName, List.set]
  refine ⟨p, n, rfl, d6.pool, fun vc H7 d7 bc => ?_⟩
  dsimp only [gName, List.set]
  refine ⟨p, n, rfl, d7.pool, fun mt H8 M d8 nm hm lm bm => ?_⟩
  dsimp only [gName, List.set]
  have hb8 : SqT K H8 b z.vs := SB.tup d8 d7.pool (SB.tup d7 d6.pool (SB.tup d6 d5.pool (SB.tup d5 d4.pool (SqT.of hb))))
  have hc8 : SqT K H8 c m.vs := SB.tup d8 d7.pool (SB.tup d7 d6.pool (SB.tup d6 d5.pool (SqT.of hc)))
  have bp8 := (bp.drew d7 d6.pool).drew d8 d7.pool
  have bc8 := bc.drew d8 d7.pool
  have hP8 := d8.pool
  have mM : IsM K H8 mt M 137 := ⟨SqL.of hm, lm, bm⟩
  clear hb hc bp bc d4 d5 d6 d7 d8 hm
  refine ⟨b, c, z, m, rfl, rfl, hb8, hc8, ok, fun du H9 s9 hdu => ?_⟩
  dsimp only [gName, List.set]
  refine Or.inl ⟨bp8.same s9, fun t1 H10 s10 h1 => ⟨_, _, .inr (SqT.of h1), ix0, ?_⟩⟩
  refine Or.inl ⟨bp8.same (s9.trans s10), fun t2 H11 s11 h2 => ⟨_, _, .inr (SqT.of h2), ix0, ?_⟩⟩
  have v11 := (s9.trans s10).trans s11
  refine Or.inr (Or.inl ⟨b, z, rfl, Same.tup v11 hb8, bc8.same v11, fun t3 H12 s12 h3 => ⟨_, _, .inr (SqT.of h3), ix0, ?_⟩⟩)
  have v12 := v11.trans s12
  refine Or.inr (Or.inr ⟨b, c, z, m, rfl, rfl, Same.tup v12 hb8, Same.tup v12 hc8, ok, fun t4 u4 H13 s13 h4 k4 => ⟨le2, fun t5 n5 => ?_⟩⟩)
  have s14 := same_upd (o := .tup [V.str "told", .ref du]) n5
  have v14 := (v12.trans s13).trans s14
  have hdu14 := ((s10.trans s11).trans ((s12.trans s13).trans s14)) _ _ hdu
  refine ne_told (SqT.of (s14 _ _ h4)) (dp_pen (SqT.of (s14 _ _ k4))) (SqT.of upd_same) (dp_pen (SqT.of hdu14)) (lay_pen _) (deep_pen _) (penD_eq _) ?_
  generalize upd H13 t5 (.tup [V.str "told", .ref du]) = H14 at v14
  refine Or.inl ⟨bp8.same v14, fun t6 H15 s15 h6 => ⟨_, _, .inr (SqT.of h6), ix0, ?_⟩⟩
  have v15 := v14.trans s15
  refine Or.inr ⟨b, z, rfl, Same.tup v15 hb8, fun t7 u7 H16 s16 h7 k7 => ?_⟩
  have v16 := v15.trans s16
  refine ⟨le1, fun l1 nl1 => ?_⟩
  have s17 := same_upd (o := .lst [V.int 1]) nl1
  have v17 := v16.trans s17
  refine ⟨_, .inr (Same.tup v17 hb8), fun l2 nl2 => ?_⟩
  have s18 := same_upd (o := .lst z.vs) nl2
  refine Or.inl ⟨l1, l2, [.int 1], z.vs, rfl, rfl, s18 _ _ upd_same, upd_same, le7, fun l3 nl3 => ⟨le2, fun t8 n8 => ?_⟩⟩
  have s19 := same_upd (o := .lst (((1 : Int) :: z.ns).map V.int)) nl3
  have s20 := same_upd (o := .tup [V.str "told", .ref l3]) n8
  have s1620 := (s17.trans s18).trans (s19.trans s20)
  have v20 := v16.trans s1620
  refine ne_told (SqT.of (s1620 _ _ h7)) (dp_ints (SqL.of (s1620 _ _ k7))) (SqT.of upd_same) (dp_ints (SqL.of (s20 _ _ upd_same))) (lay_ints _) (deep_ints _) (intsD_eq _) ?_
  generalize upd (upd (upd (upd H16 l1 (.lst [V.int 1])) l2 (.lst z.vs)) l3 (.lst ([V.int 1] ++ z.vs))) t8 (.tup [V.str "told", .ref l3]) = H20 at v20
  refine ⟨_, .inl (mM.same v20).at_, fun l4 nl4 => ?_⟩
  have s21 := same_upd (o := .lst (M.map V.int)) nl4
  have v21 := v20.trans s21
  refine Or.inl ⟨bp8.same v21, fun t9 H22 s22 h9 => ⟨_, _, .inr (SqT.of h9), ix0, ?_⟩⟩
  have v22 := v21.trans s22
  refine Or.inl ⟨bc8.same v22, fun t10 H23 s23 h10 => ⟨_, _, .inr (SqT.of h10), ix0, ?_⟩⟩
  have v23 := v22.trans s23
  refine ⟨_, .inl (mM.same v23).at_, fun l5 nl5 => ?_⟩
  have s24 := same_upd (o := .lst (M.map V.int)) nl5
  have v24 := v23.trans s24
  refine Or.inr ⟨l5, b, M, z, 137, rfl, rfl, ⟨SqL.of upd_same, lm, bm⟩, by decide, by decide, Same.tup v24 hb8, hz, fun t11 u11 H25 s25 h11 k11 => ?_⟩
  have v25 := v24.trans s25
  refine ⟨mt, b, M, z, 137, rfl, rfl, mM.same v25, by decide, by decide, Same.tup v25 hb8, hz, fun u12 H26 s26 h12 => ⟨le2, fun t13 n13 => ?_⟩⟩
  have s27 := same_upd (o := .tup [V.str "told", .ref u12]) n13
  have v27 := v25.trans (s26.trans s27)
  refine ne_told (SqT.of ((s26.trans s27) _ _ h11)) (dp_pen (SqT.of ((s26.trans s27) _ _ k11))) (SqT.of upd_same) (dp_pen (SqT.of (s27 _ _ h12))) (lay_pen _) (deep_pen _) (penD_eq _) ?_
  generalize upd H26 t13 (.tup [V.str "told", .ref u12]) = H27 at v27
  refine Or.inr ⟨c, m, rfl, Same.tup v27 hc8, ok, fun t14 u14 H28 s28 h14 k14 => ?_⟩
  have v28 := v27.trans s28
  refine ⟨le1, fun l6 nl6 => ⟨l6, [.ref c], [.cmd m], m.run, rfl, SqL.of upd_same, .cons ⟨c, rfl, Same.tup (v28.trans (same_upd nl6)) hc8⟩ .nil, (show 1 ≤ 90000 by decide), fun d hd => (by rw [List.mem_singleton.mp hd]; exact ok), does_cmd m, fun u15 H29 s29 nu15 h15 => ⟨le2, fun t16 n16 => ?_⟩⟩⟩
  replace s29 := (same_upd nl6).trans s29
  replace h15 : H29 u15 = some (.lst (m.mat.map V.int)) := h15
  have s30 := same_upd (o := .tup [V.str "told", .ref u15]) n16
  refine ne_told (SqT.of ((s29.trans s30) _ _ h14)) (dp_ints (SqL.of ((s29.trans s30) _ _ k14))) (SqT.of upd_same) (dp_ints (SqL.of (s30 _ _ h15))) (lay_ints _) (deep_ints _) (intsD_eq _) ?_
  exact ⟨Same.pool (v28.trans (s29.trans s30)) hP8, _, _, _, _, _, _, _, rfl⟩
end PH

namespace PH
open PySem PySem.Spec PyProof.Rows L2
def top (i : Nat) : Stmt := PySem.Challenge.pw_penhome_k02_values_that_are_no_pens_or_c.main.body.getD i (.Pass ⟨0, 0, 0, 0⟩)
section
variable {P : Program} {w : World} {K : PySem.W.Frag} {mg : Str → Option Value} {base : Heap}
abbrev s_is_integer : Stmt := top 6
theorem sc_is_integer : FnScope ["value"] ["value"] (defScope s_is_integer) := ⟨rfl, rfl, rfl, by decide +kernel, rfl, by decide +kernel, by decide +kernel⟩
theorem d_is_integer (n_isinstance : mg "isinstance" = none) (n_int : mg "int" = none) (n_bool : mg "bool" = none) {cdv : Value} {A : Around} {outer : List Env} {s : Shared} {H : Hp} {E : XK} (hr : Room 0 (A.deeper (envOfC "is_integer" (defScope s_is_integer) s.heap.objs.size (He.ga K "is_integer") cdv))) :
    PSs (cxOf CX0 P w K mg base ["value"] "is_integer" (defScope s_is_integer) (He.ga K "is_integer") cdv A outer s H E).nox (defBody s_is_integer) (t_is_integer K) := by
  have nd : (["value"] : List Str).Nodup := sc_is_integer.nd
  exact (pss_one (ps_ret (e_and (e_isi (T := "int") n_isinstance n_int (cv 0)) (pe_one (e_not (e_isi (T := "bool") n_isinstance n_bool (cv 0)))))))
abbrev s_is_pen : Stmt := top 7
theorem sc_is_pen : FnScope ["value", "number"] ["value"] (defScope s_is_pen) := ⟨rfl, rfl, rfl, by decide +kernel, rfl, by decide +kernel, by decide +kernel⟩
theorem d_is_pen (n_isinstance : mg "isinstance" = none) (n_tuple : mg "tuple" = none) (n_len : mg "len" = none) (n_all : mg "all" = none) {f_is_integer : Sp} (h_is_integer : Ok P w K mg base 1 "is_integer" ["value"] f_is_integer) {cdv : Value} {A : Around} {outer : List Env} {s : Shared} {H : Hp} {E : XK} (hr : Room 1 (A.deeper (envOfC "is_pen" (defScope s_is_pen) s.heap.objs.size (He.ga K "is_pen") cdv))) :
    PSs (cxOf CX0 P w K mg base ["value", "number"] "is_pen" (defScope s_is_pen) (He.ga K "is_pen") cdv A outer s H E).nox (defBody s_is_pen) (t_is_pen K f_is_integer) := by
  have nd : (["value", "number"] : List Str).Nodup := sc_is_pen.nd
  exact (pss_one (ps_ret (e_and (e_isi (T := "tuple") n_isinstance n_tuple (cv 0)) (e_and (e_cmp (op_eqC hr.units) (e_len n_len (cv 0)) pe_int) (pe_one (e_all n_all (pe_lc (own := [("number", 1)]) (g := (gName 1)) rfl nd (pi_seq (cv 0)) (blkOk_by (own := [("number", 1)]) (N := ["value", "number"]) (sc := defScope s_is_pen) (by decide +kernel)) (fun _ _ _ _ _ => (pg_name (i := 1) nd rfl (.inl rfl))) (fun _ _ _ _ _ => pts_nil) (fun _ _ _ _ _ => (e_call h_is_integer hr (pa_cons (cv 1) pa_nil))))))))))
abbrev s_is_command : Stmt := top 8
theorem sc_is_command : FnScope ["value", "many", "low", "high", "number"] ["value"] (defScope s_is_command) := ⟨rfl, rfl, rfl, by decide +kernel, rfl, by decide +kernel, by decide +kernel⟩
theorem d_is_command (n_isinstance : mg "isinstance" = none) (n_tuple : mg "tuple" = none) (n_len : mg "len" = none) (n_str : mg "str" = none) (k_LIMITS : ∃ es n, KDict K w (He.ga K "LIMITS") es n) (g_LIMITS : mg "LIMITS" = some (.ref (He.ga K "LIMITS"))) (n_all : mg "all" = none) {f_is_integer : Sp} (h_is_integer : Ok P w K mg base 1 "is_integer" ["value"] f_is_integer) {cdv : Value} {A : Around} {outer : List Env} {s : Shared} {H : Hp} {E : XK} (hr : Room 1 (A.deeper (envOfC "is_command" (defScope s_is_command) s.heap.objs.size (He.ga K "is_command") cdv))) :
    PSs (cxOf CX0 P w K mg base ["value", "many", "low", "high", "number"] "is_command" (defScope s_is_command) (He.ga K "is_command") cdv A outer s H E).nox (defBody s_is_command) (t_is_command K f_is_integer) := by
  have nd : (["value", "many", "low", "high", "number"] : List Str).Nodup := sc_is_command.nd
  exact (pss_cons (ps_if (PW.pt (pw_or (pt_not (t_val (e_isi (T := "tuple") n_isinstance n_tuple (cv 0)))) (pw_or1 (t_cmp (op_eqC hr.units) (e_len n_len (cv 0)) pe_int)))) (pss_one (ps_ret pe_bl)) pss_nil)
    (pss_cons (ps_if (PW.pt (pw_or (pt_not (t_val (e_isi (T := "str") n_isinstance n_str (e_ix (cv 0) pe_int)))) (pw_or1 (t_cmp (op_notIn_kdC k_LIMITS) (e_ix (cv 0) pe_int) (pe_glob (v := .ref (He.ga K "LIMITS")) (by rfl) g_LIMITS rfl))))) (pss_one (ps_ret pe_bl)) pss_nil)
    (pss_cons (ps_asg (pe_ix (ix_kdC k_LIMITS) (pe_glob (v := .ref (He.ga K "LIMITS")) (by rfl) g_LIMITS rfl) (e_ix (cv 0) pe_int) (fun _ _ => rfl)) (pg_tup rfl (pgs_cons (pg_name (i := 1) nd rfl (.inl rfl)) (pgs_cons (pg_name (i := 2) nd rfl (.inr rfl)) (pgs_cons (pg_name (i := 3) nd rfl (.inr rfl)) pgs_nil)))))
    (pss_cons (ps_if (t_cmp (op_neC hr.units) (e_len n_len (cv 0)) (pe_op op_addC (cv 1) pe_int)) (pss_one (ps_ret pe_bl)) pss_nil)
    (pss_one (ps_ret (e_all n_all (pe_lc (own := [("number", 4)]) (g := (gName 4)) rfl nd (pi_seq (pe_slice sl_C (cv 0) (po_someC pe_int) po_none)) (blkOk_by (own := [("number", 4)]) (N := ["value", "many", "low", "high", "number"]) (sc := defScope s_is_command) (by decide +kernel)) (fun _ _ _ _ _ => (pg_name (i := 4) nd rfl (.inl rfl))) (fun _ _ _ _ _ => pts_nil) (fun _ _ _ _ _ => (e_and (e_call h_is_integer hr (pa_cons (cv 4) pa_nil)) (pe_one (e_chain op_leC op_leC (cv 2) (cv 4) (cv 3)))))))))))))
abbrev s_executed : Stmt := top 9
theorem sc_executed : FnScope ["pen", "command", "x", "y", "u", "v", "p", "q", "word", "step"] ["pen", "command"] (defScope s_executed) := ⟨rfl, rfl, rfl, by decide +kernel, rfl, by decide +kernel, by decide +kernel⟩
theorem d_executed (n_range : mg "range" = none) {cdv : Value} {A : Around} {outer : List Env} {s : Shared} {H : Hp} {E : XK} (hr : Room 0 (A.deeper (envOfC "executed" (defScope s_executed) s.heap.objs.size (He.ga K "executed") cdv))) :
    PSs (cxOf CX0 P w K mg base ["pen", "command", "x", "y", "u", "v", "p", "q", "word", "step"] "executed" (defScope s_executed) (He.ga K "executed") cdv A outer s H E).nox (defBody s_executed) (t_executed K) := by
  have nd : (["pen", "command", "x", "y", "u", "v", "p", "q", "word", "step"] : List Str).Nodup := sc_executed.nd
  exact (pss_cons (ps_asg (cv 0) (pg_tup rfl (pgs_cons (pg_name (i := 2) nd rfl (.inl rfl)) (pgs_cons (pg_name (i := 3) nd rfl (.inl rfl)) (pgs_cons (pg_name (i := 4) nd rfl (.inl rfl)) (pgs_cons (pg_name (i := 5) nd rfl (.inl rfl)) (pgs_cons (pg_name (i := 6) nd rfl (.inl rfl)) (pgs_cons (pg_name (i := 7) nd rfl (.inl rfl)) pgs_nil))))))))
    (pss_cons (ps_set (i := 8) nd rfl (.inl rfl) (e_ix (cv 1) pe_int))
    (pss_cons (ps_if (t_cmp (op_eqC hr.units) (cv 8) pe_str) (pss_one (ps_ret (pe_tup (pa_cons (pe_op op_addC (cv 2) (pe_op op_mulC (e_ix (cv 1) pe_int) (cv 4))) (pa_cons (pe_op op_addC (cv 3) (pe_op op_mulC (e_ix (cv 1) pe_int) (cv 5))) (pa_cons (cv 4) (pa_cons (cv 5) (pa_cons (cv 6) (pa_cons (cv 7) pa_nil))))))))) pss_nil)
    (pss_cons (ps_if (t_cmp (op_eqC hr.units) (cv 8) pe_str) (pss_cons (ps_for PassesOwn.never rfl (pi_range1 (by rfl) n_range (pa_cons (e_ix (cv 1) pe_int) pa_nil)) (pg_name (i := 9) nd rfl (.inl rfl)) (pss_one (ps_par (i := 4) (j := 5) (by rfl) nd rfl rfl (by decide) rfl rfl (pa_cons (pe_un un_negC (cv 5)) (pa_cons (cv 4) pa_nil)) (by rfl))))
    (pss_one (ps_ret (pe_tup (pa_cons (cv 2) (pa_cons (cv 3) (pa_cons (cv 4) (pa_cons (cv 5) (pa_cons (cv 6) (pa_cons (cv 7) pa_nil)))))))))) pss_nil)
    (pss_cons (ps_if (t_cmp (op_eqC hr.units) (cv 8) pe_str) (pss_one (ps_ret (pe_tup (pa_cons (cv 2) (pa_cons (cv 3) (pa_cons (cv 4) (pa_cons (pe_un un_negC (cv 5)) (pa_cons (cv 6) (pa_cons (cv 7) pa_nil))))))))) pss_nil)
    (pss_cons (ps_if (t_cmp (op_eqC hr.units) (cv 8) pe_str) (pss_one (ps_ret (pe_tup (pa_cons (cv 2) (pa_cons (cv 3) (pa_cons (pe_op op_mulC (e_ix (cv 1) pe_int) (cv 4)) (pa_cons (pe_op op_mulC (e_ix (cv 1) pe_int) (cv 5)) (pa_cons (cv 6) (pa_cons (cv 7) pa_nil))))))))) pss_nil)
    (pss_cons (ps_if (t_cmp (op_eqC hr.units) (cv 8) pe_str) (pss_one (ps_ret (pe_tup (pa_cons (cv 2) (pa_cons (cv 3) (pa_cons (e_ix (cv 1) pe_int) (pa_cons (e_ix (cv 1) pe_int) (pa_cons (cv 6) (pa_cons (cv 7) pa_nil))))))))) pss_nil)
    (pss_cons (ps_if (t_cmp (op_eqC hr.units) (cv 8) pe_str) (pss_one (ps_ret (pe_tup (pa_cons (e_ix (cv 1) pe_int) (pa_cons (e_ix (cv 1) pe_int) (pa_cons (cv 4) (pa_cons (cv 5) (pa_cons (cv 6) (pa_cons (cv 7) pa_nil))))))))) pss_nil)
    (pss_cons (ps_if (t_cmp (op_eqC hr.units) (cv 8) pe_str) (pss_one (ps_ret (pe_tup (pa_cons (cv 2) (pa_cons (cv 3) (pa_cons (cv 4) (pa_cons (cv 5) (pa_cons (cv 2) (pa_cons (cv 3) pa_nil))))))))) pss_nil)
    (pss_cons (ps_if (t_cmp (op_eqC hr.units) (cv 8) pe_str) (pss_one (ps_ret (pe_tup (pa_cons (cv 6) (pa_cons (cv 7) (pa_cons (cv 4) (pa_cons (cv 5) (pa_cons (cv 6) (pa_cons (cv 7) pa_nil))))))))) pss_nil)
    (pss_one (ps_ret (pe_tup (pa_cons (cv 6) (pa_cons (cv 7) (pa_cons (cv 4) (pa_cons (cv 5) (pa_cons (cv 2) (pa_cons (cv 3) pa_nil)))))))))))))))))))
abbrev s_check_penX : Stmt := top 10
theorem sc_check_penX : FnScope ["pen"] ["pen"] (defScope s_check_penX) := ⟨rfl, rfl, rfl, by decide +kernel, rfl, by decide +kernel, by decide +kernel⟩
theorem d_check_penX {f_is_pen : Sp} (h_is_pen : Ok P w K mg base 2 "is_pen" ["value"] f_is_pen) (x_NoPen : XcF K mg "NoPen") {cdv : Value} {A : Around} {outer : List Env} {s : Shared} {H : Hp} {E : XK} (hr : Room 2 (A.deeper (envOfC "check_pen" (defScope s_check_penX) s.heap.objs.size (He.ga K "check_pen") cdv))) :
    PSs (cxOf (L2.CX P w) P w K mg base ["pen"] "check_pen" (defScope s_check_penX) (He.ga K "check_pen") cdv A outer s H E) (defBody s_check_penX) (t_check_penX K E f_is_pen) := by
  have nd : (["pen"] : List Str).Nodup := sc_check_penX.nd
  exact (pss_one (ps_if (pt_not (t_val (e_call h_is_pen hr (pa_cons (cv 0) pa_nil)))) (pss_one (p_raise x_NoPen (takes_of rfl rfl rfl rfl))) pss_nil))
abbrev s_movedX : Stmt := top 11
theorem sc_movedX : FnScope ["pen", "command"] ["pen", "command"] (defScope s_movedX) := ⟨rfl, rfl, rfl, by decide +kernel, rfl, by decide +kernel, by decide +kernel⟩
theorem d_movedX {f_check_penX : Sp} (h_check_penX : OkX P w K mg base 3 "check_pen" ["pen"] f_check_penX) {f_is_command : Sp} (h_is_command : Ok P w K mg base 2 "is_command" ["value"] f_is_command) (x_NoCommand : XcF K mg "NoCommand") {f_executed : Sp} (h_executed : Ok P w K mg base 1 "executed" ["pen", "command"] f_executed) {cdv : Value} {A : Around} {outer : List Env} {s : Shared} {H : Hp} {E : XK} (hr : Room 3 (A.deeper (envOfC "moved" (defScope s_movedX) s.heap.objs.size (He.ga K "moved") cdv))) :
    PSs (cxOf (L2.CX P w) P w K mg base ["pen", "command"] "moved" (defScope s_movedX) (He.ga K "moved") cdv A outer s H E) (defBody s_movedX) (t_movedX K E f_check_penX f_is_command f_executed) := by
  have nd : (["pen", "command"] : List Str).Nodup := sc_movedX.nd
  exact (pss_cons (ps_expr (e_callX h_check_penX hr (passes_call (takes_of rfl rfl rfl rfl) fun _ _ _ _ h => h) (pa_cons (cv 0) pa_nil)))
    (pss_cons (ps_if (pt_not (t_val (e_call h_is_command hr (pa_cons (cv 1) pa_nil)))) (pss_one (p_raise x_NoCommand (takes_of rfl rfl rfl rfl))) pss_nil)
    (pss_one (ps_ret (e_call h_executed hr (pa_cons (cv 0) (pa_cons (cv 1) pa_nil)))))))
abbrev s_vectorX : Stmt := top 13
theorem sc_vectorX : FnScope ["pen"] ["pen"] (defScope s_vectorX) := ⟨rfl, rfl, rfl, by decide +kernel, rfl, by decide +kernel, by decide +kernel⟩
theorem d_vectorX {f_is_pen : Sp} (h_is_pen : Ok P w K mg base 2 "is_pen" ["value"] f_is_pen) (x_NoPen : XcF K mg "NoPen") {cdv : Value} {A : Around} {outer : List Env} {s : Shared} {H : Hp} {E : XK} (hr : Room 2 (A.deeper (envOfC "vector" (defScope s_vectorX) s.heap.objs.size (He.ga K "vector") cdv))) :
    PSs (cxOf (L2.CX P w) P w K mg base ["pen"] "vector" (defScope s_vectorX) (He.ga K "vector") cdv A outer s H E) (defBody s_vectorX) (t_vectorX K E f_is_pen) := by
  have nd : (["pen"] : List Str).Nodup := sc_vectorX.nd
  exact (pss_cons (ps_if (pt_not (t_val (e_call h_is_pen hr (pa_cons (cv 0) pa_nil)))) (pss_one (p_raise x_NoPen (takes_of rfl rfl rfl rfl))) pss_nil)
    (pss_one (ps_ret (pe_lst (pa_cons pe_int (StX.pa_star (cv 0) pa_nil))))))
abbrev s_matrix_ofX : Stmt := top 14
theorem sc_matrix_ofX : FnScope ["command", "origin", "columns", "at", "unit", "image", "k", "i", "j"] ["command"] (defScope s_matrix_ofX) := ⟨rfl, rfl, rfl, by decide +kernel, rfl, by decide +kernel, by decide +kernel⟩
theorem d_matrix_ofX {f_is_command : Sp} (h_is_command : Ok P w K mg base 2 "is_command" ["value"] f_is_command) (x_NoCommand : XcF K mg "NoCommand") {f_executed : Sp} (h_executed : Ok P w K mg base 1 "executed" ["pen", "command"] f_executed) (n_range : mg "range" = none) (n_tuple : mg "tuple" = none) (n_int : mg "int" = none) {cdv : Value} {A : Around} {outer : List Env} {s : Shared} {H : Hp} {E : XK} (hr : Room 2 (A.deeper (envOfC "matrix_of" (defScope s_matrix_ofX) s.heap.objs.size (He.ga K "matrix_of") cdv))) :
    PSs (cxOf (L2.CX P w) P w K mg base ["command", "origin", "columns", "at", "unit", "image", "k", "i", "j"] "matrix_of" (defScope s_matrix_ofX) (He.ga K "matrix_of") cdv A outer s H E) (defBody s_matrix_ofX) (t_matrix_ofX K E f_is_command f_executed) := by
  have nd : (["command", "origin", "columns", "at", "unit", "image", "k", "i", "j"] : List Str).Nodup := sc_matrix_ofX.nd
  exact (pss_cons (ps_if (pt_not (t_val (e_call h_is_command hr (pa_cons (cv 0) pa_nil)))) (pss_one (p_raise x_NoCommand (takes_of rfl rfl rfl rfl))) pss_nil)
    (pss_cons (ps_set (i := 1) nd rfl (.inr rfl) (e_call h_executed hr (pa_cons (pe_tup (pa_cons pe_int (pa_cons pe_int (pa_cons pe_int (pa_cons pe_int (pa_cons pe_int (pa_cons pe_int pa_nil))))))) (pa_cons (cv 0) pa_nil))))
    (pss_cons (ps_set (i := 2) nd rfl (.inr rfl) (pe_lst (pa_cons (pe_lst (pa_cons pe_int (StX.pa_star (cv 1) pa_nil))) pa_nil)))
    (pss_cons (ps_for (passes_of rfl) rfl (pi_range1 (by rfl) n_range (pa_cons pe_int pa_nil)) (pg_name (i := 3) nd rfl (.inr rfl)) (pss_cons (ps_set (i := 4) nd rfl (.inl rfl) (e_tuple n_tuple (pe_lc (own := [("k", 6)]) (g := (gName 6)) rfl nd (pi_range1 (by rfl) n_range (pa_cons pe_int pa_nil)) (blkOk_by (own := [("k", 6)]) (N := ["command", "origin", "columns", "at", "unit", "image", "k", "i", "j"]) (sc := defScope s_matrix_ofX) (by decide +kernel)) (fun _ _ _ _ _ => (pg_name (i := 6) nd rfl (.inl rfl))) (fun _ _ _ _ _ => pts_nil) (fun _ _ _ _ _ => (e_int n_int (e_cmp (op_eqC hr.units) (cv 6) (cv 3)))))))
    (pss_cons (ps_set (i := 5) nd rfl (.inr rfl) (e_call h_executed hr (pa_cons (cv 4) (pa_cons (cv 0) pa_nil))))
    (pss_one (ps_expr (pe_bm PySem.F.plainAttrs_list PySem.F.slot_list_append PySem.F.type_list_append mt_appendC (cv 2) (pa_cons (pe_op op_addC (pe_lst (pa_cons pe_int pa_nil)) (pe_lc (own := [("k", 6)]) (g := (gName 6)) rfl nd (pi_range1 (by rfl) n_range (pa_cons pe_int pa_nil)) (blkOk_by (own := [("k", 6)]) (N := ["command", "origin", "columns", "at", "unit", "image", "k", "i", "j"]) (sc := defScope s_matrix_ofX) (by decide +kernel)) (fun _ _ _ _ _ => (pg_name (i := 6) nd rfl (.inl rfl))) (fun _ _ _ _ _ => pts_nil) (fun _ _ _ _ _ => (pe_op op_subC (e_ix (cv 5) (cv 6)) (e_ix (cv 1) (cv 6)))))) pa_nil)))))))
    (pss_one (ps_ret (pe_lc2 (own := [("i", 7), ("j", 8)]) (vs1 := [8]) (g := (gName 7)) (g1 := (gName 8)) rfl nd (pi_range1 (by rfl) n_range (pa_cons pe_int pa_nil)) (blkOk_by (own := [("i", 7), ("j", 8)]) (N := ["command", "origin", "columns", "at", "unit", "image", "k", "i", "j"]) (sc := defScope s_matrix_ofX) (by decide +kernel)) (by decide) (fun _ _ _ _ _ => (pg_name (i := 7) nd rfl (.inl rfl))) (fun _ _ _ _ _ => pts_nil) (fun _ _ _ _ _ => (pi_range1 (by rfl) n_range (pa_cons pe_int pa_nil))) (fun _ _ _ _ _ => (pg_name (i := 8) nd rfl (.inl rfl))) (fun _ _ _ _ _ => pts_nil) (fun _ _ _ _ _ => (e_ix (e_ix (cv 2) (cv 8)) (cv 7))))))))))
abbrev s_appliedX : Stmt := top 15
theorem sc_appliedX : FnScope ["matrix", "pen", "numbers", "behind", "i", "j"] ["matrix", "pen"] (defScope s_appliedX) := ⟨rfl, rfl, rfl, by decide +kernel, rfl, by decide +kernel, by decide +kernel⟩
theorem d_appliedX {f_vectorX : Sp} (h_vectorX : OkX P w K mg base 3 "vector" ["pen"] f_vectorX) (n_range : mg "range" = none) (n_sum : mg "sum" = none) (n_tuple : mg "tuple" = none) {cdv : Value} {A : Around} {outer : List Env} {s : Shared} {H : Hp} {E : XK} (hr : Room 3 (A.deeper (envOfC "applied" (defScope s_appliedX) s.heap.objs.size (He.ga K "applied") cdv))) :
    PSs (cxOf (L2.CX P w) P w K mg base ["matrix", "pen", "numbers", "behind", "i", "j"] "applied" (defScope s_appliedX) (He.ga K "applied") cdv A outer s H E) (defBody s_appliedX) (t_appliedX K E f_vectorX) := by
  have nd : (["matrix", "pen", "numbers", "behind", "i", "j"] : List Str).Nodup := sc_appliedX.nd
  exact (pss_cons (ps_set (i := 2) nd rfl (.inr rfl) (e_callX h_vectorX hr (passes_call (takes_of rfl rfl rfl rfl) fun _ _ _ _ h => h) (pa_cons (cv 1) pa_nil)))
    (pss_cons (ps_setLc (i := 3) (own := [("i", 4)]) (g := (gName 4)) rfl nd rfl rfl (sw_true rfl rfl rfl (by decide +kernel)) (pi_range2 (by rfl) n_range (pa_cons pe_int (pa_cons pe_int pa_nil))) (blkOk_by (own := [("i", 4)]) (N := ["matrix", "pen", "numbers", "behind", "i", "j"]) (sc := defScope s_appliedX) (by decide +kernel)) (fun _ _ _ _ _ => (pg_name (i := 4) nd rfl (.inr rfl))) (fun _ _ _ _ _ => pts_nil) (fun _ _ _ _ _ => (e_sum n_sum (pe_lc (own := [("j", 5)]) (g := (gName 5)) rfl nd (pi_range1 (by rfl) n_range (pa_cons pe_int pa_nil)) (blkOk_by (own := [("j", 5)]) (N := ["matrix", "pen", "numbers", "behind", "i", "j"]) (by kernel_rfl)) (fun _ _ _ _ _ => (pg_name (i := 5) nd rfl (.inl rfl))) (fun _ _ _ _ _ => pts_nil) (fun _ _ _ _ _ => (pe_op op_mulC (e_ix (cv 0) (pe_op op_addC (pe_op op_mulC pe_int (cv 4)) (cv 5))) (e_ix (cv 2) (cv 5))))))))
    (pss_one (ps_ret (e_tuple n_tuple (cv 3))))))
abbrev s_L_pool : Stmt := top 17
theorem sc_L_pool : FnScope ["_law_script", "_law_cell"] ["_law_script"] (defScope s_L_pool) := ⟨rfl, rfl, rfl, by decide +kernel, rfl, by decide +kernel, by decide +kernel⟩
theorem d_L_pool (n_int : mg "int" = none) {cdv : Value} {A : Around} {outer : List Env} {s : Shared} {H : Hp} {E : XK} (hr : Room 0 (A.deeper (envOfC "_law_pool" (defScope s_L_pool) s.heap.objs.size (He.ga K "_law_pool") cdv))) :
    PSs (cxOf CX0 P w K mg base ["_law_script", "_law_cell"] "_law_pool" (defScope s_L_pool) (He.ga K "_law_pool") cdv A outer s H E).nox (defBody s_L_pool) (t_L_pool K) := by
  have nd : (["_law_script", "_law_cell"] : List Str).Nodup := sc_L_pool.nd
  exact (pss_one (ps_ret (pe_op op_addC (pe_lst (pa_cons pe_int pa_nil)) (pe_orT (pe_lc (own := [("_law_cell", 1)]) (g := (gName 1)) rfl nd (pi_seq (pe_slice sl_C (cv 0) po_none (po_someC pe_int))) (blkOk_by (own := [("_law_cell", 1)]) (N := ["_law_script", "_law_cell"]) (sc := defScope s_L_pool) (by decide +kernel)) (fun _ _ _ _ _ => (pg_name (i := 1) nd rfl (.inl rfl))) (fun _ _ _ _ _ => pts_nil) (fun _ _ _ _ _ => (e_int n_int (cv 1)))) (pe_one (pe_lst (pa_cons pe_int pa_nil)))))))
abbrev s_L_draw : Stmt := top 18
theorem sc_L_draw : FnScope ["_law_pool_here", "_law_many", "_law_at", "_law_cell", "_law_number_here"] ["_law_pool_here", "_law_many"] (defScope s_L_draw) := ⟨rfl, rfl, rfl, by decide +kernel, rfl, by decide +kernel, by decide +kernel⟩
theorem d_L_draw (n_int : mg "int" = none) (n_len : mg "len" = none) {cdv : Value} {A : Around} {outer : List Env} {s : Shared} {H : Hp} {E : XK} (hr : Room 0 (A.deeper (envOfC "_law_draw" (defScope s_L_draw) s.heap.objs.size (He.ga K "_law_draw") cdv))) :
    PSs (cxOf CX0 P w K mg base ["_law_pool_here", "_law_many", "_law_at", "_law_cell", "_law_number_here"] "_law_draw" (defScope s_L_draw) (He.ga K "_law_draw") cdv A outer s H E).nox (defBody s_L_draw) (t_L_draw K) := by
  have nd : (["_law_pool_here", "_law_many", "_law_at", "_law_cell", "_law_number_here"] : List Str).Nodup := sc_L_draw.nd
  exact (pss_cons (s_augS (cv 0) pe_int pe_int ip_addC)
    (pss_cons (ps_set (i := 2) nd rfl (.inl rfl) (pe_op op_addC pe_int (pe_op op_modC (e_int n_int (e_ix (cv 0) pe_int)) (pe_op op_subC (e_len n_len (cv 0)) pe_int))))
    (pss_cons (ps_set (i := 3) nd rfl (.inl rfl) (e_int n_int (e_ix (cv 0) (cv 2))))
    (pss_cons (ps_if (t_cmp op_geC (cv 3) (pe_op op_powC pe_int pe_int)) (pss_cons (ps_asg (pe_op op_fdivC (cv 3) (cv 1)) (pg_sub (cv 0) (cv 2) set_listC))
    (pss_one (ps_ret (pe_op op_modC (cv 3) (cv 1))))) pss_nil)
    (pss_cons (ps_set (i := 4) nd rfl (.inl rfl) (pe_op op_modC (pe_op op_mulC (e_int n_int (pe_op op_addC (pe_op op_addC (cv 3) (pe_op op_mulC pe_int (e_ix (cv 0) pe_int))) pe_int)) pe_int) pe_int))
    (pss_cons (ps_set (i := 4) nd rfl (.inl rfl) (pe_op op_modC (pe_op op_mulC (cv 4) (pe_op op_addC (pe_op op_fdivC (cv 4) pe_int) pe_int)) pe_int))
    (pss_cons (ps_set (i := 4) nd rfl (.inl rfl) (pe_op op_modC (pe_op op_mulC (cv 4) (pe_op op_addC (pe_op op_fdivC (cv 4) pe_int) pe_int)) pe_int))
    (pss_one (ps_ret (pe_op op_modC (pe_op op_fdivC (cv 4) pe_int) (cv 1)))))))))))
abbrev s_L_number : Stmt := top 19
theorem sc_L_number : FnScope ["_law_pool_here", "_law_small", "_law_at", "_law_number_here"] ["_law_pool_here"] (defScope s_L_number) := ⟨rfl, rfl, rfl, by decide +kernel, rfl, by decide +kernel, by decide +kernel⟩
theorem d_L_number {f_L_draw : Sp} (h_L_draw : Ok P w K mg base 1 "_law_draw" ["_law_pool_here", "_law_many"] f_L_draw) (n_int : mg "int" = none) (n_len : mg "len" = none) {cdv : Value} {A : Around} {outer : List Env} {s : Shared} {H : Hp} {E : XK} (hr : Room 1 (A.deeper (envOfC "_law_number" (defScope s_L_number) s.heap.objs.size (He.ga K "_law_number") cdv))) :
    PSs (cxOf CX0 P w K mg base ["_law_pool_here", "_law_small", "_law_at", "_law_number_here"] "_law_number" (defScope s_L_number) (He.ga K "_law_number") cdv A outer s H E).nox (defBody s_L_number) (t_L_number K f_L_draw) := by
  have nd : (["_law_pool_here", "_law_small", "_law_at", "_law_number_here"] : List Str).Nodup := sc_L_number.nd
  exact (pss_cons (ps_set (i := 1) nd rfl (.inl rfl) (e_call h_L_draw hr (pa_cons (cv 0) (pa_cons pe_int pa_nil))))
    (pss_cons (ps_if (t_cmp (op_eqC hr.units) (cv 1) pe_int) (pss_one (ps_ret (pe_op op_subC (e_call h_L_draw hr (pa_cons (cv 0) (pa_cons pe_int pa_nil))) pe_int))) pss_nil)
    (pss_cons (s_augS (cv 0) pe_int pe_int ip_addC)
    (pss_cons (ps_set (i := 2) nd rfl (.inl rfl) (pe_op op_addC pe_int (pe_op op_modC (e_int n_int (e_ix (cv 0) pe_int)) (pe_op op_subC (e_len n_len (cv 0)) pe_int))))
    (pss_cons (ps_set (i := 3) nd rfl (.inl rfl) (pe_op op_modC (e_int n_int (pe_op op_addC (pe_op op_mulC (e_ix (cv 0) (cv 2)) pe_int) (pe_op op_mulC (e_ix (cv 0) pe_int) pe_int))) (pe_op op_powC pe_int pe_int)))
    (pss_cons (ps_if (t_cmp (op_eqC hr.units) (e_call h_L_draw hr (pa_cons (cv 0) (pa_cons pe_int pa_nil))) pe_int) (pss_one (ps_ret (cv 3))) pss_nil)
    (pss_one (ps_ret (pe_op op_subC pe_int (cv 3))))))))))
abbrev s_L_pen : Stmt := top 20
theorem sc_L_pen : FnScope ["_law_pool_here", "_law_begin", "_law_k"] ["_law_pool_here"] (defScope s_L_pen) := ⟨rfl, rfl, rfl, by decide +kernel, rfl, by decide +kernel, by decide +kernel⟩
theorem d_L_pen (n_range : mg "range" = none) {f_L_number : Sp} (h_L_number : Ok P w K mg base 2 "_law_number" ["_law_pool_here"] f_L_number) {cdv : Value} {A : Around} {outer : List Env} {s : Shared} {H : Hp} {E : XK} (hr : Room 2 (A.deeper (envOfC "_law_pen" (defScope s_L_pen) s.heap.objs.size (He.ga K "_law_pen") cdv))) :
    PSs (cxOf CX0 P w K mg base ["_law_pool_here", "_law_begin", "_law_k"] "_law_pen" (defScope s_L_pen) (He.ga K "_law_pen") cdv A outer s H E).nox (defBody s_L_pen) (t_L_pen K f_L_number) := by
  have nd : (["_law_pool_here", "_law_begin", "_law_k"] : List Str).Nodup := sc_L_pen.nd
  exact (pss_cons (ps_setLc (i := 1) (own := [("_law_k", 2)]) (g := (gName 2)) rfl nd rfl rfl (sw_true rfl rfl rfl (by decide +kernel)) (pi_range1 (by rfl) n_range (pa_cons pe_int pa_nil)) (blkOk_by (own := [("_law_k", 2)]) (N := ["_law_pool_here", "_law_begin", "_law_k"]) (sc := defScope s_L_pen) (by decide +kernel)) (fun _ _ _ _ _ => (pg_name (i := 2) nd rfl (.inl rfl))) (fun _ _ _ _ _ => pts_nil) (fun _ _ _ _ _ => (e_call h_L_number hr (pa_cons (cv 0) pa_nil))))
    (pss_one (ps_ret (pe_tup (pa_cons (e_ix (cv 1) pe_int) (pa_cons (e_ix (cv 1) pe_int) (pa_cons (e_ix (cv 1) pe_int) (pa_cons (e_ix (cv 1) pe_int) (pa_cons (e_ix (cv 1) pe_int) (pa_cons (e_ix (cv 1) pe_int) pa_nil))))))))))
abbrev s_L_move : Stmt := top 21
theorem sc_L_move : FnScope ["_law_begin", "_law_command", "_law_x", "_law_y", "_law_u", "_law_v", "_law_p", "_law_q", "_law_word", "_law_k", "_law_turned"] ["_law_begin", "_law_command"] (defScope s_L_move) := ⟨rfl, rfl, rfl, by decide +kernel, rfl, by decide +kernel, by decide +kernel⟩
theorem d_L_move  {cdv : Value} {A : Around} {outer : List Env} {s : Shared} {H : Hp} {E : XK} (hr : Room 0 (A.deeper (envOfC "_law_move" (defScope s_L_move) s.heap.objs.size (He.ga K "_law_move") cdv))) :
    PSs (cxOf CX0 P w K mg base ["_law_begin", "_law_command", "_law_x", "_law_y", "_law_u", "_law_v", "_law_p", "_law_q", "_law_word", "_law_k", "_law_turned"] "_law_move" (defScope s_L_move) (He.ga K "_law_move") cdv A outer s H E).nox (defBody s_L_move) (t_L_move K) := by
  have nd : (["_law_begin", "_law_command", "_law_x", "_law_y", "_law_u", "_law_v", "_law_p", "_law_q", "_law_word", "_law_k", "_law_turned"] : List Str).Nodup := sc_L_move.nd
  exact (pss_cons (ps_asg (cv 0) (pg_tup rfl (pgs_cons (pg_name (i := 2) nd rfl (.inl rfl)) (pgs_cons (pg_name (i := 3) nd rfl (.inl rfl)) (pgs_cons (pg_name (i := 4) nd rfl (.inl rfl)) (pgs_cons (pg_name (i := 5) nd rfl (.inl rfl)) (pgs_cons (pg_name (i := 6) nd rfl (.inl rfl)) (pgs_cons (pg_name (i := 7) nd rfl (.inl rfl)) pgs_nil))))))))
    (pss_cons (ps_set (i := 8) nd rfl (.inl rfl) (e_ix (cv 1) pe_int))
    (pss_cons (ps_set (i := 9) nd rfl (.inl rfl) (e_ix (pe_op op_addC (cv 1) (pe_tup (pa_cons pe_int pa_nil))) pe_int))
    (pss_cons (ps_if (t_cmp (op_eqC hr.units) (cv 8) pe_str) (pss_one (ps_ret (pe_tup (pa_cons (pe_op op_addC (cv 2) (pe_op op_mulC (cv 9) (cv 4))) (pa_cons (pe_op op_addC (cv 3) (pe_op op_mulC (cv 9) (cv 5))) (pa_cons (cv 4) (pa_cons (cv 5) (pa_cons (cv 6) (pa_cons (cv 7) pa_nil))))))))) pss_nil)
    (pss_cons (ps_if (t_cmp (op_eqC hr.units) (cv 8) pe_str) (pss_cons (ps_set (i := 10) nd rfl (.inl rfl) (e_ix (pe_lst (pa_cons (pe_tup (pa_cons (pe_un un_negC (cv 5)) (pa_cons (cv 4) pa_nil))) (pa_cons (pe_tup (pa_cons (pe_un un_negC (cv 4)) (pa_cons (pe_un un_negC (cv 5)) pa_nil))) (pa_cons (pe_tup (pa_cons (cv 5) (pa_cons (pe_un un_negC (cv 4)) pa_nil))) pa_nil)))) (pe_op op_subC (cv 9) pe_int)))
    (pss_one (ps_ret (pe_tup (pa_cons (cv 2) (pa_cons (cv 3) (pa_cons (e_ix (cv 10) pe_int) (pa_cons (e_ix (cv 10) pe_int) (pa_cons (cv 6) (pa_cons (cv 7) pa_nil)))))))))) pss_nil)
    (pss_cons (ps_if (t_cmp (op_eqC hr.units) (cv 8) pe_str) (pss_one (ps_ret (pe_tup (pa_cons (cv 2) (pa_cons (cv 3) (pa_cons (cv 4) (pa_cons (pe_un un_negC (cv 5)) (pa_cons (cv 6) (pa_cons (cv 7) pa_nil))))))))) pss_nil)
    (pss_cons (ps_if (t_cmp (op_eqC hr.units) (cv 8) pe_str) (pss_one (ps_ret (pe_tup (pa_cons (cv 2) (pa_cons (cv 3) (pa_cons (pe_op op_mulC (cv 4) (cv 9)) (pa_cons (pe_op op_mulC (cv 5) (cv 9)) (pa_cons (cv 6) (pa_cons (cv 7) pa_nil))))))))) pss_nil)
    (pss_cons (ps_if (t_cmp (op_eqC hr.units) (cv 8) pe_str) (pss_one (ps_ret (pe_tup (pa_cons (cv 2) (pa_cons (cv 3) (pa_cons (cv 9) (pa_cons (e_ix (cv 1) pe_int) (pa_cons (cv 6) (pa_cons (cv 7) pa_nil))))))))) pss_nil)
    (pss_cons (ps_if (t_cmp (op_eqC hr.units) (cv 8) pe_str) (pss_one (ps_ret (pe_tup (pa_cons (cv 9) (pa_cons (e_ix (cv 1) pe_int) (pa_cons (cv 4) (pa_cons (cv 5) (pa_cons (cv 6) (pa_cons (cv 7) pa_nil))))))))) pss_nil)
    (pss_cons (ps_if (t_cmp (op_eqC hr.units) (cv 8) pe_str) (pss_one (ps_ret (pe_tup (pa_cons (cv 2) (pa_cons (cv 3) (pa_cons (cv 4) (pa_cons (cv 5) (pa_cons (cv 2) (pa_cons (cv 3) pa_nil))))))))) pss_nil)
    (pss_cons (ps_if (t_cmp (op_eqC hr.units) (cv 8) pe_str) (pss_one (ps_ret (pe_tup (pa_cons (cv 6) (pa_cons (cv 7) (pa_cons (cv 4) (pa_cons (cv 5) (pa_cons (cv 6) (pa_cons (cv 7) pa_nil))))))))) pss_nil)
    (pss_one (ps_ret (pe_tup (pa_cons (cv 6) (pa_cons (cv 7) (pa_cons (cv 4) (pa_cons (cv 5) (pa_cons (cv 2) (pa_cons (cv 3) pa_nil))))))))))))))))))))
abbrev s_L_image : Stmt := top 22
theorem sc_L_image : FnScope ["_law_matrix", "_law_begin", "_law_ahead", "_law_behind", "_law_i", "_law_j"] ["_law_matrix", "_law_begin"] (defScope s_L_image) := ⟨rfl, rfl, rfl, by decide +kernel, rfl, by decide +kernel, by decide +kernel⟩
theorem d_L_image (n_range : mg "range" = none) (n_sum : mg "sum" = none) {cdv : Value} {A : Around} {outer : List Env} {s : Shared} {H : Hp} {E : XK} (hr : Room 0 (A.deeper (envOfC "_law_image" (defScope s_L_image) s.heap.objs.size (He.ga K "_law_image") cdv))) :
    PSs (cxOf CX0 P w K mg base ["_law_matrix", "_law_begin", "_law_ahead", "_law_behind", "_law_i", "_law_j"] "_law_image" (defScope s_L_image) (He.ga K "_law_image") cdv A outer s H E).nox (defBody s_L_image) (t_L_image K) := by
  have nd : (["_law_matrix", "_law_begin", "_law_ahead", "_law_behind", "_law_i", "_law_j"] : List Str).Nodup := sc_L_image.nd
  exact (pss_cons (ps_set (i := 2) nd rfl (.inr rfl) (pe_lst (pa_cons pe_int (pa_cons (e_ix (cv 1) pe_int) (pa_cons (e_ix (cv 1) pe_int) (pa_cons (e_ix (cv 1) pe_int) (pa_cons (e_ix (cv 1) pe_int) (pa_cons (e_ix (cv 1) pe_int) (pa_cons (e_ix (cv 1) pe_int) pa_nil)))))))))
    (pss_cons (ps_setLc (i := 3) (own := [("_law_i", 4)]) (g := (gName 4)) rfl nd rfl rfl (sw_true rfl rfl rfl (by decide +kernel)) (pi_range1 (by rfl) n_range (pa_cons pe_int pa_nil)) (blkOk_by (own := [("_law_i", 4)]) (N := ["_law_matrix", "_law_begin", "_law_ahead", "_law_behind", "_law_i", "_law_j"]) (sc := defScope s_L_image) (by decide +kernel)) (fun _ _ _ _ _ => (pg_name (i := 4) nd rfl (.inr rfl))) (fun _ _ _ _ _ => pts_nil) (fun _ _ _ _ _ => (e_sum n_sum (pe_lc (own := [("_law_j", 5)]) (g := (gName 5)) rfl nd (pi_range1 (by rfl) n_range (pa_cons pe_int pa_nil)) (blkOk_by (own := [("_law_j", 5)]) (N := ["_law_matrix", "_law_begin", "_law_ahead", "_law_behind", "_law_i", "_law_j"]) (by kernel_rfl)) (fun _ _ _ _ _ => (pg_name (i := 5) nd rfl (.inl rfl))) (fun _ _ _ _ _ => pts_nil) (fun _ _ _ _ _ => (pe_op op_mulC (e_ix (cv 0) (pe_op op_addC (pe_op op_mulC pe_int (cv 4)) (cv 5))) (e_ix (cv 2) (cv 5))))))))
    (pss_one (ps_ret (pe_tup (pa_cons (e_ix (cv 3) pe_int) (pa_cons (e_ix (cv 3) pe_int) (pa_cons (e_ix (cv 3) pe_int) (pa_cons (e_ix (cv 3) pe_int) (pa_cons (e_ix (cv 3) pe_int) (pa_cons (e_ix (cv 3) pe_int) pa_nil)))))))))))
abbrev s_L_pens : Stmt := top 23
theorem sc_L_pens : FnScope ["_law_deeds", "_law_begin", "_law_pens_here", "_law_held", "_law_deed"] ["_law_deeds", "_law_begin"] (defScope s_L_pens) := ⟨rfl, rfl, rfl, by decide +kernel, rfl, by decide +kernel, by decide +kernel⟩
theorem d_L_pens {f_L_move : Sp} (h_L_move : Ok P w K mg base 1 "_law_move" ["_law_begin", "_law_command"] f_L_move) {cdv : Value} {A : Around} {outer : List Env} {s : Shared} {H : Hp} {E : XK} (hr : Room 1 (A.deeper (envOfC "_law_pens" (defScope s_L_pens) s.heap.objs.size (He.ga K "_law_pens") cdv))) :
    PSs (cxOf CX0 P w K mg base ["_law_deeds", "_law_begin", "_law_pens_here", "_law_held", "_law_deed"] "_law_pens" (defScope s_L_pens) (He.ga K "_law_pens") cdv A outer s H E).nox (defBody s_L_pens) (t_L_pens K f_L_move) := by
  have nd : (["_law_deeds", "_law_begin", "_law_pens_here", "_law_held", "_law_deed"] : List Str).Nodup := sc_L_pens.nd
  exact (pss_cons (ps_set (i := 2) nd rfl (.inl rfl) (pe_lst pa_nil))
    (pss_cons (ps_set (i := 3) nd rfl (.inl rfl) (pe_lst pa_nil))
    (pss_cons (ps_for PassesOwn.never rfl (pi_seq (cv 0)) (pg_name (i := 4) nd rfl (.inl rfl)) (pss_one (ps_if (t_cmp (op_eqC hr.units) (e_ix (cv 4) pe_int) pe_str) (pss_one (ps_expr (pe_bm PySem.F.plainAttrs_list PySem.F.slot_list_append PySem.F.type_list_append mt_appendC (cv 3) (pa_cons (cv 1) pa_nil)))) (pss_one (ps_if (t_cmp (op_eqC hr.units) (e_ix (cv 4) pe_int) pe_str) (pss_one (ps_set (i := 1) nd rfl (.inl rfl) (pe_op op_addC (pe_slice sl_C (pe_bm0 PySem.F.plainAttrs_list PySem.F.slot_list_pop PySem.F.type_list_pop mt_popC (cv 3)) po_none (po_someC pe_int)) (pe_slice sl_C (cv 1) (po_someC pe_int) po_none)))) (pss_cons (ps_set (i := 1) nd rfl (.inl rfl) (e_call h_L_move hr (pa_cons (cv 1) (pa_cons (cv 4) pa_nil))))
    (pss_one (ps_expr (pe_bm PySem.F.plainAttrs_list PySem.F.slot_list_append PySem.F.type_list_append mt_appendC (cv 2) (pa_cons (cv 1) pa_nil))))))))))
    (pss_one (ps_ret (pe_lst (pa_cons (cv 2) (pa_cons (cv 1) pa_nil))))))))
abbrev s_L_probe : Stmt := top 24
theorem sc_L_probe : FnScope ["_law_deeds", "_law_origin", "_law_images", "_law_matrix", "_law_i", "_law_j", "_law_k"] ["_law_deeds"] (defScope s_L_probe) := ⟨rfl, rfl, rfl, by decide +kernel, rfl, by decide +kernel, by decide +kernel⟩
theorem d_L_probe {f_L_pens : Sp} (h_L_pens : Ok P w K mg base 2 "_law_pens" ["_law_deeds", "_law_begin"] f_L_pens) (n_range : mg "range" = none) (n_tuple : mg "tuple" = none) (n_int : mg "int" = none) {cdv : Value} {A : Around} {outer : List Env} {s : Shared} {H : Hp} {E : XK} (hr : Room 2 (A.deeper (envOfC "_law_probe" (defScope s_L_probe) s.heap.objs.size (He.ga K "_law_probe") cdv))) :
    PSs (cxOf CX0 P w K mg base ["_law_deeds", "_law_origin", "_law_images", "_law_matrix", "_law_i", "_law_j", "_law_k"] "_law_probe" (defScope s_L_probe) (He.ga K "_law_probe") cdv A outer s H E).nox (defBody s_L_probe) (t_L_probe K f_L_pens) := by
  have nd : (["_law_deeds", "_law_origin", "_law_images", "_law_matrix", "_law_i", "_law_j", "_law_k"] : List Str).Nodup := sc_L_probe.nd
  exact (pss_cons (ps_set (i := 1) nd rfl (.inl rfl) (e_ix (e_call h_L_pens hr (pa_cons (cv 0) (pa_cons (pe_tup (pa_cons pe_int (pa_cons pe_int (pa_cons pe_int (pa_cons pe_int (pa_cons pe_int (pa_cons pe_int pa_nil))))))) pa_nil))) pe_int))
    (pss_cons (ps_setLc (i := 2) (own := [("_law_j", 5)]) (g := (gName 5)) rfl nd rfl rfl (sw_true rfl rfl rfl (by decide +kernel)) (pi_range1 (by rfl) n_range (pa_cons pe_int pa_nil)) (blkOk_by (own := [("_law_j", 5)]) (N := ["_law_deeds", "_law_origin", "_law_images", "_law_matrix", "_law_i", "_law_j", "_law_k"]) (sc := defScope s_L_probe) (by decide +kernel)) (fun _ _ _ _ _ => (pg_name (i := 5) nd rfl (.inr rfl))) (fun _ _ _ _ _ => pts_nil) (fun _ _ _ _ _ => (e_ix (e_call h_L_pens hr (pa_cons (cv 0) (pa_cons (e_tuple n_tuple (pe_lc (own := [("_law_k", 6)]) (g := (gName 6)) rfl nd (pi_range1 (by rfl) n_range (pa_cons pe_int pa_nil)) (blkOk_by (own := [("_law_k", 6)]) (N := ["_law_deeds", "_law_origin", "_law_images", "_law_matrix", "_law_i", "_law_j", "_law_k"]) (by kernel_rfl)) (fun _ _ _ _ _ => (pg_name (i := 6) nd rfl (.inl rfl))) (fun _ _ _ _ _ => pts_nil) (fun _ _ _ _ _ => (e_int n_int (e_cmp (op_eqC hr.units) (cv 6) (cv 5)))))) pa_nil))) pe_int)))
    (pss_cons (ps_set (i := 3) nd rfl (.inl rfl) (pe_lst (pa_cons pe_int (pa_cons pe_int (pa_cons pe_int (pa_cons pe_int (pa_cons pe_int (pa_cons pe_int (pa_cons pe_int pa_nil)))))))))
    (pss_cons (ps_for PassesOwn.never rfl (pi_range1 (by rfl) n_range (pa_cons pe_int pa_nil)) (pg_name (i := 4) nd rfl (.inl rfl)) (pss_cons (ps_expr (pe_bm PySem.F.plainAttrs_list PySem.F.slot_list_append PySem.F.type_list_append mt_appendC (cv 3) (pa_cons (e_ix (cv 1) (cv 4)) pa_nil)))
    (pss_one (ps_for PassesOwn.never rfl (pi_range1 (by rfl) n_range (pa_cons pe_int pa_nil)) (pg_name (i := 5) nd rfl (.inl rfl)) (pss_one (ps_expr (pe_bm PySem.F.plainAttrs_list PySem.F.slot_list_append PySem.F.type_list_append mt_appendC (cv 3) (pa_cons (pe_op op_subC (e_ix (e_ix (cv 2) (cv 5)) (cv 4)) (e_ix (cv 1) (cv 4))) pa_nil))))))))
    (pss_one (ps_ret (cv 3)))))))
abbrev s_L_any_command : Stmt := top 25
theorem sc_L_any_command : FnScope ["_law_pool_here", "_law_kind"] ["_law_pool_here"] (defScope s_L_any_command) := ⟨rfl, rfl, rfl, by decide +kernel, rfl, by decide +kernel, by decide +kernel⟩
theorem d_L_any_command {f_L_draw : Sp} (h_L_draw : Ok P w K mg base 1 "_law_draw" ["_law_pool_here", "_law_many"] f_L_draw) {cdv : Value} {A : Around} {outer : List Env} {s : Shared} {H : Hp} {E : XK} (hr : Room 1 (A.deeper (envOfC "_law_any_command" (defScope s_L_any_command) s.heap.objs.size (He.ga K "_law_any_command") cdv))) :
    PSs (cxOf CX0 P w K mg base ["_law_pool_here", "_law_kind"] "_law_any_command" (defScope s_L_any_command) (He.ga K "_law_any_command") cdv A outer s H E).nox (defBody s_L_any_command) (t_L_any_command K f_L_draw) := by
  have nd : (["_law_pool_here", "_law_kind"] : List Str).Nodup := sc_L_any_command.nd
  exact (pss_cons (ps_set (i := 1) nd rfl (.inl rfl) (e_call h_L_draw hr (pa_cons (cv 0) (pa_cons pe_int pa_nil))))
    (pss_cons (ps_if (t_cmp (op_eqC hr.units) (cv 1) pe_int) (pss_one (ps_ret (pe_tup (pa_cons pe_str (pa_cons (pe_op op_subC (e_call h_L_draw hr (pa_cons (cv 0) (pa_cons pe_int pa_nil))) pe_int) pa_nil))))) pss_nil)
    (pss_cons (ps_if (t_cmp (op_eqC hr.units) (cv 1) pe_int) (pss_one (ps_ret (pe_tup (pa_cons pe_str (pa_cons (pe_op op_addC pe_int (e_call h_L_draw hr (pa_cons (cv 0) (pa_cons pe_int pa_nil)))) pa_nil))))) pss_nil)
    (pss_cons (ps_if (t_cmp (op_eqC hr.units) (cv 1) pe_int) (pss_one (ps_ret (pe_tup (pa_cons pe_str (pa_cons (pe_op op_subC (e_call h_L_draw hr (pa_cons (cv 0) (pa_cons pe_int pa_nil))) pe_int) pa_nil))))) pss_nil)
    (pss_cons (ps_if (t_cmp op_ltC (cv 1) pe_int) (pss_one (ps_ret (pe_tup (pa_cons (e_ix (pe_tup (pa_cons pe_str (pa_cons pe_str pa_nil))) (pe_op op_subC (cv 1) pe_int)) (pa_cons (pe_op op_subC (e_call h_L_draw hr (pa_cons (cv 0) (pa_cons pe_int pa_nil))) pe_int) (pa_cons (pe_op op_subC (e_call h_L_draw hr (pa_cons (cv 0) (pa_cons pe_int pa_nil))) pe_int) pa_nil)))))) pss_nil)
    (pss_one (ps_ret (pe_tup (pa_cons (e_ix (pe_tup (pa_cons pe_str (pa_cons pe_str (pa_cons pe_str (pa_cons pe_str pa_nil))))) (pe_op op_subC (cv 1) pe_int)) pa_nil)))))))))
abbrev s_L_any_matrix : Stmt := top 26
theorem sc_L_any_matrix : FnScope ["_law_pool_here", "_law_wide", "_law_matrix", "_law_k", "_law_number_here"] ["_law_pool_here"] (defScope s_L_any_matrix) := ⟨rfl, rfl, rfl, by decide +kernel, rfl, by decide +kernel, by decide +kernel⟩
theorem d_L_any_matrix {f_L_draw : Sp} (h_L_draw : Ok P w K mg base 1 "_law_draw" ["_law_pool_here", "_law_many"] f_L_draw) (n_range : mg "range" = none) {f_L_number : Sp} (h_L_number : Ok P w K mg base 2 "_law_number" ["_law_pool_here"] f_L_number) {cdv : Value} {A : Around} {outer : List Env} {s : Shared} {H : Hp} {E : XK} (hr : Room 2 (A.deeper (envOfC "_law_any_matrix" (defScope s_L_any_matrix) s.heap.objs.size (He.ga K "_law_any_matrix") cdv))) :
    PSs (cxOf CX0 P w K mg base ["_law_pool_here", "_law_wide", "_law_matrix", "_law_k", "_law_number_here"] "_law_any_matrix" (defScope s_L_any_matrix) (He.ga K "_law_any_matrix") cdv A outer s H E).nox (defBody s_L_any_matrix) (t_L_any_matrix K f_L_draw f_L_number) := by
  have nd : (["_law_pool_here", "_law_wide", "_law_matrix", "_law_k", "_law_number_here"] : List Str).Nodup := sc_L_any_matrix.nd
  exact (pss_cons (ps_set (i := 1) nd rfl (.inl rfl) (e_call h_L_draw hr (pa_cons (cv 0) (pa_cons pe_int pa_nil))))
    (pss_cons (ps_set (i := 2) nd rfl (.inl rfl) (pe_lst pa_nil))
    (pss_cons (ps_for PassesOwn.never rfl (pi_range1 (by rfl) n_range (pa_cons pe_int pa_nil)) (pg_name (i := 3) nd rfl (.inl rfl)) (pss_cons (ps_set (i := 4) nd rfl (.inl rfl) pe_int)
    (pss_cons (ps_if (t_cmp (op_eqC hr.units) (e_call h_L_draw hr (pa_cons (cv 0) (pa_cons pe_int pa_nil))) pe_int) (pss_cons (ps_set (i := 4) nd rfl (.inl rfl) (pe_op op_subC (e_call h_L_draw hr (pa_cons (cv 0) (pa_cons pe_int pa_nil))) pe_int))
    (pss_one (ps_if (t_cmp (op_eqC hr.units) (cv 1) pe_int) (pss_one (ps_set (i := 4) nd rfl (.inl rfl) (e_call h_L_number hr (pa_cons (cv 0) pa_nil)))) pss_nil))) pss_nil)
    (pss_one (ps_expr (pe_bm PySem.F.plainAttrs_list PySem.F.slot_list_append PySem.F.type_list_append mt_appendC (cv 2) (pa_cons (cv 4) pa_nil)))))))
    (pss_one (ps_ret (cv 2))))))
abbrev s_L_odd : Stmt := top 27
theorem sc_L_odd : FnScope ["_law_pool_here"] ["_law_pool_here"] (defScope s_L_odd) := ⟨rfl, rfl, rfl, by decide +kernel, rfl, by decide +kernel, by decide +kernel⟩
theorem d_L_odd {f_L_draw : Sp} (h_L_draw : Ok P w K mg base 1 "_law_draw" ["_law_pool_here", "_law_many"] f_L_draw) {cdv : Value} {A : Around} {outer : List Env} {s : Shared} {H : Hp} {E : XK} (hr : Room 1 (A.deeper (envOfC "_law_odd" (defScope s_L_odd) s.heap.objs.size (He.ga K "_law_odd") cdv))) :
    PSs (cxOf CX0 P w K mg base ["_law_pool_here"] "_law_odd" (defScope s_L_odd) (He.ga K "_law_odd") cdv A outer s H E).nox (defBody s_L_odd) (t_L_odd K f_L_draw) := by
  have nd : (["_law_pool_here"] : List Str).Nodup := sc_L_odd.nd
  exact (pss_one (ps_ret (e_ix (pe_tup (pa_cons pe_bl (pa_cons pe_non (pa_cons pe_str (pa_cons (pe_tup (pa_cons pe_int pa_nil)) (pa_cons (pe_lst (pa_cons pe_int pa_nil)) (pa_cons pe_bl (pa_cons pe_str pa_nil)))))))) (e_call h_L_draw hr (pa_cons (cv 0) (pa_cons pe_int pa_nil))))))
abbrev s_L_bad_pen : Stmt := top 28
theorem sc_L_bad_pen : FnScope ["_law_pool_here", "_law_begin", "_law_kind", "_law_at", "_law_k"] ["_law_pool_here"] (defScope s_L_bad_pen) := ⟨rfl, rfl, rfl, by decide +kernel, rfl, by decide +kernel, by decide +kernel⟩
theorem d_L_bad_pen (n_range : mg "range" = none) {f_L_number : Sp} (h_L_number : Ok P w K mg base 2 "_law_number" ["_law_pool_here"] f_L_number) {f_L_draw : Sp} (h_L_draw : Ok P w K mg base 1 "_law_draw" ["_law_pool_here", "_law_many"] f_L_draw) {f_L_odd : Sp} (h_L_odd : Ok P w K mg base 2 "_law_odd" ["_law_pool_here"] f_L_odd) (n_tuple : mg "tuple" = none) {cdv : Value} {A : Around} {outer : List Env} {s : Shared} {H : Hp} {E : XK} (hr : Room 2 (A.deeper (envOfC "_law_bad_pen" (defScope s_L_bad_pen) s.heap.objs.size (He.ga K "_law_bad_pen") cdv))) :
    PSs (cxOf CX0 P w K mg base ["_law_pool_here", "_law_begin", "_law_kind", "_law_at", "_law_k"] "_law_bad_pen" (defScope s_L_bad_pen) (He.ga K "_law_bad_pen") cdv A outer s H E).nox (defBody s_L_bad_pen) (t_L_bad_pen K f_L_number f_L_draw f_L_odd) := by
  have nd : (["_law_pool_here", "_law_begin", "_law_kind", "_law_at", "_law_k"] : List Str).Nodup := sc_L_bad_pen.nd
  exact (pss_cons (ps_setLc (i := 1) (own := [("_law_k", 4)]) (g := (gName 4)) rfl nd rfl rfl (sw_true rfl rfl rfl (by decide +kernel)) (pi_range1 (by rfl) n_range (pa_cons pe_int pa_nil)) (blkOk_by (own := [("_law_k", 4)]) (N := ["_law_pool_here", "_law_begin", "_law_kind", "_law_at", "_law_k"]) (sc := defScope s_L_bad_pen) (by decide +kernel)) (fun _ _ _ _ _ => (pg_name (i := 4) nd rfl (.inl rfl))) (fun _ _ _ _ _ => pts_nil) (fun _ _ _ _ _ => (e_call h_L_number hr (pa_cons (cv 0) pa_nil))))
    (pss_cons (ps_set (i := 2) nd rfl (.inl rfl) (e_call h_L_draw hr (pa_cons (cv 0) (pa_cons pe_int pa_nil))))
    (pss_cons (ps_if (t_cmp (op_eqC hr.units) (cv 2) pe_int) (pss_one (ps_ret (cv 1))) pss_nil)
    (pss_cons (ps_if (t_cmp (op_eqC hr.units) (cv 2) pe_int) (pss_one (ps_expr (pe_bm PySem.F.plainAttrs_list PySem.F.slot_list_append PySem.F.type_list_append mt_appendC (cv 1) (pa_cons pe_int pa_nil)))) (pss_one (ps_if (t_cmp (op_eqC hr.units) (cv 2) pe_int) (pss_one (ps_expr (pe_bm0 PySem.F.plainAttrs_list PySem.F.slot_list_pop PySem.F.type_list_pop mt_popC (cv 1)))) (pss_cons (ps_set (i := 3) nd rfl (.inl rfl) (e_call h_L_draw hr (pa_cons (cv 0) (pa_cons pe_int pa_nil))))
    (pss_one (ps_asg (e_call h_L_odd hr (pa_cons (cv 0) pa_nil)) (pg_sub (cv 1) (cv 3) set_listC)))))))
    (pss_one (ps_ret (e_tuple n_tuple (cv 1))))))))
abbrev s_L_bad_command : Stmt := top 29
theorem sc_L_bad_command : FnScope ["_law_pool_here", "_law_command", "_law_kind", "_law_at", "_law_wrong", "_law_far"] ["_law_pool_here"] (defScope s_L_bad_command) := ⟨rfl, rfl, rfl, by decide +kernel, rfl, by decide +kernel, by decide +kernel⟩
theorem d_L_bad_command (n_list : mg "list" = none) {f_L_any_command : Sp} (h_L_any_command : Ok P w K mg base 2 "_law_any_command" ["_law_pool_here"] f_L_any_command) {f_L_draw : Sp} (h_L_draw : Ok P w K mg base 1 "_law_draw" ["_law_pool_here", "_law_many"] f_L_draw) (n_tuple : mg "tuple" = none) (n_len : mg "len" = none) {f_L_odd : Sp} (h_L_odd : Ok P w K mg base 2 "_law_odd" ["_law_pool_here"] f_L_odd) {cdv : Value} {A : Around} {outer : List Env} {s : Shared} {H : Hp} {E : XK} (hr : Room 2 (A.deeper (envOfC "_law_bad_command" (defScope s_L_bad_command) s.heap.objs.size (He.ga K "_law_bad_command") cdv))) :
    PSs (cxOf CX0 P w K mg base ["_law_pool_here", "_law_command", "_law_kind", "_law_at", "_law_wrong", "_law_far"] "_law_bad_command" (defScope s_L_bad_command) (He.ga K "_law_bad_command") cdv A outer s H E).nox (defBody s_L_bad_command) (t_L_bad_command K f_L_any_command f_L_draw f_L_odd) := by
  have nd : (["_law_pool_here", "_law_command", "_law_kind", "_law_at", "_law_wrong", "_law_far"] : List Str).Nodup := sc_L_bad_command.nd
  exact (pss_cons (ps_set (i := 1) nd rfl (.inl rfl) (e_list n_list (e_call h_L_any_command hr (pa_cons (cv 0) pa_nil))))
    (pss_cons (ps_set (i := 2) nd rfl (.inl rfl) (e_call h_L_draw hr (pa_cons (cv 0) (pa_cons pe_int pa_nil))))
    (pss_cons (ps_if (t_cmp (op_eqC hr.units) (cv 2) pe_int) (pss_one (ps_ret (cv 1))) pss_nil)
    (pss_cons (ps_if (t_cmp (op_eqC hr.units) (cv 2) pe_int) (pss_cons (ps_expr (pe_bm PySem.F.plainAttrs_list PySem.F.slot_list_append PySem.F.type_list_append mt_appendC (cv 1) (pa_cons pe_int pa_nil)))
    (pss_one (ps_ret (e_tuple n_tuple (cv 1))))) pss_nil)
    (pss_cons (ps_if (t_cmp (op_eqC hr.units) (cv 2) pe_int) (pss_cons (ps_set (i := 3) nd rfl (.inl rfl) (e_call h_L_draw hr (pa_cons (cv 0) (pa_cons (e_len n_len (cv 1)) pa_nil))))
    (pss_cons (ps_asg (e_call h_L_odd hr (pa_cons (cv 0) pa_nil)) (pg_sub (cv 1) (cv 3) set_listC))
    (pss_one (ps_ret (e_tuple n_tuple (cv 1)))))) pss_nil)
    (pss_cons (ps_if (t_cmp (op_eqC hr.units) (cv 2) pe_int) (pss_cons (ps_set (i := 4) nd rfl (.inl rfl) (pe_lst (pa_cons (pe_tup (pa_cons pe_str (pa_cons pe_int pa_nil))) (pa_cons (pe_tup (pa_cons pe_str (pa_cons (pe_un un_negC pe_int) pa_nil))) (pa_cons (pe_tup (pa_cons pe_str (pa_cons pe_int pa_nil))) (pa_cons (pe_tup (pa_cons pe_str (pa_cons pe_int pa_nil))) (pa_cons (pe_tup (pa_cons pe_str (pa_cons (pe_un un_negC pe_int) pa_nil))) (pa_cons (pe_tup (pa_cons pe_str (pa_cons pe_int pa_nil))) (pa_cons (pe_tup (pa_cons pe_str (pa_cons (pe_un un_negC pe_int) pa_nil))) pa_nil)))))))))
    (pss_cons (ps_set (i := 4) nd rfl (.inl rfl) (pe_op op_addC (cv 4) (pe_lst (pa_cons (pe_tup (pa_cons pe_str (pa_cons pe_int (pa_cons pe_int pa_nil)))) (pa_cons (pe_tup (pa_cons pe_str (pa_cons pe_int (pa_cons (pe_un un_negC pe_int) pa_nil)))) (pa_cons (pe_tup (pa_cons pe_str (pa_cons (pe_un un_negC pe_int) (pa_cons pe_int pa_nil)))) (pa_cons (pe_tup (pa_cons pe_str (pa_cons pe_int (pa_cons pe_int pa_nil)))) (pa_cons (pe_tup (pa_cons pe_str pa_nil)) (pa_cons (pe_tup (pa_cons pe_str (pa_cons pe_int pa_nil))) pa_nil)))))))))
    (pss_one (ps_ret (e_ix (cv 4) (e_call h_L_draw hr (pa_cons (cv 0) (pa_cons pe_int pa_nil)))))))) pss_nil)
    (pss_cons (ps_if (t_cmp (op_eqC hr.units) (cv 2) pe_int) (pss_one (ps_ret (e_ix (pe_tup (pa_cons (pe_tup pa_nil) (pa_cons pe_non (pa_cons pe_str (pa_cons pe_int (pa_cons (pe_tup (pa_cons pe_str (pa_cons (pe_lst pa_nil) pa_nil))) (pa_cons (pe_tup (pa_cons pe_str (pa_cons pe_int pa_nil))) (pa_cons (pe_tup (pa_cons pe_str pa_nil)) (pa_cons (pe_tup (pa_cons pe_str pa_nil)) (pa_cons pe_dnewK pa_nil)))))))))) (e_call h_L_draw hr (pa_cons (cv 0) (pa_cons pe_int pa_nil)))))) pss_nil)
    (pss_cons (ps_set (i := 5) nd rfl (.inl rfl) (pe_op op_addC (pe_op op_powC pe_int pe_int) (e_call h_L_draw hr (pa_cons (cv 0) (pa_cons pe_int pa_nil)))))
    (pss_one (ps_ret (pe_tup (pa_cons (e_ix (pe_tup (pa_cons pe_str (pa_cons pe_str (pa_cons pe_str (pa_cons pe_str (pa_cons pe_str pa_nil)))))) (e_call h_L_draw hr (pa_cons (cv 0) (pa_cons pe_int pa_nil)))) (pa_cons (cv 5) (pa_cons pe_int pa_nil))))))))))))))
abbrev s_L_moved : Stmt := top 30
theorem sc_L_moved : FnScope ["_law_begin", "_law_command", "_law_answer"] ["_law_begin", "_law_command"] (defScope s_L_moved) := ⟨rfl, rfl, rfl, by decide +kernel, rfl, by decide +kernel, by decide +kernel⟩
theorem d_L_moved {f_movedX : Sp} (h_movedX : OkX P w K mg base 4 "moved" ["pen", "command"] f_movedX) (x_NoCommand : XcF K mg "NoCommand") (x_NoPen : XcF K mg "NoPen") {cdv : Value} {A : Around} {outer : List Env} {s : Shared} {H : Hp} {E : XK} (hr : Room 4 (A.deeper (envOfC "_law_moved" (defScope s_L_moved) s.heap.objs.size (He.ga K "_law_moved") cdv))) :
    PSs (cxOf CX0 P w K mg base ["_law_begin", "_law_command", "_law_answer"] "_law_moved" (defScope s_L_moved) (He.ga K "_law_moved") cdv A outer s H E).nox (defBody s_L_moved) (t_L_moved K f_movedX) := by
  have nd : (["_law_begin", "_law_command", "_law_answer"] : List Str).Nodup := sc_L_moved.nd
  exact (pss_cons (ps_try_many rfl rfl takes0 (fun W pn xe tk po => (pss_one (ps_set (i := 2) nd rfl (.inl rfl) (e_callW h_movedX hr tk (pa_cons (cv 0) (pa_cons (cv 1) pa_nil)))))) (.cons ⟨rfl, by decide, .inl x_NoPen.glo⟩ (fun _ _ _ _ _ _ _ => (pss_one (ps_ret (pe_tup (pa_cons pe_str (pa_cons pe_non pa_nil)))))) (.cons ⟨rfl, by decide, .inl x_NoCommand.glo⟩ (fun _ _ _ _ _ _ _ => (pss_one (ps_ret (pe_tup (pa_cons pe_str (pa_cons pe_non pa_nil)))))) .nil)))
    (pss_one (ps_ret (pe_tup (pa_cons pe_str (pa_cons (cv 2) pa_nil))))))
abbrev s_L_vector : Stmt := top 31
theorem sc_L_vector : FnScope ["_law_begin", "_law_answer"] ["_law_begin"] (defScope s_L_vector) := ⟨rfl, rfl, rfl, by decide +kernel, rfl, by decide +kernel, by decide +kernel⟩
theorem d_L_vector {f_vectorX : Sp} (h_vectorX : OkX P w K mg base 3 "vector" ["pen"] f_vectorX) (x_NoPen : XcF K mg "NoPen") {cdv : Value} {A : Around} {outer : List Env} {s : Shared} {H : Hp} {E : XK} (hr : Room 3 (A.deeper (envOfC "_law_vector" (defScope s_L_vector) s.heap.objs.size (He.ga K "_law_vector") cdv))) :
    PSs (cxOf CX0 P w K mg base ["_law_begin", "_law_answer"] "_law_vector" (defScope s_L_vector) (He.ga K "_law_vector") cdv A outer s H E).nox (defBody s_L_vector) (t_L_vector K f_vectorX) := by
  have nd : (["_law_begin", "_law_answer"] : List Str).Nodup := sc_L_vector.nd
  exact (pss_cons (ps_try_many rfl rfl takes0 (fun W pn xe tk po => (pss_one (ps_set (i := 1) nd rfl (.inl rfl) (e_callW h_vectorX hr tk (pa_cons (cv 0) pa_nil))))) (.cons ⟨rfl, by decide, .inl x_NoPen.glo⟩ (fun _ _ _ _ _ _ _ => (pss_one (ps_ret (pe_tup (pa_cons pe_str (pa_cons pe_non pa_nil)))))) .nil))
    (pss_one (ps_ret (pe_tup (pa_cons pe_str (pa_cons (cv 1) pa_nil))))))
abbrev s_L_applied : Stmt := top 32
theorem sc_L_applied : FnScope ["_law_matrix", "_law_begin", "_law_answer"] ["_law_matrix", "_law_begin"] (defScope s_L_applied) := ⟨rfl, rfl, rfl, by decide +kernel, rfl, by decide +kernel, by decide +kernel⟩
theorem d_L_applied {f_appliedX : Sp} (h_appliedX : OkX P w K mg base 4 "applied" ["matrix", "pen"] f_appliedX) (x_NoPen : XcF K mg "NoPen") {cdv : Value} {A : Around} {outer : List Env} {s : Shared} {H : Hp} {E : XK} (hr : Room 4 (A.deeper (envOfC "_law_applied" (defScope s_L_applied) s.heap.objs.size (He.ga K "_law_applied") cdv))) :
    PSs (cxOf CX0 P w K mg base ["_law_matrix", "_law_begin", "_law_answer"] "_law_applied" (defScope s_L_applied) (He.ga K "_law_applied") cdv A outer s H E).nox (defBody s_L_applied) (t_L_applied K f_appliedX) := by
  have nd : (["_law_matrix", "_law_begin", "_law_answer"] : List Str).Nodup := sc_L_applied.nd
  exact (pss_cons (ps_try_many rfl rfl takes0 (fun W pn xe tk po => (pss_one (ps_set (i := 2) nd rfl (.inl rfl) (e_callW h_appliedX hr tk (pa_cons (cv 0) (pa_cons (cv 1) pa_nil)))))) (.cons ⟨rfl, by decide, .inl x_NoPen.glo⟩ (fun _ _ _ _ _ _ _ => (pss_one (ps_ret (pe_tup (pa_cons pe_str (pa_cons pe_non pa_nil)))))) .nil))
    (pss_one (ps_ret (pe_tup (pa_cons pe_str (pa_cons (cv 2) pa_nil))))))
abbrev s_L_matrix_of : Stmt := top 33
theorem sc_L_matrix_of : FnScope ["_law_command", "_law_answer"] ["_law_command"] (defScope s_L_matrix_of) := ⟨rfl, rfl, rfl, by decide +kernel, rfl, by decide +kernel, by decide +kernel⟩
theorem d_L_matrix_of {f_matrix_ofX : Sp} (h_matrix_ofX : OkX P w K mg base 3 "matrix_of" ["command"] f_matrix_ofX) (x_NoCommand : XcF K mg "NoCommand") {cdv : Value} {A : Around} {outer : List Env} {s : Shared} {H : Hp} {E : XK} (hr : Room 3 (A.deeper (envOfC "_law_matrix_of" (defScope s_L_matrix_of) s.heap.objs.size (He.ga K "_law_matrix_of") cdv))) :
    PSs (cxOf CX0 P w K mg base ["_law_command", "_law_answer"] "_law_matrix_of" (defScope s_L_matrix_of) (He.ga K "_law_matrix_of") cdv A outer s H E).nox (defBody s_L_matrix_of) (t_L_matrix_of K f_matrix_ofX) := by
  have nd : (["_law_command", "_law_answer"] : List Str).Nodup := sc_L_matrix_of.nd
  exact (pss_cons (ps_try_many rfl rfl takes0 (fun W pn xe tk po => (pss_one (ps_set (i := 1) nd rfl (.inl rfl) (e_callW h_matrix_ofX hr tk (pa_cons (cv 0) pa_nil))))) (.cons ⟨rfl, by decide, .inl x_NoCommand.glo⟩ (fun _ _ _ _ _ _ _ => (pss_one (ps_ret (pe_tup (pa_cons pe_str (pa_cons pe_non pa_nil)))))) .nil))
    (pss_one (ps_ret (pe_tup (pa_cons pe_str (pa_cons (cv 1) pa_nil))))))
abbrev s_law_k02 : Stmt := top 34
theorem sc_law_k02 : FnScope ["_law_script", "_law_pool_here", "_law_step", "_law_begin", "_law_command", "_law_bad_pen_here", "_law_bad_command_here", "_law_matrix", "_law_due"] ["_law_script"] (defScope s_law_k02) := ⟨rfl, rfl, rfl, by decide +kernel, rfl, by decide +kernel, by decide +kernel⟩
theorem d_law_k02 {f_L_pool : Sp} (h_L_pool : Ok P w K mg base 1 "_law_pool" ["_law_script"] f_L_pool) (n_range : mg "range" = none) (n_len : mg "len" = none) {f_L_pen : Sp} (h_L_pen : Ok P w K mg base 3 "_law_pen" ["_law_pool_here"] f_L_pen) {f_L_any_command : Sp} (h_L_any_command : Ok P w K mg base 2 "_law_any_command" ["_law_pool_here"] f_L_any_command) {f_L_bad_pen : Sp} (h_L_bad_pen : Ok P w K mg base 3 "_law_bad_pen" ["_law_pool_here"] f_L_bad_pen) {f_L_bad_command : Sp} (h_L_bad_command : Ok P w K mg base 3 "_law_bad_command" ["_law_pool_here"] f_L_bad_command) {f_L_any_matrix : Sp} (h_L_any_matrix : Ok P w K mg base 3 "_law_any_matrix" ["_law_pool_here"] f_L_any_matrix) {f_L_move : Sp} (h_L_move : Ok P w K mg base 1 "_law_move" ["_law_begin", "_law_command"] f_L_move) {f_L_moved : Sp} (h_L_moved : Ok P w K mg base 5 "_law_moved" ["_law_begin", "_law_command"] f_L_moved) {f_L_vector : Sp} (h_L_vector : Ok P w K mg base 4 "_law_vector" ["_law_begin"] f_L_vector) (n_list : mg "list" = none) {f_L_applied : Sp} (h_L_applied : Ok P w K mg base 5 "_law_applied" ["_law_matrix", "_law_begin"] f_L_applied) {f_L_matrix_of : Sp} (h_L_matrix_of : Ok P w K mg base 4 "_law_matrix_of" ["_law_command"] f_L_matrix_of) {f_L_image : Sp} (h_L_image : Ok P w K mg base 1 "_law_image" ["_law_matrix", "_law_begin"] f_L_image) {f_L_probe : Sp} (h_L_probe : Ok P w K mg base 3 "_law_probe" ["_law_deeds"] f_L_probe) {cdv : Value} {A : Around} {outer : List Env} {s : Shared} {H : Hp} {E : XK} (hr : Room 5 (A.deeper (envOfC "law" (defScope s_law_k02) s.heap.objs.size (He.ga K "law") cdv))) :
    PSs (cxOf CX0 P w K mg base ["_law_script", "_law_pool_here", "_law_step", "_law_begin", "_law_command", "_law_bad_pen_here", "_law_bad_command_here", "_law_matrix", "_law_due"] "law" (defScope s_law_k02) (He.ga K "law") cdv A outer s H E).nox (defBody s_law_k02) (t_law_k02 K f_L_pool f_L_pen f_L_any_command f_L_bad_pen f_L_bad_command f_L_any_matrix f_L_move f_L_moved f_L_vector f_L_applied f_L_matrix_of f_L_image f_L_probe) := by
  have nd : (["_law_script", "_law_pool_here", "_law_step", "_law_begin", "_law_command", "_law_bad_pen_here", "_law_bad_command_here", "_law_matrix", "_law_due"] : List Str).Nodup := sc_law_k02.nd
  exact (pss_cons (ps_set (i := 1) nd rfl (.inl rfl) (e_call h_L_pool hr (pa_cons (cv 0) pa_nil)))
    (pss_cons (ps_for PassesOwn.never rfl (pi_range1 (by rfl) n_range (pa_cons (pe_op op_addC pe_int (pe_op op_fdivC (e_len n_len (cv 1)) pe_int)) pa_nil)) (pg_name (i := 2) nd rfl (.inl rfl)) (pss_cons (ps_set (i := 3) nd rfl (.inl rfl) (e_call h_L_pen hr (pa_cons (cv 1) pa_nil)))
    (pss_cons (ps_set (i := 4) nd rfl (.inl rfl) (e_call h_L_any_command hr (pa_cons (cv 1) pa_nil)))
    (pss_cons (ps_set (i := 5) nd rfl (.inl rfl) (e_call h_L_bad_pen hr (pa_cons (cv 1) pa_nil)))
    (pss_cons (ps_set (i := 6) nd rfl (.inl rfl) (e_call h_L_bad_command hr (pa_cons (cv 1) pa_nil)))
    (pss_cons (ps_set (i := 7) nd rfl (.inl rfl) (e_call h_L_any_matrix hr (pa_cons (cv 1) pa_nil)))
    (pss_cons (ps_set (i := 8) nd rfl (.inl rfl) (e_call h_L_move hr (pa_cons (cv 3) (pa_cons (cv 4) pa_nil))))
    (pss_cons (ps_if (PW.pt (pw_or (t_cmp (op_neC hr.units) (e_ix (e_call h_L_moved hr (pa_cons (cv 5) (pa_cons (cv 4) pa_nil))) pe_int) pe_str) (pw_or1 (t_cmp (op_neC hr.units) (e_ix (e_call h_L_moved hr (pa_cons (cv 5) (pa_cons (cv 6) pa_nil))) pe_int) pe_str)))) (pss_one (ps_ret pe_bl)) pss_nil)
    (pss_cons (ps_if (PW.pt (pw_or (t_cmp (op_neC hr.units) (e_ix (e_call h_L_moved hr (pa_cons (cv 3) (pa_cons (cv 6) pa_nil))) pe_int) pe_str) (pw_or1 (t_cmp (op_neC hr.units) (e_call h_L_moved hr (pa_cons (cv 3) (pa_cons (cv 4) pa_nil))) (pe_tup (pa_cons pe_str (pa_cons (cv 8) pa_nil))))))) (pss_one (ps_ret pe_bl)) pss_nil)
    (pss_cons (ps_if (PW.pt (pw_or (t_cmp (op_neC hr.units) (e_ix (e_call h_L_vector hr (pa_cons (cv 5) pa_nil)) pe_int) pe_str) (pw_or1 (t_cmp (op_neC hr.units) (e_call h_L_vector hr (pa_cons (cv 3) pa_nil)) (pe_tup (pa_cons pe_str (pa_cons (pe_op op_addC (pe_lst (pa_cons pe_int pa_nil)) (e_list n_list (cv 3))) pa_nil))))))) (pss_one (ps_ret pe_bl)) pss_nil)
    (pss_cons (ps_if (PW.pt (pw_or (t_cmp (op_neC hr.units) (e_ix (e_call h_L_applied hr (pa_cons (e_list n_list (cv 7)) (pa_cons (cv 5) pa_nil))) pe_int) pe_str) (pw_or1 (t_cmp (op_neC hr.units) (e_ix (e_call h_L_matrix_of hr (pa_cons (cv 6) pa_nil)) pe_int) pe_str)))) (pss_one (ps_ret pe_bl)) pss_nil)
    (pss_cons (ps_if (t_cmp (op_neC hr.units) (e_call h_L_applied hr (pa_cons (e_list n_list (cv 7)) (pa_cons (cv 3) pa_nil))) (pe_tup (pa_cons pe_str (pa_cons (e_call h_L_image hr (pa_cons (cv 7) (pa_cons (cv 3) pa_nil))) pa_nil)))) (pss_one (ps_ret pe_bl)) pss_nil)
    (pss_one (ps_if (t_cmp (op_neC hr.units) (e_call h_L_matrix_of hr (pa_cons (cv 4) pa_nil)) (pe_tup (pa_cons pe_str (pa_cons (e_call h_L_probe hr (pa_cons (pe_lst (pa_cons (cv 4) pa_nil)) pa_nil)) pa_nil)))) (pss_one (ps_ret pe_bl)) pss_nil))))))))))))))
    (pss_one (ps_ret pe_bl))))
end
end PH

namespace PH
open PySem PySem.Spec PyProof.Rows L2
structure Txt (w : World) (K : PySem.W.Frag) (mg : Str → Option Value) : Prop where
  n_int : mg "int" = none
  n_range : mg "range" = none
  n_len : mg "len" = none
  n_tuple : mg "tuple" = none
  n_list : mg "list" = none
  n_isinstance : mg "isinstance" = none
  n_all : mg "all" = none
  n_bool : mg "bool" = none
  x_NoPen : XcF K mg "NoPen"
  n_str : mg "str" = none
  k_LIMITS : ∃ es n, KDict K w (He.ga K "LIMITS") es n
  g_LIMITS : mg "LIMITS" = some (.ref (He.ga K "LIMITS"))
  x_NoCommand : XcF K mg "NoCommand"
  n_sum : mg "sum" = none
  g_L_pool : mg "_law_pool" = some (.ref (He.ga K "_law_pool"))
  f_L_pool : FnP K "_law_pool" s_L_pool
  g_L_draw : mg "_law_draw" = some (.ref (He.ga K "_law_draw"))
  f_L_draw : FnP K "_law_draw" s_L_draw
  g_L_number : mg "_law_number" = some (.ref (He.ga K "_law_number"))
  f_L_number : FnP K "_law_number" s_L_number
  g_L_pen : mg "_law_pen" = some (.ref (He.ga K "_law_pen"))
  f_L_pen : FnP K "_law_pen" s_L_pen
  g_L_any_command : mg "_law_any_command" = some (.ref (He.ga K "_law_any_command"))
  f_L_any_command : FnP K "_law_any_command" s_L_any_command
  g_L_odd : mg "_law_odd" = some (.ref (He.ga K "_law_odd"))
  f_L_odd : FnP K "_law_odd" s_L_odd
  g_L_bad_pen : mg "_law_bad_pen" = some (.ref (He.ga K "_law_bad_pen"))
  f_L_bad_pen : FnP K "_law_bad_pen" s_L_bad_pen
  g_L_bad_command : mg "_law_bad_command" = some (.ref (He.ga K "_law_bad_command"))
  f_L_bad_command : FnP K "_law_bad_command" s_L_bad_command
  g_L_any_matrix : mg "_law_any_matrix" = some (.ref (He.ga K "_law_any_matrix"))
  f_L_any_matrix : FnP K "_law_any_matrix" s_L_any_matrix
  g_L_move : mg "_law_move" = some (.ref (He.ga K "_law_move"))
  f_L_move : FnP K "_law_move" s_L_move
  g_is_integer : mg "is_integer" = some (.ref (He.ga K "is_integer"))
  f_is_integer : FnP K "is_integer" s_is_integer
  g_is_pen : mg "is_pen" = some (.ref (He.ga K "is_pen"))
  f_is_pen : FnP K "is_pen" s_is_pen
  g_check_penX : mg "check_pen" = some (.ref (He.ga K "check_pen"))
  f_check_penX : FnP K "check_pen" s_check_penX
  g_is_command : mg "is_command" = some (.ref (He.ga K "is_command"))
  f_is_command : FnP K "is_command" s_is_command
  g_executed : mg "executed" = some (.ref (He.ga K "executed"))
  f_executed : FnP K "executed" s_executed
  g_movedX : mg "moved" = some (.ref (He.ga K "moved"))
  f_movedX : FnP K "moved" s_movedX
  g_L_moved : mg "_law_moved" = some (.ref (He.ga K "_law_moved"))
  f_L_moved : FnP K "_law_moved" s_L_moved
  g_vectorX : mg "vector" = some (.ref (He.ga K "vector"))
  f_vectorX : FnP K "vector" s_vectorX
  g_L_vector : mg "_law_vector" = some (.ref (He.ga K "_law_vector"))
  f_L_vector : FnP K "_law_vector" s_L_vector
  g_appliedX : mg "applied" = some (.ref (He.ga K "applied"))
  f_appliedX : FnP K "applied" s_appliedX
  g_L_applied : mg "_law_applied" = some (.ref (He.ga K "_law_applied"))
  f_L_applied : FnP K "_law_applied" s_L_applied
  g_matrix_ofX : mg "matrix_of" = some (.ref (He.ga K "matrix_of"))
  f_matrix_ofX : FnP K "matrix_of" s_matrix_ofX
  g_L_matrix_of : mg "_law_matrix_of" = some (.ref (He.ga K "_law_matrix_of"))
  f_L_matrix_of : FnP K "_law_matrix_of" s_L_matrix_of
  g_L_image : mg "_law_image" = some (.ref (He.ga K "_law_image"))
  f_L_image : FnP K "_law_image" s_L_image
  g_L_pens : mg "_law_pens" = some (.ref (He.ga K "_law_pens"))
  f_L_pens : FnP K "_law_pens" s_L_pens
  g_L_probe : mg "_law_probe" = some (.ref (He.ga K "_law_probe"))
  f_L_probe : FnP K "_law_probe" s_L_probe
  g_law_k02 : mg "law" = some (.ref (He.ga K "law"))
  f_law_k02 : FnP K "law" s_law_k02
  lim : Lim K
  xm : XM K
section
variable {P : Program} {w : World} {K : PySem.W.Frag} {mg : Str → Option Value} {base : Heap}
theorem ok_L_pool (T : Txt w K mg) : Ok P w K mg base 1 "_law_pool" ["_law_script"] (sp1 (pMkPool K)) :=
  ok_of T.f_L_pool T.g_L_pool sc_L_pool len1 (fun _ _ _ _ _ _ us hl => match us, hl with | [_], _ => rfl) fun cdv A outer s H vs Q E hr hsp => by
    obtain ⟨a, rfl, h⟩ := sp1_e hsp
    exact ⟨_, d_L_pool T.n_int hr, r_L_pool h⟩
theorem ok_L_draw (T : Txt w K mg) : Ok P w K mg base 1 "_law_draw" ["_law_pool_here", "_law_many"] (sp2 pDraw) :=
  ok_of T.f_L_draw T.g_L_draw sc_L_draw len2 (fun _ _ _ _ _ _ us hl => match us, hl with | [_, _], _ => rfl) fun cdv A outer s H vs Q E hr hsp => by
    obtain ⟨a, b, rfl, h⟩ := sp2_e hsp
    exact ⟨_, d_L_draw T.n_int T.n_len hr, r_L_draw h⟩
theorem ok_L_number (T : Txt w K mg) : Ok P w K mg base 2 "_law_number" ["_law_pool_here"] (sp1 pNumber) :=
  ok_of T.f_L_number T.g_L_number sc_L_number len1 (fun _ _ _ _ _ _ us hl => match us, hl with | [_], _ => rfl) fun cdv A outer s H vs Q E hr hsp => by
    obtain ⟨a, rfl, h⟩ := sp1_e hsp
    exact ⟨_, d_L_number (ok_L_draw T) T.n_int T.n_len hr, r_L_number h⟩
theorem ok_L_pen (T : Txt w K mg) : Ok P w K mg base 3 "_law_pen" ["_law_pool_here"] (sp1 pPen) :=
  ok_of T.f_L_pen T.g_L_pen sc_L_pen len1 (fun _ _ _ _ _ _ us hl => match us, hl with | [_], _ => rfl) fun cdv A outer s H vs Q E hr hsp => by
    obtain ⟨a, rfl, h⟩ := sp1_e hsp
    exact ⟨_, d_L_pen T.n_range (ok_L_number T) hr, r_L_pen h⟩
theorem ok_L_any_command (T : Txt w K mg) : Ok P w K mg base 2 "_law_any_command" ["_law_pool_here"] (sp1 pAnyCmd) :=
  ok_of T.f_L_any_command T.g_L_any_command sc_L_any_command len1 (fun _ _ _ _ _ _ us hl => match us, hl with | [_], _ => rfl) fun cdv A outer s H vs Q E hr hsp => by
    obtain ⟨a, rfl, h⟩ := sp1_e hsp
    exact ⟨_, d_L_any_command (ok_L_draw T) hr, r_L_any_command h⟩
theorem ok_L_odd (T : Txt w K mg) : Ok P w K mg base 2 "_law_odd" ["_law_pool_here"] (sp1 (pOdd K)) :=
  ok_of T.f_L_odd T.g_L_odd sc_L_odd len1 (fun _ _ _ _ _ _ us hl => match us, hl with | [_], _ => rfl) fun cdv A outer s H vs Q E hr hsp => by
    obtain ⟨a, rfl, h⟩ := sp1_e hsp
    exact ⟨_, d_L_odd (ok_L_draw T) hr, r_L_odd h⟩
theorem ok_L_bad_pen (T : Txt w K mg) : Ok P w K mg base 3 "_law_bad_pen" ["_law_pool_here"] (sp1 (pBad BadPen K)) :=
  ok_of T.f_L_bad_pen T.g_L_bad_pen sc_L_bad_pen len1 (fun _ _ _ _ _ _ us hl => match us, hl with | [_], _ => rfl) fun cdv A outer s H vs Q E hr hsp => by
    obtain ⟨a, rfl, h⟩ := sp1_e hsp
    exact ⟨_, d_L_bad_pen T.n_range (ok_L_number T) (ok_L_draw T) (ok_L_odd T) T.n_tuple hr, r_L_bad_pen h⟩
theorem ok_L_bad_command (T : Txt w K mg) : Ok P w K mg base 3 "_law_bad_command" ["_law_pool_here"] (sp1 (pBad BadCmd K)) :=
  ok_of T.f_L_bad_command T.g_L_bad_command sc_L_bad_command len1 (fun _ _ _ _ _ _ us hl => match us, hl with | [_], _ => rfl) fun cdv A outer s H vs Q E hr hsp => by
    obtain ⟨a, rfl, h⟩ := sp1_e hsp
    exact ⟨_, d_L_bad_command T.n_list (ok_L_any_command T) (ok_L_draw T) T.n_tuple T.n_len (ok_L_odd T) hr, r_L_bad_command h⟩
theorem ok_L_any_matrix (T : Txt w K mg) : Ok P w K mg base 3 "_law_any_matrix" ["_law_pool_here"] (sp1 pAnyMatrix) :=
  ok_of T.f_L_any_matrix T.g_L_any_matrix sc_L_any_matrix len1 (fun _ _ _ _ _ _ us hl => match us, hl with | [_], _ => rfl) fun cdv A outer s H vs Q E hr hsp => by
    obtain ⟨a, rfl, h⟩ := sp1_e hsp
    exact ⟨_, d_L_any_matrix (ok_L_draw T) T.n_range (ok_L_number T) hr, r_L_any_matrix h⟩
theorem ok_L_move (T : Txt w K mg) : Ok P w K mg base 1 "_law_move" ["_law_begin", "_law_command"] (sp2 (pRun K)) :=
  ok_of T.f_L_move T.g_L_move sc_L_move len2 (fun _ _ _ _ _ _ us hl => match us, hl with | [_, _], _ => rfl) fun cdv A outer s H vs Q E hr hsp => by
    obtain ⟨a, b, rfl, h⟩ := sp2_e hsp
    exact ⟨_, d_L_move  hr, r_L_move h⟩
theorem ok_is_integer (T : Txt w K mg) : Ok P w K mg base 1 "is_integer" ["value"] (sp1 (pIsInt K)) :=
  ok_of T.f_is_integer T.g_is_integer sc_is_integer len1 (fun _ _ _ _ _ _ us hl => match us, hl with | [_], _ => rfl) fun cdv A outer s H vs Q E hr hsp => by
    obtain ⟨a, rfl, h⟩ := sp1_e hsp
    exact ⟨_, d_is_integer T.n_isinstance T.n_int T.n_bool hr, r_is_integer h⟩
theorem ok_is_pen (T : Txt w K mg) : Ok P w K mg base 2 "is_pen" ["value"] (sp1 (pIsPen K)) :=
  ok_of T.f_is_pen T.g_is_pen sc_is_pen len1 (fun _ _ _ _ _ _ us hl => match us, hl with | [_], _ => rfl) fun cdv A outer s H vs Q E hr hsp => by
    obtain ⟨a, rfl, h⟩ := sp1_e hsp
    exact ⟨_, d_is_pen T.n_isinstance T.n_tuple T.n_len T.n_all (ok_is_integer T) hr, r_is_pen h⟩
theorem ok_check_penX (T : Txt w K mg) : OkX P w K mg base 3 "check_pen" ["pen"] (sx1 (pCheckPenX K)) :=
  okX_of T.f_check_penX T.g_check_penX sc_check_penX lenx1 (fun _ _ _ _ _ _ us hl => match us, hl with | [_], _ => rfl) fun cdv A outer s H vs Q E hr hsp => by
    obtain ⟨a, rfl, h⟩ := sx1_e hsp
    exact ⟨_, d_check_penX (ok_is_pen T) T.x_NoPen hr, r_check_penX h⟩
theorem ok_is_command (T : Txt w K mg) : Ok P w K mg base 2 "is_command" ["value"] (sp1 (pIsCmd K)) :=
  ok_of T.f_is_command T.g_is_command sc_is_command len1 (fun _ _ _ _ _ _ us hl => match us, hl with | [_], _ => rfl) fun cdv A outer s H vs Q E hr hsp => by
    obtain ⟨a, rfl, h⟩ := sp1_e hsp
    exact ⟨_, d_is_command T.n_isinstance T.n_tuple T.n_len T.n_str T.k_LIMITS T.g_LIMITS T.n_all (ok_is_integer T) hr, r_is_command T.lim h⟩
theorem ok_executed (T : Txt w K mg) : Ok P w K mg base 1 "executed" ["pen", "command"] (sp2 (pRun K)) :=
  ok_of T.f_executed T.g_executed sc_executed len2 (fun _ _ _ _ _ _ us hl => match us, hl with | [_, _], _ => rfl) fun cdv A outer s H vs Q E hr hsp => by
    obtain ⟨a, b, rfl, h⟩ := sp2_e hsp
    exact ⟨_, d_executed T.n_range hr, r_executed h⟩
theorem ok_movedX (T : Txt w K mg) : OkX P w K mg base 4 "moved" ["pen", "command"] (sx2 (pMovedX K)) :=
  okX_of T.f_movedX T.g_movedX sc_movedX lenx2 (fun _ _ _ _ _ _ us hl => match us, hl with | [_, _], _ => rfl) fun cdv A outer s H vs Q E hr hsp => by
    obtain ⟨a, b, rfl, h⟩ := sx2_e hsp
    exact ⟨_, d_movedX (ok_check_penX T) (ok_is_command T) T.x_NoCommand (ok_executed T) hr, r_movedX h⟩
theorem ok_L_moved (T : Txt w K mg) : Ok P w K mg base 5 "_law_moved" ["_law_begin", "_law_command"] (sp2 (pTMoved K)) :=
  ok_of T.f_L_moved T.g_L_moved sc_L_moved len2 (fun _ _ _ _ _ _ us hl => match us, hl with | [_, _], _ => rfl) fun cdv A outer s H vs Q E hr hsp => by
    obtain ⟨a, b, rfl, h⟩ := sp2_e hsp
    exact ⟨_, d_L_moved (ok_movedX T) T.x_NoCommand T.x_NoPen hr, r_L_moved T.xm h⟩
theorem ok_vectorX (T : Txt w K mg) : OkX P w K mg base 3 "vector" ["pen"] (sx1 (pVectorX K)) :=
  okX_of T.f_vectorX T.g_vectorX sc_vectorX lenx1 (fun _ _ _ _ _ _ us hl => match us, hl with | [_], _ => rfl) fun cdv A outer s H vs Q E hr hsp => by
    obtain ⟨a, rfl, h⟩ := sx1_e hsp
    exact ⟨_, d_vectorX (ok_is_pen T) T.x_NoPen hr, r_vectorX h⟩
theorem ok_L_vector (T : Txt w K mg) : Ok P w K mg base 4 "_law_vector" ["_law_begin"] (sp1 (pTVector K)) :=
  ok_of T.f_L_vector T.g_L_vector sc_L_vector len1 (fun _ _ _ _ _ _ us hl => match us, hl with | [_], _ => rfl) fun cdv A outer s H vs Q E hr hsp => by
    obtain ⟨a, rfl, h⟩ := sp1_e hsp
    exact ⟨_, d_L_vector (ok_vectorX T) T.x_NoPen hr, r_L_vector T.xm h⟩
theorem ok_appliedX (T : Txt w K mg) : OkX P w K mg base 4 "applied" ["matrix", "pen"] (sx2 (pAppliedX K)) :=
  okX_of T.f_appliedX T.g_appliedX sc_appliedX lenx2 (fun _ _ _ _ _ _ us hl => match us, hl with | [_, _], _ => rfl) fun cdv A outer s H vs Q E hr hsp => by
    obtain ⟨a, b, rfl, h⟩ := sx2_e hsp
    exact ⟨_, d_appliedX (ok_vectorX T) T.n_range T.n_sum T.n_tuple hr, r_appliedX h⟩
theorem ok_L_applied (T : Txt w K mg) : Ok P w K mg base 5 "_law_applied" ["_law_matrix", "_law_begin"] (sp2 (pTApplied K)) :=
  ok_of T.f_L_applied T.g_L_applied sc_L_applied len2 (fun _ _ _ _ _ _ us hl => match us, hl with | [_, _], _ => rfl) fun cdv A outer s H vs Q E hr hsp => by
    obtain ⟨a, b, rfl, h⟩ := sp2_e hsp
    exact ⟨_, d_L_applied (ok_appliedX T) T.x_NoPen hr, r_L_applied T.xm h⟩
theorem ok_matrix_ofX (T : Txt w K mg) : OkX P w K mg base 3 "matrix_of" ["command"] (sx1 (pMatOfX K)) :=
  okX_of T.f_matrix_ofX T.g_matrix_ofX sc_matrix_ofX lenx1 (fun _ _ _ _ _ _ us hl => match us, hl with | [_], _ => rfl) fun cdv A outer s H vs Q E hr hsp => by
    obtain ⟨a, rfl, h⟩ := sx1_e hsp
    exact ⟨_, d_matrix_ofX (ok_is_command T) T.x_NoCommand (ok_executed T) T.n_range T.n_tuple T.n_int hr, r_matrix_ofX h⟩
theorem ok_L_matrix_of (T : Txt w K mg) : Ok P w K mg base 4 "_law_matrix_of" ["_law_command"] (sp1 (pTMatOf K)) :=
  ok_of T.f_L_matrix_of T.g_L_matrix_of sc_L_matrix_of len1 (fun _ _ _ _ _ _ us hl => match us, hl with | [_], _ => rfl) fun cdv A outer s H vs Q E hr hsp => by
    obtain ⟨a, rfl, h⟩ := sp1_e hsp
    exact ⟨_, d_L_matrix_of (ok_matrix_ofX T) T.x_NoCommand hr, r_L_matrix_of T.xm h⟩
theorem ok_L_image (T : Txt w K mg) : Ok P w K mg base 1 "_law_image" ["_law_matrix", "_law_begin"] (sp2 (pApplied K)) :=
  ok_of T.f_L_image T.g_L_image sc_L_image len2 (fun _ _ _ _ _ _ us hl => match us, hl with | [_, _], _ => rfl) fun cdv A outer s H vs Q E hr hsp => by
    obtain ⟨a, b, rfl, h⟩ := sp2_e hsp
    exact ⟨_, d_L_image T.n_range T.n_sum hr, r_L_image h⟩
theorem ok_L_pens (T : Txt w K mg) : Ok P w K mg base 2 "_law_pens" ["_law_deeds", "_law_begin"] (sp2 (pPens K)) :=
  ok_of T.f_L_pens T.g_L_pens sc_L_pens len2 (fun _ _ _ _ _ _ us hl => match us, hl with | [_, _], _ => rfl) fun cdv A outer s H vs Q E hr hsp => by
    obtain ⟨a, b, rfl, h⟩ := sp2_e hsp
    exact ⟨_, d_L_pens (ok_L_move T) hr, r_L_pens h⟩
theorem ok_L_probe (T : Txt w K mg) : Ok P w K mg base 3 "_law_probe" ["_law_deeds"] (sp1 (pProbe K)) :=
  ok_of T.f_L_probe T.g_L_probe sc_L_probe len1 (fun _ _ _ _ _ _ us hl => match us, hl with | [_], _ => rfl) fun cdv A outer s H vs Q E hr hsp => by
    obtain ⟨a, rfl, h⟩ := sp1_e hsp
    exact ⟨_, d_L_probe (ok_L_pens T) T.n_range T.n_tuple T.n_int hr, r_L_probe h⟩
theorem ok_law_k02 (T : Txt w K mg) : Ok P w K mg base 6 "law" ["_law_script"] (sp1 (pLaw K)) :=
  ok_of T.f_law_k02 T.g_law_k02 sc_law_k02 len1 (fun _ _ _ _ _ _ us hl => match us, hl with | [_], _ => rfl) fun cdv A outer s H vs Q E hr hsp => by
    obtain ⟨a, rfl, h⟩ := sp1_e hsp
    exact ⟨_, d_law_k02 (ok_L_pool T) T.n_range T.n_len (ok_L_pen T) (ok_L_any_command T) (ok_L_bad_pen T) (ok_L_bad_command T) (ok_L_any_matrix T) (ok_L_move T) (ok_L_moved T) (ok_L_vector T) T.n_list (ok_L_applied T) (ok_L_matrix_of T) (ok_L_image T) (ok_L_probe T) hr, r_law_k02 h⟩
end
def dd_L_pool : He.DefD := ⟨("_law_pool", none), "_law_pool", "_law_pool", defArgs s_L_pool, defBody s_L_pool, defScope s_L_pool, [], []⟩
def dd_L_draw : He.DefD := ⟨("_law_draw", none), "_law_draw", "_law_draw", defArgs s_L_draw, defBody s_L_draw, defScope s_L_draw, [], []⟩
def dd_L_number : He.DefD := ⟨("_law_number", none), "_law_number", "_law_number", defArgs s_L_number, defBody s_L_number, defScope s_L_number, [], []⟩
def dd_L_pen : He.DefD := ⟨("_law_pen", none), "_law_pen", "_law_pen", defArgs s_L_pen, defBody s_L_pen, defScope s_L_pen, [], []⟩
def dd_L_any_command : He.DefD := ⟨("_law_any_command", none), "_law_any_command", "_law_any_command", defArgs s_L_any_command, defBody s_L_any_command, defScope s_L_any_command, [], []⟩
def dd_L_odd : He.DefD := ⟨("_law_odd", none), "_law_odd", "_law_odd", defArgs s_L_odd, defBody s_L_odd, defScope s_L_odd, [], []⟩
def dd_L_bad_pen : He.DefD := ⟨("_law_bad_pen", none), "_law_bad_pen", "_law_bad_pen", defArgs s_L_bad_pen, defBody s_L_bad_pen, defScope s_L_bad_pen, [], []⟩
def dd_L_bad_command : He.DefD := ⟨("_law_bad_command", none), "_law_bad_command", "_law_bad_command", defArgs s_L_bad_command, defBody s_L_bad_command, defScope s_L_bad_command, [], []⟩
def dd_L_any_matrix : He.DefD := ⟨("_law_any_matrix", none), "_law_any_matrix", "_law_any_matrix", defArgs s_L_any_matrix, defBody s_L_any_matrix, defScope s_L_any_matrix, [], []⟩
def dd_L_move : He.DefD := ⟨("_law_move", none), "_law_move", "_law_move", defArgs s_L_move, defBody s_L_move, defScope s_L_move, [], []⟩
def dd_is_integer : He.DefD := ⟨("is_integer", none), "is_integer", "is_integer", defArgs s_is_integer, defBody s_is_integer, defScope s_is_integer, [], []⟩
def dd_is_pen : He.DefD := ⟨("is_pen", none), "is_pen", "is_pen", defArgs s_is_pen, defBody s_is_pen, defScope s_is_pen, [], []⟩
def dd_check_penX : He.DefD := ⟨("check_pen", none), "check_pen", "check_pen", defArgs s_check_penX, defBody s_check_penX, defScope s_check_penX, [], []⟩
def dd_is_command : He.DefD := ⟨("is_command", none), "is_command", "is_command", defArgs s_is_command, defBody s_is_command, defScope s_is_command, [], []⟩
def dd_executed : He.DefD := ⟨("executed", none), "executed", "executed", defArgs s_executed, defBody s_executed, defScope s_executed, [], []⟩
def dd_movedX : He.DefD := ⟨("moved", none), "moved", "moved", defArgs s_movedX, defBody s_movedX, defScope s_movedX, [], []⟩
def dd_L_moved : He.DefD := ⟨("_law_moved", none), "_law_moved", "_law_moved", defArgs s_L_moved, defBody s_L_moved, defScope s_L_moved, [], []⟩
def dd_vectorX : He.DefD := ⟨("vector", none), "vector", "vector", defArgs s_vectorX, defBody s_vectorX, defScope s_vectorX, [], []⟩
def dd_L_vector : He.DefD := ⟨("_law_vector", none), "_law_vector", "_law_vector", defArgs s_L_vector, defBody s_L_vector, defScope s_L_vector, [], []⟩
def dd_appliedX : He.DefD := ⟨("applied", none), "applied", "applied", defArgs s_appliedX, defBody s_appliedX, defScope s_appliedX, [], []⟩
def dd_L_applied : He.DefD := ⟨("_law_applied", none), "_law_applied", "_law_applied", defArgs s_L_applied, defBody s_L_applied, defScope s_L_applied, [], []⟩
def dd_matrix_ofX : He.DefD := ⟨("matrix_of", none), "matrix_of", "matrix_of", defArgs s_matrix_ofX, defBody s_matrix_ofX, defScope s_matrix_ofX, [], []⟩
def dd_L_matrix_of : He.DefD := ⟨("_law_matrix_of", none), "_law_matrix_of", "_law_matrix_of", defArgs s_L_matrix_of, defBody s_L_matrix_of, defScope s_L_matrix_of, [], []⟩
def dd_L_image : He.DefD := ⟨("_law_image", none), "_law_image", "_law_image", defArgs s_L_image, defBody s_L_image, defScope s_L_image, [], []⟩
def dd_L_pens : He.DefD := ⟨("_law_pens", none), "_law_pens", "_law_pens", defArgs s_L_pens, defBody s_L_pens, defScope s_L_pens, [], []⟩
def dd_L_probe : He.DefD := ⟨("_law_probe", none), "_law_probe", "_law_probe", defArgs s_L_probe, defBody s_L_probe, defScope s_L_probe, [], []⟩
def dd_law_k02 : He.DefD := ⟨("law", none), "law", "law", defArgs s_law_k02, defBody s_law_k02, defScope s_law_k02, [], []⟩
def fa : List He.Fa := ([.free "int", .free "range", .free "len", .free "tuple", .free "list", .free "isinstance", .free "all", .free "bool", .glo "NoPen", .free "str", .glo "LIMITS", .glo "NoCommand", .free "sum", .glo "_law_pool", .glo "_law_draw", .glo "_law_number", .glo "_law_pen", .glo "_law_any_command", .glo "_law_odd", .glo "_law_bad_pen"] : List He.Fa) ++ ([.glo "_law_bad_command", .glo "_law_any_matrix", .glo "_law_move", .glo "is_integer", .glo "is_pen", .glo "check_pen", .glo "is_command", .glo "executed", .glo "moved", .glo "_law_moved", .glo "vector", .glo "_law_vector", .glo "applied", .glo "_law_applied", .glo "matrix_of", .glo "_law_matrix_of", .glo "_law_image", .glo "_law_pens", .glo "_law_probe", .glo "law"] : List He.Fa)
def fn : List He.DefD := ([dd_L_pool, dd_L_draw, dd_L_number, dd_L_pen, dd_L_any_command, dd_L_odd, dd_L_bad_pen, dd_L_bad_command, dd_L_any_matrix, dd_L_move, dd_is_integer, dd_is_pen, dd_check_penX, dd_is_command, dd_executed, dd_movedX, dd_L_moved, dd_vectorX, dd_L_vector, dd_appliedX] : List He.DefD) ++ ([dd_L_applied, dd_matrix_ofX, dd_L_matrix_of, dd_L_image, dd_L_pens, dd_L_probe, dd_law_k02] : List He.DefD)
def ts : List He.Tab := [limTab]
def exs (K : PySem.W.Frag) : List Bool := [limB K, decide (PySem.W.exmOne K (clNP K) (clNP K) = some true), decide (PySem.W.exmOne K (clNC K) (clNP K) = some false), decide (PySem.W.exmOne K (clNC K) (clNC K) = some true), xcB K "NoPen", xcB K "NoCommand"]
def ex (K : PySem.W.Frag) : Bool := (exs K).all id
theorem exAt {K : PySem.W.Frag} (h : ex K = true) (i : Nat) {b : Bool} (e : (exs K)[i]? = some b := by rfl) : b = true := List.all_eq_true.mp h b (List.mem_of_getElem? e)
def loose : List Str := (["HomeError", "NoPen", "NoCommand", "LIMITS", "is_integer", "is_pen", "is_command", "executed", "check_pen", "moved", "vector", "matrix_of", "applied", "_law_pool", "_law_draw", "_law_number", "_law_pen", "_law_move", "_law_image", "_law_pens", "_law_probe", "_law_any_command", "_law_any_matrix", "_law_odd", "_law_bad_pen", "_law_bad_command", "_law_moved", "_law_vector", "_law_applied", "_law_matrix_of"] : List Str)
abbrev R : PySem.W.OpenRow := PySem.W.OpenLaw.row PySem.Challenge.rw_penhome_k02_values_that_are_no_pens_or_c
abbrev hk : PySem.W.Hook := hookP 5 fa fn ts ex
def ob (s : PySem.W.SharedT) : He.AlT × Bool := obsP 5 fa fn ts ex (HandSHeadRun.getT s)
theorem ob_eq (s : PySem.W.SharedT) : ob s = hk.obs s.abs := obsP_eq (HandSHeadRun.getT_eq s)
abbrev RunAt (w : World) : Prop := HandSHeadRun.RunEq R (PySem.W.view R.prog [34]) hk ob 5000 loose w
set_option maxHeartbeats 0 in
theorem run_f (w : World) : RunAt (w.withFollow "special-get-raises" false) := by
  intro os
  kernel_rfl
set_option maxHeartbeats 0 in
theorem run_t (w : World) : RunAt (w.withFollow "special-get-raises" true) := by
  intro os
  kernel_rfl
theorem run (w : World) : RunAt w := PySem.W.byRow2 "special-get-raises" run_f run_t w
theorem txt {w : World} {K : PySem.W.Frag} {h : Heap} {mg : Str → Option Value} (X : K.In h) (G : h.Ns mainGlobals mg) (c : He.SaysT fa fn ts w K ∧ ex K = true) : Txt w K mg where
    n_int := He.free_ok X G (c.1.d.fact 0 (f := .free "int") rfl)
    n_range := He.free_ok X G (c.1.d.fact 1 (f := .free "range") rfl)
    n_len := He.free_ok X G (c.1.d.fact 2 (f := .free "len") rfl)
    n_tuple := He.free_ok X G (c.1.d.fact 3 (f := .free "tuple") rfl)
    n_list := He.free_ok X G (c.1.d.fact 4 (f := .free "list") rfl)
    n_isinstance := He.free_ok X G (c.1.d.fact 5 (f := .free "isinstance") rfl)
    n_all := He.free_ok X G (c.1.d.fact 6 (f := .free "all") rfl)
    n_bool := He.free_ok X G (c.1.d.fact 7 (f := .free "bool") rfl)
    x_NoPen := xcB_ok (exAt c.2 4) (He.glo_ok X G (c.1.d.fact 8 (f := .glo "NoPen") rfl))
    n_str := He.free_ok X G (c.1.d.fact 9 (f := .free "str") rfl)
    k_LIMITS := c.1.tab 0 (t := limTab) rfl
    g_LIMITS := He.glo_ok X G (c.1.d.fact 10 (f := .glo "LIMITS") rfl)
    x_NoCommand := xcB_ok (exAt c.2 5) (He.glo_ok X G (c.1.d.fact 11 (f := .glo "NoCommand") rfl))
    n_sum := He.free_ok X G (c.1.d.fact 12 (f := .free "sum") rfl)
    g_L_pool := He.glo_ok X G (c.1.d.fact 13 (f := .glo "_law_pool") rfl)
    f_L_pool := c.1.d.def_ 0 (d := dd_L_pool) rfl
    g_L_draw := He.glo_ok X G (c.1.d.fact 14 (f := .glo "_law_draw") rfl)
    f_L_draw := c.1.d.def_ 1 (d := dd_L_draw) rfl
    g_L_number := He.glo_ok X G (c.1.d.fact 15 (f := .glo "_law_number") rfl)
    f_L_number := c.1.d.def_ 2 (d := dd_L_number) rfl
    g_L_pen := He.glo_ok X G (c.1.d.fact 16 (f := .glo "_law_pen") rfl)
    f_L_pen := c.1.d.def_ 3 (d := dd_L_pen) rfl
    g_L_any_command := He.glo_ok X G (c.1.d.fact 17 (f := .glo "_law_any_command") rfl)
    f_L_any_command := c.1.d.def_ 4 (d := dd_L_any_command) rfl
    g_L_odd := He.glo_ok X G (c.1.d.fact 18 (f := .glo "_law_odd") rfl)
    f_L_odd := c.1.d.def_ 5 (d := dd_L_odd) rfl
    g_L_bad_pen := He.glo_ok X G (c.1.d.fact 19 (f := .glo "_law_bad_pen") rfl)
    f_L_bad_pen := c.1.d.def_ 6 (d := dd_L_bad_pen) rfl
    g_L_bad_command := He.glo_ok X G (c.1.d.fact 20 (f := .glo "_law_bad_command") rfl)
    f_L_bad_command := c.1.d.def_ 7 (d := dd_L_bad_command) rfl
    g_L_any_matrix := He.glo_ok X G (c.1.d.fact 21 (f := .glo "_law_any_matrix") rfl)
    f_L_any_matrix := c.1.d.def_ 8 (d := dd_L_any_matrix) rfl
    g_L_move := He.glo_ok X G (c.1.d.fact 22 (f := .glo "_law_move") rfl)
    f_L_move := c.1.d.def_ 9 (d := dd_L_move) rfl
    g_is_integer := He.glo_ok X G (c.1.d.fact 23 (f := .glo "is_integer") rfl)
    f_is_integer := c.1.d.def_ 10 (d := dd_is_integer) rfl
    g_is_pen := He.glo_ok X G (c.1.d.fact 24 (f := .glo "is_pen") rfl)
    f_is_pen := c.1.d.def_ 11 (d := dd_is_pen) rfl
    g_check_penX := He.glo_ok X G (c.1.d.fact 25 (f := .glo "check_pen") rfl)
    f_check_penX := c.1.d.def_ 12 (d := dd_check_penX) rfl
    g_is_command := He.glo_ok X G (c.1.d.fact 26 (f := .glo "is_command") rfl)
    f_is_command := c.1.d.def_ 13 (d := dd_is_command) rfl
    g_executed := He.glo_ok X G (c.1.d.fact 27 (f := .glo "executed") rfl)
    f_executed := c.1.d.def_ 14 (d := dd_executed) rfl
    g_movedX := He.glo_ok X G (c.1.d.fact 28 (f := .glo "moved") rfl)
    f_movedX := c.1.d.def_ 15 (d := dd_movedX) rfl
    g_L_moved := He.glo_ok X G (c.1.d.fact 29 (f := .glo "_law_moved") rfl)
    f_L_moved := c.1.d.def_ 16 (d := dd_L_moved) rfl
    g_vectorX := He.glo_ok X G (c.1.d.fact 30 (f := .glo "vector") rfl)
    f_vectorX := c.1.d.def_ 17 (d := dd_vectorX) rfl
    g_L_vector := He.glo_ok X G (c.1.d.fact 31 (f := .glo "_law_vector") rfl)
    f_L_vector := c.1.d.def_ 18 (d := dd_L_vector) rfl
    g_appliedX := He.glo_ok X G (c.1.d.fact 32 (f := .glo "applied") rfl)
    f_appliedX := c.1.d.def_ 19 (d := dd_appliedX) rfl
    g_L_applied := He.glo_ok X G (c.1.d.fact 33 (f := .glo "_law_applied") rfl)
    f_L_applied := c.1.d.def_ 20 (d := dd_L_applied) rfl
    g_matrix_ofX := He.glo_ok X G (c.1.d.fact 34 (f := .glo "matrix_of") rfl)
    f_matrix_ofX := c.1.d.def_ 21 (d := dd_matrix_ofX) rfl
    g_L_matrix_of := He.glo_ok X G (c.1.d.fact 35 (f := .glo "_law_matrix_of") rfl)
    f_L_matrix_of := c.1.d.def_ 22 (d := dd_L_matrix_of) rfl
    g_L_image := He.glo_ok X G (c.1.d.fact 36 (f := .glo "_law_image") rfl)
    f_L_image := c.1.d.def_ 23 (d := dd_L_image) rfl
    g_L_pens := He.glo_ok X G (c.1.d.fact 37 (f := .glo "_law_pens") rfl)
    f_L_pens := c.1.d.def_ 24 (d := dd_L_pens) rfl
    g_L_probe := He.glo_ok X G (c.1.d.fact 38 (f := .glo "_law_probe") rfl)
    f_L_probe := c.1.d.def_ 25 (d := dd_L_probe) rfl
    g_law_k02 := He.glo_ok X G (c.1.d.fact 39 (f := .glo "law") rfl)
    f_law_k02 := c.1.d.def_ 26 (d := dd_law_k02) rfl
    lim := lim_ok (exAt c.2 0) (SaysT_dic c.1 0 (t := limTab) rfl)
    xm := ⟨of_decide_eq_true (exAt c.2 1), of_decide_eq_true (exAt c.2 2), of_decide_eq_true (exAt c.2 3)⟩
end PH
open PySem PySem.W PySem.Calls PyProof.Rows
set_option maxHeartbeats 0 in
theorem PySem.Challenge.cw_penhome_k02_values_that_are_no_pens_or_c_holds : PySem.Challenge.rw_penhome_k02_values_that_are_no_pens_or_c.Holds := by
  w_on; o_law
  refine HandSHeadRun.head_any (r := OpenLaw.row PySem.Challenge.rw_penhome_k02_values_that_are_no_pens_or_c) (q := view (OpenLaw.row PySem.Challenge.rw_penhome_k02_values_that_are_no_pens_or_c).prog [34]) (H := PH.hk) (ob := PH.ob) (M := 5000) (loose := PH.loose) (d := HandSHeadRun.topDef (OpenLaw.row PySem.Challenge.rw_penhome_k02_values_that_are_no_pens_or_c).prog 34) (kwd := []) PH.ob_eq
    (by kernel_rfl) (fun s => by kernel_rfl) PH.run (by kernel_rfl) (by kernel_rfl) (by kernel_rfl) (by rfl) (by first | assumption | decide +kernel) (by decide +kernel) ⟨rfl, rfl, rfl, rfl, rfl, by decide +kernel⟩ ?hw ?hc
  case hw => w_witness2
  case hc =>
    refine L2.walk_ofE (l := PySem.Challenge.rw_penhome_k02_values_that_are_no_pens_or_c) (n := 63) (k := 6) (x := "_law_script") (CX := L2.CX0) rfl (by decide) (by kernel_rfl) ⟨rfl, by decide, by decide⟩ ?F (fun _ _ _ _ z => z)
    intro w mg fa h Y G hmg0
    obtain ⟨K, KX, c⟩ := Y
    have hmg : mg ("law" : PySem.Str) = some (.ref fa) := by
      have e : (HandSHeadRun.topDef (OpenLaw.row PySem.Challenge.rw_penhome_k02_values_that_are_no_pens_or_c).prog 34).name = ("law" : PySem.Str) := by kernel_rfl
      rw [← e]
      exact hmg0
    have T := PH.txt (w := w) KX G c
    have e := hmg.symm.trans T.g_law_k02
    cases e
    obtain ⟨fd, b, F⟩ := PH.law_end (x := "law") (st := PH.s_law_k02) (ps := ["_law_script"]) T.f_law_k02 (fun _ _ _ _ _ _ us hl => match us, hl with | [_], _ => rfl) (fun base => PH.ok_law_k02 (P := (PySem.Challenge.rw_penhome_k02_values_that_are_no_pens_or_c).prog) (base := base) T)
    exact ⟨K, fd, PH.sp1 (PH.pLaw K), KX, fun s v => b s [v] rfl, fun H a ns hl _ hS => ⟨a, ns, rfl, hS, hl, fun _ => rfl⟩, fun base _ _ => F base⟩

