import PyProof.Rows.All
import Wide.All
import OpenK.AllK
import Wide.FinOn
import KE.KStateDown
import Lean
import HandS.ForMost
import HandS.ForExc
import HandS.More
import HandS.Flow
import HandS.IsInst
import HandS.Defaults
import HandS.Head0
import HandS.Head1
import HandS.Head2
import HandS.HeadEnd
import HandS.HeadHook1
import HandS.HeadHook2
import HandS.HeadHook3
import HandS.TupAny
import HandS.Star
import HandS.Wide
import HandS.Zip
import HandS.Rev
import HandS.TryMany
import HandS.Small
import HandS.RaiseMore
import HandS.OwnEq
import HandS.Walk
import HandS.Deep
import HandS.ExcInit
import HandS.ExcField
import HandS.RevRange
import HandS.SortInts
import KE.GoesMore
import HandS.CallSlots
import PyProof.Rows.NestShow
import HandS.Dict
import HandS.Style
import HandS.Text
import HandS.FStr
import HandS.StrMore
import HandS.SetFor
import PyProof.InstNe
import HandS.ReplaceLit
import KE.SortKeyHeap
import HandS.ExcValue
import HandS.SortKw
import PySem.Challenge.RW_penhome_k27_equal_spaces
set_option Elab.async false
set_option linter.all false
set_option maxRecDepth 100000
set_option maxHeartbeats 4000000
namespace PH
open PySem PySem.Spec PyProof.Rows L2
section
variable {X : Cx}
theorem PE_imp {e : Expr} {t u : TE} (h : PE X e t) (i : ∀ σ H Q, u σ H Q → t σ H Q) : PE X e u := ⟨fun pins s σ H Q I q => h.run pins s σ H Q I (i σ H Q q)⟩
theorem PT_imp {e : Expr} {t u : TT} (h : PT X e t) (i : ∀ σ H Q, u σ H Q → t σ H Q) : PT X e u := ⟨fun pins s σ H Q I q => h.run pins s σ H Q I (i σ H Q q)⟩
theorem OpR_imp {f : Value → Value → Sem Value} {r u : R2} (h : OpR X f r) (i : ∀ x y H Q, u x y H Q → r x y H Q) : OpR X f u := fun pins s σ H x y v w Q I rx ry q => h pins s σ H x y v w Q I rx ry (i x y H Q q)
theorem CallR_imp {f : Value} {r u : List V → Hp → VK → Prop} (h : CallR X f r) (i : ∀ xs H Q, u xs H Q → r xs H Q) : CallR X f u := fun pins s σ H xs us Q I rx q => h pins s σ H xs us Q I rx (i xs H Q q)
theorem IxR_imp {r u : R2} (h : IxR X r) (i : ∀ x y H Q, u x y H Q → r x y H Q) : IxR X u := fun e1 e2 pins s σ H x y v w Q I rx ry q => h e1 e2 pins s σ H x y v w Q I rx ry (i x y H Q q)
/-- the i-th slot -/
def sl : L2.St → Nat → Option V
  | [], _ => none
  | x :: _, 0 => x
  | _ :: r, n + 1 => sl r n
theorem sl_at : ∀ {σ : L2.St} {i : Nat} {v : V}, sl σ i = some v → σ[i]? = some (some v)
  | [], _, _, h => by cases h
  | x :: _, 0, v, h => by
    have e : x = some v := h
    rw [e]; rfl
  | _ :: r, n + 1, v, h => by
    have e := sl_at (σ := r) (i := n) (v := v) h
    simpa using e
def cVar (i : Nat) : TE := fun σ H Q => match sl σ i with
  | some v => Q v H
  | none => False
theorem cv (i : Nat) {x : Str} {pos : Pos} (hN : X.N[i]? = some x := by rfl) (hv : Vis X.env.scope x := by first | exact Or.inl rfl | exact Or.inr (Or.inl rfl) | exact Or.inr (Or.inr rfl)) (hd : (x == ("__debug__" : Str)) = false := by decide)
    (hcd : (x == ("__classdict__" : Str)) = false := by decide) : PE X (.Name x pos) (cVar i) := PE_imp (pe_var hN hv hd hcd) fun σ H Q h => by
  unfold cVar at h
  cases e : sl σ i with
  | none => rw [e] at h; exact h.elim
  | some v => rw [e] at h; exact ⟨v, sl_at e, h⟩
def cI0 (g : Int → Int → V) : R2 := fun x y H Q => match x, y with
  | .int i, .int j => Q (g i j) H
  | _, _ => False
def cI (C : Int → Int → Prop) (g : Int → Int → V) : R2 := fun x y H Q => match x, y with
  | .int i, .int j => C i j ∧ Q (g i j) H
  | _, _ => False
theorem cI0_to {g : Int → Int → V} : ∀ x y H Q, cI0 g x y H Q → rI0 g x y H Q := fun x y H Q h => by
  cases x with
  | int i => cases y with
    | int j => exact ⟨i, j, rfl, rfl, h⟩
    | _ => exact h.elim
  | _ => exact h.elim
theorem cI_to {C : Int → Int → Prop} {g : Int → Int → V} : ∀ x y H Q, cI C g x y H Q → rI C g x y H Q := fun x y H Q h => by
  cases x with
  | int i => cases y with
    | int j => exact ⟨i, j, rfl, rfl, h.1, h.2⟩
    | _ => exact h.elim
  | _ => exact h.elim
def rAddI : R2 := fun x y H Q => match x, y with
  | .int i, .int j => Q (.int (i + j)) H
  | _, _ => False
def rSubC : R2 := fun x y H Q => match x, y with
  | .int i, .int j => Q (.int (i - j)) H
  | _, _ => False
def rMulC : R2 := fun x y H Q => match x, y with
  | .int i, .int j => IntMulOk i j ∧ Q (.int (i * j)) H
  | _, _ => False
def rModC : R2 := fun x y H Q => match x, y with
  | .int i, .int j => (0 < j) ∧ Q (.int (i % j)) H
  | _, _ => False
def rFdivC : R2 := fun x y H Q => match x, y with
  | .int i, .int j => (CDiv i j) ∧ Q (.int (i / j)) H
  | _, _ => False
def rPowC : R2 := fun x y H Q => match x, y with
  | .int i, .int j => (CPow i j) ∧ Q (.int (i ^ j.toNat)) H
  | _, _ => False
def rLtC : R2 := fun x y H Q => match x, y with
  | .int i, .int j => Q (.bl (decide (i < j))) H
  | _, _ => False
def rGtC : R2 := fun x y H Q => match x, y with
  | .int i, .int j => Q (.bl (decide (j < i))) H
  | _, _ => False
def rGeC : R2 := fun x y H Q => match x, y with
  | .int i, .int j => Q (.bl (decide (j ≤ i))) H
  | _, _ => False
/-- x + y: ints, texts, lists, tuples -/
def cAdd (K : PySem.W.Frag) : R2 := fun x y H Q => match x, y with
  | .int i, .int j => Q (.int (i + j)) H
  | .str a, .str b => a.length + b.length ≤ sizeLine ∧ Q (.str (a ++ b)) H
  | .ref _, .ref _ => rCat x y H Q ∨ rCatA K x y H Q
  | _, _ => False
theorem op_addC : OpR X (binaryOp .Add) (cAdd X.K) := by
  refine OpR_imp (OpR.or (X := X) op_add (OpR.or op_add_str (OpR.or op_cat op_catA))) fun x y H Q h => ?_
  cases x with
  | int i => cases y with
    | int j => exact .inl ⟨i, j, rfl, rfl, h⟩
    | _ => exact h.elim
  | str i => cases y with
    | str j => exact .inr (.inl ⟨i, j, rfl, rfl, h.1, h.2⟩)
    | _ => exact h.elim
  | ref i => cases y with
    | ref j => exact .inr (.inr h)
    | _ => exact h.elim
  | _ => exact h.elim
theorem op_subC : OpR X (binaryOp .Sub) rSubC := OpR_imp op_sub fun x y H Q h => cI0_to (g := fun i j => .int (i - j)) x y H Q h
theorem op_mulO : OpR X (binaryOp .Mult) (rI IntMulOk fun i j => .int (i * j)) := opI fun _ _ _ _ _ _ _ hc q => mul_int q hc
theorem op_mulC : OpR X (binaryOp .Mult) rMulC := OpR_imp op_mulO fun x y H Q h => cI_to (C := IntMulOk) (g := fun i j => .int (i * j)) x y H Q h
theorem mulL {i j : Int} (h1 : -(2 ^ 64) < i) (h2 : i < 2 ^ 64) : IntMulOk i j := CMul.ok (.inl ⟨h1, h2⟩)
theorem mulR {i j : Int} (h1 : -(2 ^ 64) < j) (h2 : j < 2 ^ 64) : IntMulOk i j := CMul.ok (.inr ⟨h1, h2⟩)
theorem op_modC : OpR X (binaryOp .Mod) rModC := OpR_imp op_mod fun x y H Q h => cI_to (C := fun _ j => 0 < j) (g := fun i j => .int (i % j)) x y H Q h
theorem op_fdivC : OpR X (binaryOp .FloorDiv) rFdivC := OpR_imp op_fdiv fun x y H Q h => cI_to (C := CDiv) (g := fun i j => .int (i / j)) x y H Q h
theorem op_powC : OpR X (binaryOp .Pow) rPowC := OpR_imp op_pow fun x y H Q h => cI_to (C := CPow) (g := fun i j => .int (i ^ j.toNat)) x y H Q h
theorem op_ltC : OpR X (compareOp .Lt) rLtC := OpR_imp op_lt fun x y H Q h => cI0_to (g := fun i j => .bl (decide (i < j))) x y H Q h
theorem op_gtC : OpR X (compareOp .Gt) rGtC := OpR_imp op_gt fun x y H Q h => cI0_to (g := fun i j => .bl (decide (j < i))) x y H Q h
theorem op_geC : OpR X (compareOp .GtE) rGeC := OpR_imp op_ge fun x y H Q h => cI0_to (g := fun i j => .bl (decide (j ≤ i))) x y H Q h
def cNeg : V → Hp → VK → Prop := fun x H Q => match x with
  | .int i => Q (.int (-i)) H
  | _ => False
theorem un_negC : UnR X (unaryOp .USub) cNeg := fun pins s σ H x v Q I rx h => un_neg pins s σ H x v Q I rx (by
  cases x with
  | int i => exact ⟨i, rfl, h⟩
  | _ => exact h.elim)
/-- == by values: ints and texts at once, the rest as data -/
def cEq (K : PySem.W.Frag) : R2 := fun x y H Q => match x, y with
  | .int i, .int j => Q (.bl (decide (i = j))) H
  | .str i, .str j => Q (.bl (decide (i = j))) H
  | _, _ => rEqD K x y H Q
def cNe (K : PySem.W.Frag) : R2 := fun x y H Q => match x, y with
  | .int i, .int j => Q (.bl (!decide (i = j))) H
  | .str i, .str j => Q (.bl (!decide (i = j))) H
  | _, _ => rNeD K x y H Q
theorem dI {i j : Int} : decide (V.int i = V.int j) = decide (i = j) := by
  by_cases h : i = j
  · rw [decide_eq_true h, h, decide_eq_true rfl]
  · rw [decide_eq_false h, decide_eq_false fun e => h (V.int.inj e)]
theorem dS {i j : Str} : decide (V.str i = V.str j) = decide (i = j) := by
  by_cases h : i = j
  · rw [decide_eq_true h, h, decide_eq_true rfl]
  · rw [decide_eq_false h, decide_eq_false fun e => h (V.str.inj e)]
theorem op_eqC (hu : X.A.units + 64 < cLine) : OpR X (compareOp .Eq) (cEq X.K) := by
  refine OpR_imp (OpR.or (X := X) op_eq (op_eqD hu)) fun x y H Q h => ?_
  cases x with
  | int i => cases y with
    | int j => exact .inl ⟨rfl, by rw [dI]; exact h⟩
    | _ => exact .inr h
  | str i => cases y with
    | str j => exact .inl ⟨rfl, by rw [dS]; exact h⟩
    | _ => exact .inr h
  | _ => exact .inr h
theorem op_neC (hu : X.A.units + 64 < cLine) : OpR X (compareOp .NotEq) (cNe X.K) := by
  refine OpR_imp (OpR.or (X := X) op_ne (op_neD hu)) fun x y H Q h => ?_
  cases x with
  | int i => cases y with
    | int j => exact .inl ⟨rfl, by rw [dI]; exact h⟩
    | _ => exact .inr h
  | str i => cases y with
    | str j => exact .inl ⟨rfl, by rw [dS]; exact h⟩
    | _ => exact .inr h
  | _ => exact .inr h
variable {a b c : Expr} {ta tb tc : TE} {pos : Pos}
def cT (K : PySem.W.Frag) : V → Hp → (Bool → Hp → Prop) → Prop := fun x H Q => match x with
  | .bl k => Q k H
  | .non => Q false H
  | .int i => Q (i != 0) H
  | x => ∃ k, TruV K x H k ∧ Q k H
def cTest (K : PySem.W.Frag) (t : TE) : TT := fun σ H Q => t σ H fun x H' => cT K x H' Q
theorem cT_to {K : PySem.W.Frag} : ∀ x H Q, cT K x H Q → ∃ k, TruV K x H k ∧ Q k H := fun x H Q h => by
  cases x with
  | bl k => exact ⟨k, rfl, h⟩
  | non => exact ⟨false, rfl, h⟩
  | int i => exact ⟨_, rfl, h⟩
  | _ => exact h
theorem t_val (ha : PE X a ta) (he : ∀ whole, isTrue a X.env whole = (do let v ← whole; standAt a.pos; holding [v] (truthy v)) := by intro _; rfl) : PT X a (cTest X.K ta) := by
  refine ⟨fun pins s σ H Q I h => ?_⟩
  exact isTrue_plain (thn (ha.run pins s σ H _ I h) fun v s1 ⟨x, H1, I1, r1, q1⟩ => tru_ok pins s1 σ H1 x v Q I1 r1 (cT_to x H1 Q q1)) (he _)
def cB (t : TE) : TT := fun σ H Q => t σ H fun x H' => match x with
  | .bl k => Q k H'
  | _ => False
theorem t_cmp {op : CmpOp} {r : R2} (ho : OpR X (compareOp op) r) (ha : PE X a ta) (hb : PE X b tb) (hm : behindInMarks op b = false := by rfl) : PT X (.Compare a [op] [b] pos) (cB (tOp r ta tb)) := by
  refine ⟨fun pins s σ H Q I h => ?_⟩
  have h' : ta σ H fun x H1 => tb σ H1 fun y H2 => r x y H2 fun z H3 => (match z with | .bl k => Q k H3 | _ => False) := h
  refine wpAny_isTrue_Compare1 (thn (ha.run pins s σ H _ I h') fun v s1 ⟨x, H1, I1, r1, q1⟩ => thn (hb.run pins s1 σ H1 _ I1 q1) fun u s2 ⟨y, H2, I2, r2, q2⟩ => thn (ho pins s2 σ H2 x y v u _ I2 r1 r2 q2) fun d s3 hz => ?_) hm
  obtain ⟨z, H3, I3, r3, q3⟩ := hz
  cases z with
  | bl k => cases r3; exact wpAny_truthy_bool ⟨H3, I3, q3⟩
  | _ => exact q3.elim
theorem e_cmp {op : CmpOp} {r : R2} (ho : OpR X (compareOp op) r) (ha : PE X a ta) (hb : PE X b tb) (hm : behindInMarks op b = false := by rfl) : PE X (.Compare a [op] [b] pos) (tOp r ta tb) := pe_cmpR ho ha hb hm
end
section
variable {X : Cx} {a b c : Expr} {ta tb tc : TE} {pos : Pos}
variable {rest : List Expr}
def cAndV (ta tb : TE) : TE := fun σ H Q => ta σ H fun x H1 => match x with
  | .bl c => if c = true then tb σ H1 Q else Q (.bl false) H1
  | _ => False
def cNotV (K : PySem.W.Frag) (ta : TE) : TE := fun σ H Q => ta σ H fun x H1 => cT K x H1 fun k H2 => Q (.bl (!k)) H2
theorem e_and (ha : PE X a ta) (hb : PE X (.BoolOp .And (b :: rest) pos) tb) : PE X (.BoolOp .And (a :: b :: rest) pos) (cAndV ta tb) := by
  refine ⟨fun pins s σ H Q I h => ?_⟩
  refine BoolOp_and (thn (ha.run pins s σ H _ I h) fun v s1 hq => ?_)
  obtain ⟨x, H1, I1, r1, q1⟩ := hq
  cases x with
  | bl c =>
    cases r1
    refine wpAny_truthy_bool ?_
    cases c with
    | true => exact hb.run pins s1 σ H1 Q I1 q1
    | false => exact ⟨.bl false, H1, I1, rfl, q1⟩
  | _ => exact q1.elim
theorem e_not (ha : PE X a ta) : PE X (.UnaryOp .Not a pos) (cNotV X.K ta) := by
  refine ⟨fun pins s σ H Q I h => ?_⟩
  refine UnaryOp_ (thn (ha.run pins s σ H _ I h) fun v s1 hq => ?_)
  obtain ⟨x, H1, I1, r1, q1⟩ := hq
  exact not_of (thn (tru_ok pins s1 σ H1 x v (fun c H2 => Q (.bl (!c)) H2) I1 r1 (cT_to x H1 _ q1)) fun c s2 ⟨H2, I2, q2⟩ => ⟨.bl (!c), H2, I2, rfl, q2⟩)
def cIx (K : PySem.W.Frag) : R2 := fun x y H Q => match x, y with
  | .ref p, .int i => ∃ xs v, (SqL K H p xs ∨ SqT K H p xs) ∧ atI xs i = some v ∧ Q v H
  | .str z, .int i => z.length ≤ sizeLine ∧ ∃ c, atI z.cps.toList i = some c ∧ Q (.str ⟨#[c]⟩) H
  | _, _ => False
theorem ix_C : IxR X (cIx X.K) := IxR_imp ix_seq fun x y H Q h => by
  cases x with
  | ref p => cases y with
    | int i =>
      obtain ⟨xs, v, h1 | h1, h2, q⟩ := h
      · exact .inl ⟨p, xs, i, v, rfl, rfl, h1, h2, q⟩
      · exact .inr (.inl ⟨p, xs, i, v, rfl, rfl, h1, h2, q⟩)
    | _ => exact h.elim
  | str z => cases y with
    | int i =>
      obtain ⟨h1, c, h2, q⟩ := h
      exact .inr (.inr ⟨z, i, c, rfl, rfl, h1, h2, q⟩)
    | _ => exact h.elim
  | _ => exact h.elim
theorem e_ix (ha : PE X a ta) (hb : PE X b tb) (hs : PlainIx b := by intro _ _; rfl) : PE X (.Subscript a b pos) (tOp (cIx X.K) ta tb) := pe_ix ix_C ha hb hs
def cLen (K : PySem.W.Frag) : V → Hp → VK → Prop := fun x H Q => match x with
  | .str z => z.length ≤ sizeLine ∧ Q (.int z.length) H
  | .ref p => ∃ ys, (SqL K H p ys ∨ SqT K H p ys) ∧ Q (.int ys.length) H
  | _ => False
def c1 (r : V → Hp → VK → Prop) : List V → Hp → VK → Prop := fun xs H Q => match xs with
  | [x] => r x H Q
  | _ => False
theorem e_len {p : Pos} (hm : X.mg "len" = none) (ha : PE X a ta) (hg : Gl X "len" := by rfl) (hs : starEach [a] X.env = [(false, eval a X.env)] := by rfl) : PE X (.Call (.Name "len" p) [a] [] pos) (tCB (c1 (cLen X.K)) (tCons ta tNil)) :=
  pe_callB (CallR_imp (CallR.or call_len_seq call_len_str) fun xs H Q h => by
    match xs, h with
    | [x], h =>
      cases x with
      | str z => exact .inr ⟨z, rfl, h.1, h.2⟩
      | ref p =>
        obtain ⟨ys, h1, q⟩ := h
        exact .inl ⟨p, ys, rfl, h1, q⟩
      | _ => exact h.elim) hg hm boot_len (pa_cons ha pa_nil hs) (he := hs)
def cInt : V → Hp → VK → Prop := fun x H Q => match x with
  | .int i => Q (.int i) H
  | .bl k => Q (.int (if k then 1 else 0)) H
  | _ => False
theorem e_int {p : Pos} (hm : X.mg "int" = none) (ha : PE X a ta) (hg : Gl X "int" := by rfl) (hs : starEach [a] X.env = [(false, eval a X.env)] := by rfl) : PE X (.Call (.Name "int" p) [a] [] pos) (tCB (c1 cInt) (tCons ta tNil)) :=
  pe_callTy (CallR_imp call_int1 fun xs H Q h => by
    match xs, h with
    | [x], h =>
      cases x with
      | int i => exact .inl ⟨i, rfl, h⟩
      | bl k => exact .inr ⟨k, rfl, h⟩
      | _ => exact h.elim) hg hm boot_int (pa_cons ha pa_nil hs) (he := hs)
def isTy (T n : String) : Bool := n == T || (n == "bool" && T == "int")
def kinds : List String := ["NoneType", "bool", "int", "str", "list", "tuple", "dict"]
def targets : List String := ["int", "bool", "str", "list", "tuple", "dict"]
theorem kit_tab (K : PySem.W.Frag) : (kinds.all fun n => targets.all fun T => decide (PySem.W.kitOne K (.type n) (.type T) = some (isTy T n))) = true := by kernel_rfl
theorem kit_at {K : PySem.W.Frag} {n T : String} (hn : n ∈ kinds) (hT : T ∈ targets) : PySem.W.kitOne K (.type n) (.type T) = some (isTy T n) :=
  of_decide_eq_true (List.all_eq_true.mp (List.all_eq_true.mp (kit_tab K) n hn) T hT)
/-- what kind of thing stands at a -/
def KindAt (K : PySem.W.Frag) (H : Hp) (a : Addr) (n : String) : Prop := n ∈ ["list", "tuple", "dict"] ∧ TyX K H (.ref a) (.type n)
def cIsi (K : PySem.W.Frag) (T : String) : V → Hp → VK → Prop := fun x H Q => match x with
  | .non => Q (.bl false) H
  | .bl _ => Q (.bl (T == "bool" || T == "int")) H
  | .int _ => Q (.bl (T == "int")) H
  | .str _ => Q (.bl (T == "str")) H
  | .ref a => ∃ n, KindAt K H a n ∧ Q (.bl (n == T)) H
  | _ => False
def cIsiL (K : PySem.W.Frag) (T : String) : List V → Hp → VK → Prop := fun xs H Q => match xs with
  | [x, .ty n] => if n = T then cIsi K T x H Q else False
  | _ => False
theorem call_isiC {T : String} (hT : T ∈ targets) : CallR X (.builtin "isinstance") (cIsiL X.K T) := CallR_imp call_isi fun xs H Q h => by
  match xs, h with
  | [x, .ty n], h =>
    have h0 : if n = T then cIsi X.K T x H Q else False := h
    by_cases e : n = T
    case neg => rw [if_neg e] at h0; exact h0.elim
    rw [if_pos e] at h0
    replace h := h0
    subst e
    have go : ∀ (k : String) (b : Bool), k ∈ kinds → TyX X.K H x (.type k) → b = isTy n k → Q (.bl b) H → rIsi X.K [x, .ty n] H Q := fun k b hk ty e q => ⟨x, .ty n, .type k, .type n, isTy n k, rfl, .ty n, ty, kit_at hk hT, by rw [← e]; exact q⟩
    have h6 : n = "int" ∨ n = "bool" ∨ n = "str" ∨ n = "list" ∨ n = "tuple" ∨ n = "dict" := by simpa [targets] using hT
    cases x with
    | non => exact go "NoneType" false (by decide) (.base .non) (by rcases h6 with e | e | e | e | e | e <;> subst e <;> decide) h
    | bl b => exact go "bool" _ (by decide) (.base (.bl b)) (by rcases h6 with e | e | e | e | e | e <;> subst e <;> decide) h
    | int b => exact go "int" _ (by decide) (.base (.int b)) (by rcases h6 with e | e | e | e | e | e <;> subst e <;> decide) h
    | str b => exact go "str" _ (by decide) (.base (.str b)) (by rcases h6 with e | e | e | e | e | e <;> subst e <;> decide) h
    | ref a =>
      obtain ⟨k, ⟨hk, ty⟩, q⟩ := h
      have h3 : k = "list" ∨ k = "tuple" ∨ k = "dict" := by simpa using hk
      exact go k _ (by rcases h3 with e | e | e <;> subst e <;> decide) ty (by rcases h6 with e | e | e | e | e | e <;> rcases h3 with e' | e' | e' <;> subst e <;> subst e' <;> decide) q
    | _ => exact h.elim
/-- isinstance(e, T) -/
def cIsE (K : PySem.W.Frag) (T : String) (ta : TE) : TE := fun σ H Q => ta σ H fun x H1 => cIsi K T x H1 Q
theorem e_isi {p q : Pos} {T : String} {y : Str} (hm : X.mg "isinstance" = none) (hmT : X.mg y = none) (ha : PE X a ta) (hT : T ∈ targets := by decide) (hv : bootBuiltins y = some (.type T) := by decide +kernel)
    (hg : Gl X "isinstance" := by rfl) (hgT : Gl X y := by rfl) (hn : y ≠ "__name__" := by decide) (hd : (y == ("__debug__" : Str)) = false := by decide) (hs : starEach [a, .Name y q] X.env = (false, eval a X.env) :: starEach [.Name y q] X.env := by rfl) :
    PE X (.Call (.Name "isinstance" p) [a, .Name y q] [] pos) (cIsE X.K T ta) :=
  PE_imp (pe_callB (call_isiC hT) hg hm boot_isinstance (pa_cons ha (pa_cons (pe_bltn (v := .ty T) hgT hmT hv rfl hn hd) pa_nil) hs) (he := hs)) fun σ H Q h => by
    show ta σ H fun x H1 => if T = T then cIsi X.K T x H1 Q else False
    simp only [if_true]
    exact h
def cAll (K : PySem.W.Frag) : V → Hp → VK → Prop := fun x H Q => match x with
  | .ref p => ∃ bs : List Bool, SqL K H p (bs.map V.bl) ∧ Q (.bl (bs.all id)) H
  | _ => False
theorem e_all {p : Pos} (hm : X.mg "all" = none) (ha : PE X a ta) (hc : X.calm = true := by rfl) (hg : Gl X "all" := by rfl) (hs : starEach [a] X.env = [(false, eval a X.env)] := by rfl) : PE X (.Call (.Name "all" p) [a] [] pos) (tCB (c1 (cAll X.K)) (tCons ta tNil)) :=
  pe_callB (CallR_imp (cr_all hc) fun xs H Q h => by
    match xs, h with
    | [x], h =>
      cases x with
      | ref p =>
        obtain ⟨bs, h1, q⟩ := h
        exact ⟨p, bs, rfl, h1, q⟩
      | _ => exact h.elim) hg hm boot_all (pa_cons ha pa_nil hs) (he := hs)
def cList (K : PySem.W.Frag) : V → Hp → VK → Prop := fun x H Q => match x with
  | .ref p => ∃ ys, (SqL K H p ys ∨ SqT K H p ys) ∧ ∀ l, H l = none → Q (.ref l) (upd H l (.lst ys))
  | _ => False
theorem e_list {p : Pos} (hm : X.mg "list" = none) (ha : PE X a ta) (hg : Gl X "list" := by rfl) (hs : starEach [a] X.env = [(false, eval a X.env)] := by rfl) : PE X (.Call (.Name "list" p) [a] [] pos) (tCB (c1 (cList X.K)) (tCons ta tNil)) :=
  pe_callTy (CallR_imp call_list_of fun xs H Q h => by
    match xs, h with
    | [x], h =>
      cases x with
      | ref p =>
        obtain ⟨bs, h1, q⟩ := h
        exact ⟨p, bs, rfl, h1, q⟩
      | _ => exact h.elim) hg hm boot_list (pa_cons ha pa_nil hs) (he := hs)
/-- tuple(x), x a list -/
def cTuple (K : PySem.W.Frag) : V → Hp → VK → Prop := fun x H Q => match x with
  | .ref p => ∃ ys, SqL K H p ys ∧ ∀ l, H l = none → Q (.ref l) (upd H l (.tup ys))
  | _ => False
theorem e_tuple {p : Pos} (hm : X.mg "tuple" = none) (ha : PE X a ta) (hg : Gl X "tuple" := by rfl) (hs : starEach [a] X.env = [(false, eval a X.env)] := by rfl) : PE X (.Call (.Name "tuple" p) [a] [] pos) (tCB (c1 (cTuple X.K)) (tCons ta tNil)) :=
  pe_callTy (CallR_imp call_tuple_of fun xs H Q h => by
    match xs, h with
    | [x], h =>
      cases x with
      | ref p =>
        obtain ⟨ys, h1, q⟩ := h
        exact ⟨p, ys, rfl, .inl ⟨h1, q⟩⟩
      | _ => exact h.elim) hg hm boot_tuple (pa_cons ha pa_nil hs) (he := hs)
/-- what a promise of so many arguments is -/
def sp1 (p : V → Hp → VK → Prop) : Sp := fun vs H Q _ => match vs with
  | [a] => p a H Q
  | _ => False
def sp2 (p : V → V → Hp → VK → Prop) : Sp := fun vs H Q _ => match vs with
  | [a, b] => p a b H Q
  | _ => False
end
/-- the def x keeps the promise sp, at the level k -/
def Ok (P : Program) (w : World) (K : PySem.W.Frag) (mg : Str → Option Value) (base : Heap) (k : Nat) (x : Str) (ps : List Str) (sp : Sp) : Prop :=
  ∃ fd, FnOk P w K mg base CX0 k (He.ga K x) fd ps sp ∧ mg x = some (.ref (He.ga K x)) ∧ PySem.W.keepIn K (.ref (He.ga K x)) = true ∧ Binds K fd ps [] ∧ ∃ oc od osl, K.lookup (He.ga K x) = some ⟨oc, od, .func fd, osl⟩
section
variable {X : Cx} {e : Expr} {es : List Expr} {t : TA} {pos p : Pos} {x : Str} {ps : List Str} {sp : Sp} {k j : Nat}
end
section
variable {P : Program} {w : World} {K : PySem.W.Frag} {mg : Str → Option Value} {base : Heap}
abbrev FnP (K : PySem.W.Frag) (x : Str) (st : Stmt) : Prop := ∃ fd, FunD K x x (defArgs st) (defBody st) (defScope st) [] [] (He.ga K x) fd
end
section
variable {X : Cx} {o i e : Expr} {to ti te : TE} {pos tpos : Pos}
def cGetL : V → V → Hp → VK → Prop := fun x y H Q => match x, y with
  | .ref p, .int i => ∃ xs v, H p = some (.lst xs) ∧ 0 ≤ i ∧ xs[i.toNat]? = some v ∧ Q v H
  | _, _ => False
theorem get_listC : PGet X cGetL := by
  intro pins s σ H o i ov iv Q I ro ri h
  cases o with
  | ref p => cases i with
    | int k =>
      obtain ⟨xs, v, hp, h0, hx, q⟩ := h
      cases ro
      obtain ⟨t, rfl⟩ := ri
      obtain ⟨its, r, pl, hz⟩ := I.list (.inl (.inl hp))
      obtain ⟨w, ew, rw'⟩ := r.get hx
      have hl := r.length
      have hn := line63
      have hlt : k.toNat < xs.length := (List.getElem?_eq_some_iff.mp hx).1
      exact wpAny_getItem_list pl.isList h0 (by omega) (by simpa using ew) ⟨v, H, I, rw', q⟩
    | _ => exact h.elim
  | _ => exact h.elim
def cSetL : V → V → V → Hp → (Hp → Prop) → Prop := fun o i v H Q => match o, i with
  | .ref p, .int k => ∃ xs, H p = some (.lst xs) ∧ 0 ≤ k ∧ k.toNat < xs.length ∧ Q (upd H p (.lst (xs.set k.toNat v)))
  | _, _ => False
theorem set_listC : PSet X cSetL := by
  intro pins s σ H o i v ov iv u Q I ro ri rv h
  refine set_list pins s σ H o i v ov iv u Q I ro ri rv ?_
  cases o with
  | ref p => cases i with
    | int k =>
      obtain ⟨xs, hp, h0, hk, q⟩ := h
      exact ⟨p, xs, k, k.toNat, rfl, rfl, hp, by unfold ixN; rw [if_pos h0, if_pos (by omega)], q⟩
    | _ => exact h.elim
  | _ => exact h.elim
def cIp (r : R2) : TIp := fun x y H Q => r x y H Q
theorem ip_addC : PIp X .Add (cIp rAddI) := fun pins s σ H x y v u Q I r1 r2 h => ip_add pins s σ H x y v u Q I r1 r2 (cI0_to (g := fun i j => .int (i + j)) x y H Q h)
theorem s_augS {op : Operator} {tip : TIp} (ho : PE X o to) (hi : PE X i ti) (he : PE X e te) (hp : PIp X op tip)
    (ha : ∀ ov iv new, augStore i ov iv new = (do holding [new, ov, iv] (setItem ov iv new); release [new, ov, iv] []; pure .next) := by intros; rfl) : PS X (.AugAssign (.Subscript o i tpos) op e pos) (tAugS to ti te cGetL tip cSetL) :=
  ps_augS ho hi get_listC he hp set_listC ha
end
section
variable {X : Cx} {tg e : Expr} {te : TE} {pos p : Pos}
def cPart (t : TE) : TO := fun σ H Q => t σ H fun x H1 => match x with
  | .int i => Q (some i) H1
  | _ => False
theorem po_someC (h : PE X e te) : PO X (some e) (cPart te) := by
  refine ⟨fun pins s σ H Q I hw => ?_⟩
  rw [evalPart_some]
  refine thn (h.run pins s σ H _ I hw) fun u s1 hq => ?_
  obtain ⟨x, H1, I1, r1, q1⟩ := hq
  cases x with
  | int i =>
    obtain ⟨t, rfl⟩ := r1
    exact ⟨some i, H1, I1, .int i t, q1⟩
  | _ => exact q1.elim
theorem SlR_imp {r u : V → Option Int → Option Int → Hp → VK → Prop} (h : SlR X r) (i : ∀ x lo hi H Q, u x lo hi H Q → r x lo hi H Q) : SlR X u := by
  intro pins s σ H x v vl vu lo hi sl Q I rx hs pl pu q
  exact h pins s σ H x v vl vu lo hi sl Q I rx hs pl pu (i x lo hi H Q q)
def cSl (K : PySem.W.Frag) : V → Option Int → Option Int → Hp → VK → Prop := fun x lo hi H Q => match x with
  | .ref a => (∃ xs, SqL K H a xs ∧ ∀ p, H p = none → Q (.ref p) (upd H p (.lst (cutV xs lo hi)))) ∨ (∃ xs, SqT K H a xs ∧
    (HT.sIx xs.length 0 lo = 0 ∧ HT.sIx xs.length xs.length hi = xs.length → Q (.ref a) H) ∧ (¬ (HT.sIx xs.length 0 lo = 0 ∧ HT.sIx xs.length xs.length hi = xs.length) → ∀ p, H p = none → Q (.ref p) (upd H p (.tup (cutV xs lo hi)))))
  | .str z => z.length ≤ sizeLine ∧ Q (.str (cutS z lo hi)) H
  | _ => False
theorem sl_C : SlR X (cSl X.K) := SlR_imp (SlR.or sl_list (SlR.or sl_tupA sl_str)) fun x lo hi H Q h => by
  cases x with
  | ref a =>
    rcases h with ⟨xs, h1, q⟩ | ⟨xs, h1, q⟩
    · exact .inl ⟨a, xs, rfl, h1, q⟩
    · exact .inr (.inl ⟨a, xs, rfl, h1, q⟩)
  | str z => exact .inr (.inr ⟨z, rfl, h⟩)
  | _ => exact h.elim
/-- a list or a tuple is walked -/
def iSeq (K : PySem.W.Frag) (tl : TE) : TI := fun σ H R => tl σ H fun x H1 => match x with
  | .ref a => ((∃ xs, SqL K H1 a xs) ∧ R (Itl K a) H1) ∨ ((∃ xs, SqT K H1 a xs) ∧ R (Itt K a) H1)
  | _ => False
theorem pi_seq (hl : PE X e te) : PI X tg e (iSeq X.K te) := by
  refine ⟨fun pins s σ H R I h => ?_⟩
  refine thn (hl.run pins s σ H _ I h) fun v s1 hq => ?_
  obtain ⟨x, H1, I1, r1, q1⟩ := hq
  cases x with
  | ref a =>
    rcases q1 with ⟨h1, q⟩ | ⟨h1, q⟩
    · cases r1
      obtain ⟨xs, hq⟩ := h1
      obtain ⟨its, rv, p, hz⟩ := I1.list hq
      refine wpAny_pyIter_list p.isList ?_
      refine ⟨s1.heap.objs.size, [s1.heap.objs.size], _, _, H1, rfl, I1.kept (t' := s1.toks) fun b o e => Heap.get?_push_of_some _ e, turn_list a _, ⟨_, Heap.get?_push_size _ rfl, rfl, rfl⟩, fun b hb => ?_, q⟩
      have e : b = s1.heap.objs.size := by simpa using hb
      subst e
      exact I1.fpOk (Nat.le_refl _) (I1.hok.fresh (Nat.le_refl _))
    · cases r1
      obtain ⟨xs, hq⟩ := h1
      obtain ⟨its, rv, p, hz⟩ := I1.tuple hq
      refine wpAny_pyIter_tuple (show s1.heap.IsTuple a its.toArray from p) ?_
      refine ⟨s1.heap.objs.size, [s1.heap.objs.size], _, _, H1, rfl, I1.kept (t' := s1.toks) fun b o e => Heap.get?_push_of_some _ e, turn_tuple a _, ⟨_, Heap.get?_push_size _ rfl, rfl, rfl⟩, fun b hb => ?_, q⟩
      have e : b = s1.heap.objs.size := by simpa using hb
      subst e
      exact I1.fpOk (Nat.le_refl _) (I1.hok.fresh (Nat.le_refl _))
  | _ => exact q1.elim
def cAppend : V → List V → Hp → VK → Prop := fun x vs H Q => match x, vs with
  | .ref l, [y] => ∃ xs, H l = some (.lst xs) ∧ xs.length < sizeLine ∧ Q .non (upd H l (.lst (xs ++ [y])))
  | _, _ => False
theorem mt_appendC : MtR X "list.append" cAppend := fun pins s σ H x xs v us Q I rx r h => mt_append pins s σ H x xs v us Q I rx r (by
  match x, xs, h with
  | .ref l, [y], ⟨xs, h1, h2, q⟩ => exact ⟨l, xs, y, rfl, rfl, h1, h2, q⟩)
def cPop : V → List V → Hp → VK → Prop := fun x vs H Q => match x, vs with
  | .ref l, [] => ∃ xs y, H l = some (.lst xs) ∧ xs[xs.length - 1]? = some y ∧ Q y (upd H l (.lst xs.dropLast))
  | _, _ => False
theorem mt_popC : MtR X "list.pop" cPop := fun pins s σ H x xs v us Q I rx r h => mt_pop pins s σ H x xs v us Q I rx r (by
  match x, xs, h with
  | .ref l, [], ⟨xs, y, h1, h2, q⟩ => exact ⟨l, xs, y, rfl, rfl, h1, h2, q⟩)
end
end PH

namespace PH
open PySem PySem.Spec PyProof.Rows L2
section
variable {X : Cx} {x : Str} {p pos pos' : Pos} {W : WX} {e : Expr} {es : List Expr} {t : TA} {ps : List Str} {sp : Sp} {k j : Nat} {E : XK}
end
/-- the def x keeps the promise sp and may raise, at the level k -/
def OkX (P : Program) (w : World) (K : PySem.W.Frag) (mg : Str → Option Value) (base : Heap) (k : Nat) (x : Str) (ps : List Str) (sp : Sp) : Prop :=
  ∃ fd, FnOk P w K mg base (L2.CX P w) k (He.ga K x) fd ps sp ∧ mg x = some (.ref (He.ga K x)) ∧ PySem.W.keepIn K (.ref (He.ga K x)) = true ∧ Binds K fd ps []
section
variable {X : Cx} {e : Expr} {es : List Expr} {t : TA} {pos p : Pos} {x : Str} {ps : List Str} {sp : Sp} {k j : Nat} {E : XK} {W : WX}
end
section
variable {P : Program} {w : World} {K : PySem.W.Frag} {mg : Str → Option Value} {base : Heap}
theorem okX_of {x : Str} {st : Stmt} {N ps : List Str} {k : Nat} {sp : Sp} (F : FnP K x st) (g : mg x = some (.ref (He.ga K x))) (S : FnScope N ps (defScope st)) (len : ∀ vs H Q E, sp vs H Q E → vs.length = ps.length)
    (bnd : ∀ (kV doc pm : Value) (an : Option Addr) (cdv ct : Value) (us : List Value), us.length = ps.length → bindArgs (PySem.W.fnOf x x (defArgs st) (defBody st) (defScope st) .none kV doc pm an cdv ct) ⟨us, []⟩ = pure (ps.zip us))
    (hbody : ∀ (cdv : Value) (A : Around) (outer : List Env) (s : Shared) (H : Hp) (vs : List V) (Q : VK) (E : XK), Room k (A.deeper (envOfC x (defScope st) s.heap.objs.size (He.ga K x) cdv)) → sp vs H Q E →
      ∃ t, PSs (cxOf (L2.CX P w) P w K mg base N x (defScope st) (He.ga K x) cdv A outer s H E) (defBody st) t ∧ t { nx := fun _ H' => Q .non H', rt := Q } (start N vs) H) : OkX P w K mg base (k + 1) x ps sp := by
  obtain ⟨fd, F⟩ := F
  refine ⟨fd, ?_, g, F.kp, F.bindsN bnd⟩
  obtain ⟨oc, od, dV, kV, doc, pm, an, cdv, ct, osl, e, lk, hc⟩ := F.ex
  subst e
  exact fn_of lk hc.1 S len fun A outer s H vs Q E hr hsp => hbody cdv A outer s H vs Q E hr hsp
end
def wNo : WX := fun _ _ _ _ => False
end PH

namespace PH
open PySem PySem.Spec PyProof.Rows L2
section
variable {X : Cx} {a : Expr} {ta : TE} {pos p : Pos}
end
structure OkMX (P : Program) (w : World) (K : PySem.W.Frag) (mg : Str → Option Value) (base : Heap) (k : Nat) (C m : Str) (ps : List Str) (sp : Sp) : Prop where
  ex : ∃ fd, FnOk P w K mg base (L2.CX P w) k (He.ma K (He.ga K C) m) fd ps sp ∧ Binds K fd ps []
  mt : Meth K (He.ga K C) m (He.ma K (He.ga K C) m)
section
variable {X : Cx} {o e : Expr} {es : List Expr} {t : TA} {ta : TE} {apos pos p : Pos} {C m x : Str} {ps : List Str} {sp : Sp} {k j : Nat} {E : XK} {W : WX}
def cFld (C : Addr) (f : Str) (ta : TE) : TE := fun σ H Q => ta σ H fun x H1 => match x with
  | .ref a => ∃ dx fs v, H1 a = some (.ins C dx fs) ∧ fs.lookup f = some v ∧ Q v H1
  | _ => False
theorem e_fld {C : Addr} {f : Str} (c : Cls X.K C) (n : NoAttr X.K C f) (he : PE X e ta) (hb : attributeBase e f X.env (eval e X.env) = eval e X.env := by rfl) : PE X (.Attribute e f pos) (cFld C f ta) := by
  refine ⟨fun pins s σ H Q I h => ?_⟩
  refine attr_of hb (thn (he.run pins s σ H _ I h) fun u s1 hh => ?_)
  obtain ⟨x, H1, I1, rx, hq⟩ := hh
  cases x with
  | ref a =>
    obtain ⟨dx, fs, v, ea, l, q⟩ := hq
    obtain rfl : u = Value.ref a := rx
    exact getattr_ok I1 ea c n l fun _ _ I2 ru => ⟨v, H1, I2, ru, q⟩
  | _ => exact hq.elim
def cSetF (C : Addr) (f : Str) (ta tv : TE) : TS := fun D σ H => tv σ H fun y H1 => ta σ H1 fun x H2 => match x with
  | .ref a => ∃ dx fs, H2 a = some (.ins C dx fs) ∧ fs.length < 1000 ∧ D.nx σ (upd H2 a (.ins C dx (putF f y fs)))
  | _ => False
theorem s_setF {C : Addr} {f : Str} {value : Expr} {tv : TE} {pos' : Pos} (c : Cls X.K C) (n : NoAttr X.K C f) (ha : PE X o ta) (hv : PE X value tv) (hs : swapsWith value (some (.Attribute o f pos')) pos.line X.env = pure false := by rfl) : PS X (.Assign [.Attribute o f pos'] value pos) (cSetF C f ta tv) := by
  refine ⟨fun pins s σ H D I h => ?_⟩
  refine plainObj_wpAny_Assign_Attribute (thn (hv.run pins s σ H _ I h) fun u s1 hh => ?_) hs
  obtain ⟨y, H1, I1, ry, q⟩ := hh
  refine thn (ha.run pins s1 σ H1 _ I1 q) fun ov s2 hh => ?_
  obtain ⟨x, H2, I2, rx, hq⟩ := hh
  cases x with
  | ref a =>
    obtain ⟨dx, fs, ea, l, q2⟩ := hq
    obtain rfl : ov = Value.ref a := rx
    exact setattr_ok I2 ea c n l ry fun _ I3 => ⟨σ, _, I3, q2⟩
  | _ => exact hq.elim
/-- what the class must be -/
structure ClF (K : PySem.W.Frag) (mg : Str → Option Value) (C : Str) : Prop where
  cls : Cls K (He.ga K C)
  mak : Mk K (He.ga K C) (He.ma K (He.ga K C) "__init__")
  glo : mg C = some (.ref (He.ga K C))
def rLenO (C : Addr) (sp : Sp) (E : XK) : V → Hp → VK → Prop := fun x H Q => match x with
  | .ref a => ∃ dx fs, H a = some (.ins C dx fs) ∧ sp [.ref a] H (fun v H' => match v with | .int n => (0 ≤ n ∧ n < 2 ^ 62) ∧ Q (.int n) H' | _ => False) E
  | _ => False
def rEqO (C : Addr) (sp : Sp) : R2 := fun x y H Q => match x, y with
  | .ref a, .ref b => ∃ dx fs dy gs, H a = some (.ins C dx fs) ∧ H b = some (.ins C dy gs) ∧ sp [.ref a, .ref b] H (fun v H' => match v with | .bl r => Q (.bl r) H' | _ => False) E0
  | _, _ => False
def cIsC (K : PySem.W.Frag) (C : Addr) : V → Hp → VK → Prop := fun x H Q => match x with
  | .ref a => ∃ dx fs, H a = some (.ins C dx fs) ∧ Q (.bl true) H
  | _ => False
structure IsF (K : PySem.W.Frag) (C : Str) : Prop where
  cl : Cls K (He.ga K C)
  ha : PySem.W.findIn K (.ref (He.ga K C)) "__class__" = some (some (.builtin "object.__class__"))
  hn : PySem.W.specialIn K (.builtin "object.__class__") "__get__" = some (some (.builtin "getset_descriptor.__get__"))
  htk : PySem.W.takesIn K (.builtin "object.__class__") = some true
  hm : PySem.W.mroIn K (He.ga K C) (.type "object") = some true
def cIsCL (K : PySem.W.Frag) (C : Addr) : List V → Hp → VK → Prop := fun xs H Q => match xs with
  | [x, .ref D] => D = C ∧ cIsC K C x H Q
  | _ => False
theorem call_isC (T : IsF X.K C) : CallR X (.builtin "isinstance") (cIsCL X.K (He.ga X.K C)) := CallR_imp call_isi fun xs H Q h => by
  match xs, h with
  | [x, .ref D], ⟨e, h⟩ =>
    subst e
    cases x with
    | ref a =>
      obtain ⟨dx, fs, ha, q⟩ := h
      exact ⟨.ref a, .ref (He.ga X.K C), .ref (He.ga X.K C), .ref (He.ga X.K C), true, rfl, .own _, .base (.ins ha T.cl T.ha T.hn T.htk T.hm), by unfold PySem.W.kitOne; rw [if_pos (by simp)], q⟩
    | _ => exact h.elim
def cIsCE (K : PySem.W.Frag) (C : Addr) (ta : TE) : TE := tCB (cIsCL K C) (tCons ta (tCons (tC (.ref C)) tNil))
theorem e_isC {a : Expr} {ta : TE} {q : Pos} (T : IsF X.K C) (hm : X.mg "isinstance" = none) (g : X.mg C = some (.ref (He.ga X.K C))) (ha : PE X a ta) (hg : Gl X "isinstance" := by rfl) (hgC : Gl X C := by rfl) (hdb : (C == ("__debug__" : Str)) = false := by decide)
    (hs : starEach [a, .Name C q] X.env = (false, eval a X.env) :: starEach [.Name C q] X.env := by rfl) : PE X (.Call (.Name "isinstance" p) [a, .Name C q] [] pos) (cIsCE X.K (He.ga X.K C) ta) :=
  pe_callB (call_isC T) hg hm boot_isinstance (pa_cons ha (pa_cons (pe_glob (v := .ref (He.ga X.K C)) hgC g rfl hdb) pa_nil) hs) (he := hs)
end
def clBody : Stmt → List Stmt
  | .ClassDef _ _ _ b _ _ _ _ _ _ _ => b
  | _ => []
abbrev FnM (K : PySem.W.Frag) (C m q : Str) (st : Stmt) : Prop := ∃ fd, FunD K m q (defArgs st) (defBody st) (defScope st) [] [] (He.ma K (He.ga K C) m) fd
section
variable {P : Program} {w : World} {K : PySem.W.Frag} {mg : Str → Option Value} {base : Heap}
theorem okMX_of {C m q : Str} {st : Stmt} {N ps : List Str} {k : Nat} {sp : Sp} (F : FnM K C m q st) (g : Meth K (He.ga K C) m (He.ma K (He.ga K C) m)) (S : FnScope N ps (defScope st)) (len : ∀ vs H Q E, sp vs H Q E → vs.length = ps.length)
    (bnd : ∀ (kV doc pm : Value) (an : Option Addr) (cdv ct : Value) (us : List Value), us.length = ps.length → bindArgs (PySem.W.fnOf m q (defArgs st) (defBody st) (defScope st) .none kV doc pm an cdv ct) ⟨us, []⟩ = pure (ps.zip us))
    (hbody : ∀ (cdv : Value) (A : Around) (outer : List Env) (s : Shared) (H : Hp) (vs : List V) (Q : VK) (E : XK), Room k (A.deeper (envOfC q (defScope st) s.heap.objs.size (He.ma K (He.ga K C) m) cdv)) → sp vs H Q E →
      ∃ t, PSs (cxOf (L2.CX P w) P w K mg base N q (defScope st) (He.ma K (He.ga K C) m) cdv A outer s H E) (defBody st) t ∧ t { nx := fun _ H' => Q .non H', rt := Q } (start N vs) H) : OkMX P w K mg base (k + 1) C m ps sp := by
  obtain ⟨fd, F⟩ := F
  exact ⟨⟨fd, FunD.ok F S len fun cdv A outer s H vs Q E hr hsp => hbody cdv A outer s H vs Q E hr hsp, F.bindsN bnd⟩, g⟩
end
end PH

namespace PH
open PySem PySem.Spec PyProof.Rows L2
/-- a thing that never changes: a tree -/
inductive D where
  | non | bl (b : Bool) | int (i : Int) | str (x : Str) | lst (xs : List D) | tup (xs : List D) | ins (C : Str) (ns : List Str) (xs : List D) | dct
/-- what a name holds: a tree, a cell of the store, a list of cells, the script -/
inductive Vl where
  | dat (d : D) | cel (n : Nat) | cels (ns : List Nat) | scr (ns : List Int)
/-- what a cell holds -/
inductive Cell where
  | dead | lst (xs : List D) | ins (C : Str) (fs : List (Str × Vl)) | dct (fs : List (Str × Vl)) | lv (xs : List Vl)
abbrev Sto := List Cell
abbrev Ev := List (Option Vl)
/-- an exception: its class, its fields -/
structure Er where
  cls : Str
  ns : List Str := []
  xs : List D := []
inductive Res (α : Type) where
  | ok (a : α) (S : Sto) | err (e : Er) (S : Sto) | stuck
def Res.bind {α β : Type} (r : Res α) (k : α → Sto → Res β) : Res β := match r with
  | .ok a S => k a S
  | .err e S => .err e S
  | .stuck => .stuck
/-- the address of a living cell -/
def Alive (φ : List Addr) (S : Sto) (a : Addr) : Prop := ∃ (n : Nat) (c : Cell), S[n]? = some c ∧ c ≠ .dead ∧ φ[n]? = some a
def Blk (B : Addr → Prop) (φ : List Addr) (S : Sto) (a : Addr) : Prop := B a ∨ Alive φ S a
mutual
/-- the tree d is at v -/
def Rep (K : PySem.W.Frag) (Bk : Addr → Prop) (H : Hp) : D → V → Prop
  | .non, v => v = .non
  | .bl b, v => v = .bl b
  | .int i, v => v = .int i
  | .str x, v => v = .str x
  | .lst ds, v => ∃ a vs, v = .ref a ∧ ¬ Bk a ∧ H a = some (.lst vs) ∧ RepL K Bk H ds vs
  | .tup ds, v => ∃ a vs, v = .ref a ∧ SqT K H a vs ∧ RepL K Bk H ds vs
  | .ins C ns ds, v => ∃ a dx vs, v = .ref a ∧ ¬ Bk a ∧ H a = some (.ins (He.ga K C) dx (ns.zip vs)) ∧ RepL K Bk H ds vs
  | .dct, v => ∃ a, v = .ref a ∧ ¬ Bk a ∧ H a = some (.dK [])
def RepL (K : PySem.W.Frag) (Bk : Addr → Prop) (H : Hp) : List D → List V → Prop
  | [], vs => vs = []
  | d :: ds, vs => ∃ v ws, vs = v :: ws ∧ Rep K Bk H d v ∧ RepL K Bk H ds ws
end
structure Kp (Bk : Addr → Prop) (H : Hp) (Bk' : Addr → Prop) (H' : Hp) : Prop where
  old : ∀ b o, H b = some o → ¬ Bk b → H' b = some o ∧ ¬ Bk' b
  tup : ∀ b u, Rd H b (.tup u) → Rd H' b (.tup u)
theorem SqT.kp {K : PySem.W.Frag} {H H' : Hp} {a : Addr} {vs : List V} (t : ∀ b u, Rd H b (.tup u) → Rd H' b (.tup u)) (h : SqT K H a vs) : SqT K H' a vs := by
  rcases h with h | h
  · exact .inl (t _ _ h)
  · exact .inr h
mutual
theorem Rep.kp {K : PySem.W.Frag} {Bk Bk' : Addr → Prop} {H H' : Hp} (k : Kp Bk H Bk' H') : ∀ (d : D) (v : V), Rep K Bk H d v → Rep K Bk' H' d v
  | .non, v, h => h
  | .bl b, v, h => h
  | .int i, v, h => h
  | .str x, v, h => h
  | .lst ds, v, ⟨a, vs, e, nb, h, r⟩ => ⟨a, vs, e, (k.old _ _ h nb).2, (k.old _ _ h nb).1, RepL.kp k ds vs r⟩
  | .tup ds, v, ⟨a, vs, e, h, r⟩ => ⟨a, vs, e, SqT.kp k.tup h, RepL.kp k ds vs r⟩
  | .ins C ns ds, v, ⟨a, dx, vs, e, nb, h, r⟩ => ⟨a, dx, vs, e, (k.old _ _ h nb).2, (k.old _ _ h nb).1, RepL.kp k ds vs r⟩
  | .dct, v, ⟨a, e, nb, h⟩ => ⟨a, e, (k.old _ _ h nb).2, (k.old _ _ h nb).1⟩
theorem RepL.kp {K : PySem.W.Frag} {Bk Bk' : Addr → Prop} {H H' : Hp} (k : Kp Bk H Bk' H') : ∀ (ds : List D) (vs : List V), RepL K Bk H ds vs → RepL K Bk' H' ds vs
  | [], vs, h => h
  | d :: ds, vs, ⟨v, ws, e, h1, h2⟩ => ⟨v, ws, e, Rep.kp k d v h1, RepL.kp k ds ws h2⟩
end
/-- the script: it is known, or written -/
def ScrAt (K : PySem.W.Frag) (H : Hp) (a : Addr) (vs : List V) : Prop := (∃ o, H a = some (.frz o (.lst vs))) ∨ SqL K (fun _ => none) a vs
theorem ScrAt.sq {K : PySem.W.Frag} {H : Hp} {a : Addr} {vs : List V} (h : ScrAt K H a vs) : SqL K H a vs := by
  rcases h with ⟨o, h⟩ | (h | ⟨o, h⟩) | h
  · exact .inl (.inr ⟨o, h⟩)
  · cases h
  · cases h
  · exact .inr h
theorem ScrAt.keep {K : PySem.W.Frag} {H H' : Hp} {a : Addr} {vs : List V} (h : ScrAt K H a vs) (k : ∀ o u, H a = some (.frz o u) → H' a = some (.frz o u)) : ScrAt K H' a vs := by
  rcases h with ⟨o, h⟩ | h
  · exact .inl ⟨o, k _ _ h⟩
  · exact .inr h
/-- what a name holds is at v -/
def RepV (K : PySem.W.Frag) (B : Addr → Prop) (φ : List Addr) (S : Sto) (H : Hp) : Vl → V → Prop
  | .dat d, v => Rep K (Blk B φ S) H d v
  | .cel n, v => ∃ a, v = .ref a ∧ φ[n]? = some a
  | .cels ns, v => ∃ (a : Addr) (as : List Addr), v = .ref a ∧ ¬ Blk B φ S a ∧ H a = some (.lst (as.map V.ref)) ∧ ns.map (fun n => φ[n]?) = as.map some
  | .scr ns, v => ∃ a, v = .ref a ∧ ScrAt K H a (ns.map V.int)
def RepVs (K : PySem.W.Frag) (B : Addr → Prop) (φ : List Addr) (S : Sto) (H : Hp) : List Vl → List V → Prop
  | [], vs => vs = []
  | d :: ds, vs => ∃ v ws, vs = v :: ws ∧ RepV K B φ S H d v ∧ RepVs K B φ S H ds ws
def RepF (K : PySem.W.Frag) (B : Addr → Prop) (φ : List Addr) (S : Sto) (H : Hp) : List (Str × Vl) → List (Str × V) → Prop
  | [], vs => vs = []
  | d :: ds, vs => ∃ v ws, vs = (d.1, v) :: ws ∧ RepV K B φ S H d.2 v ∧ RepF K B φ S H ds ws
def kvOf (fs : List (Str × V)) : List (Key × V) := fs.map fun p => (Sum.inr p.1, p.2)
def CellOk (K : PySem.W.Frag) (B : Addr → Prop) (φ : List Addr) (S : Sto) (H : Hp) : Cell → Addr → Prop
  | .dead, _ => True
  | .lst ds, a => ∃ vs, H a = some (.lst vs) ∧ RepL K (Blk B φ S) H ds vs
  | .ins C fs, a => ∃ dx vfs, H a = some (.ins (He.ga K C) dx vfs) ∧ RepF K B φ S H fs vfs
  | .dct fs, a => ∃ vfs, H a = some (.dK (kvOf vfs)) ∧ RepF K B φ S H fs vfs
  | .lv xs, a => ∃ vs, H a = some (.lst vs) ∧ RepVs K B φ S H xs vs
structure GInv (K : PySem.W.Frag) (B : Addr → Prop) (φ : List Addr) (S : Sto) (H : Hp) : Prop where
  len : φ.length = S.length
  ok : ∀ (n : Nat) (c : Cell) (a : Addr), S[n]? = some c → φ[n]? = some a → CellOk K B φ S H c a
  inj : ∀ (n m : Nat) (c c' : Cell) (a : Addr), S[n]? = some c → c ≠ .dead → S[m]? = some c' → c' ≠ .dead → φ[n]? = some a → φ[m]? = some a → n = m
  blk : ∀ a, Alive φ S a → ¬ B a
  btr : ∀ a, B a → ∃ o, H a = some o
structure Ext (φ : List Addr) (S : Sto) (H : Hp) (φ' : List Addr) (S' : Sto) (H' : Hp) : Prop where
  old : ∀ b o, H b = some o → ¬ Alive φ S b → H' b = some o ∧ ¬ Alive φ' S' b
  ids : ∀ (n : Nat) (a : Addr), φ[n]? = some a → φ'[n]? = some a
section
variable {K : PySem.W.Frag} {B : Addr → Prop} {φ φ' φ₂ : List Addr} {S S' S₂ : Sto} {H H' H₂ : Hp}
theorem Ext.refl : Ext φ S H φ S H := ⟨fun _ _ h n => ⟨h, n⟩, fun _ _ h => h⟩
theorem Ext.trans (a : Ext φ S H φ' S' H') (b : Ext φ' S' H' φ₂ S₂ H₂) : Ext φ S H φ₂ S₂ H₂ :=
  ⟨fun c o h n => b.old c o (a.old c o h n).1 (a.old c o h n).2, fun n x h => b.ids n x (a.ids n x h)⟩
/-- what a living cell's address bears -/
theorem GInv.at_ (I : GInv K B φ S H) {a : Addr} (h : Alive φ S a) : (∃ vs, H a = some (.lst vs)) ∨ (∃ C dx fs, H a = some (.ins C dx fs)) ∨ ∃ kvs, H a = some (.dK kvs) := by
  obtain ⟨n, c, h1, h2, h3⟩ := h
  have q := I.ok n c a h1 h3
  cases c with
  | dead => exact absurd rfl h2
  | lst ds => obtain ⟨vs, e, _⟩ := q; exact .inl ⟨vs, e⟩
  | ins C fs => obtain ⟨dx, vs, e, _⟩ := q; exact .inr (.inl ⟨_, dx, vs, e⟩)
  | dct fs => obtain ⟨vs, e, _⟩ := q; exact .inr (.inr ⟨_, e⟩)
  | lv xs => obtain ⟨vs, e, _⟩ := q; exact .inl ⟨vs, e⟩
theorem GInv.some_ (I : GInv K B φ S H) {a : Addr} (h : Alive φ S a) : H a ≠ none := by
  rcases I.at_ h with ⟨_, e⟩ | ⟨_, _, _, e⟩ | ⟨_, e⟩ <;> rw [e] <;> simp
theorem GInv.fresh (I : GInv K B φ S H) {a : Addr} (h : H a = none) : ¬ Alive φ S a := fun q => I.some_ q h
theorem GInv.nblk (I : GInv K B φ S H) {a : Addr} (h : H a = none) : ¬ Blk B φ S a := fun q => by
  rcases q with q | q
  · obtain ⟨u, e⟩ := I.btr a q; rw [h] at e; cases e
  · exact I.fresh h q
theorem GInv.ntup (I : GInv K B φ S H) {a : Addr} {xs : List V} (h : H a = some (.tup xs)) : ¬ Alive φ S a := fun q => by
  rcases I.at_ q with ⟨_, e⟩ | ⟨_, _, _, e⟩ | ⟨_, e⟩ <;> rw [h] at e <;> cases e
theorem GInv.nfrz (I : GInv K B φ S H) {a : Addr} {o : Obj} {u : HO} (h : H a = some (.frz o u)) : ¬ Alive φ S a := fun q => by
  rcases I.at_ q with ⟨_, e⟩ | ⟨_, _, _, e⟩ | ⟨_, e⟩ <;> rw [h] at e <;> cases e
theorem Ext.kp (e : Ext φ S H φ' S' H') (I : GInv K B φ S H) : Kp (Blk B φ S) H (Blk B φ' S') H' where
  old := fun b o h n => by
    obtain ⟨h1, h2⟩ := e.old b o h (fun q => n (.inr q))
    exact ⟨h1, fun q => by
      rcases q with q | q
      · exact n (.inl q)
      · exact h2 q⟩
  tup := fun b u h => by
    rcases h with h | ⟨o, h⟩
    · exact .inl (e.old _ _ h (I.ntup h)).1
    · exact .inr ⟨o, (e.old _ _ h (I.nfrz h)).1⟩
theorem map_ids (e : ∀ (n : Nat) (a : Addr), φ[n]? = some a → φ'[n]? = some a) : ∀ (ns : List Nat) (as : List Addr), ns.map (fun n => φ[n]?) = as.map some → ns.map (fun n => φ'[n]?) = as.map some
  | [], as, h => h
  | n :: ns, [], h => by simp at h
  | n :: ns, a :: as, h => by
    simp only [List.map_cons, List.cons.injEq] at h ⊢
    exact ⟨e _ _ h.1, map_ids e ns as h.2⟩
theorem RepV.ext (e : Ext φ S H φ' S' H') (I : GInv K B φ S H) : ∀ {d : Vl} {v : V}, RepV K B φ S H d v → RepV K B φ' S' H' d v
  | .dat d, v, h => Rep.kp (e.kp I) d v h
  | .cel n, v, ⟨a, h1, h2⟩ => ⟨a, h1, e.ids _ _ h2⟩
  | .cels ns, v, ⟨a, as, h1, h2, h3, h4⟩ => ⟨a, as, h1, ((e.kp I).old _ _ h3 h2).2, ((e.kp I).old _ _ h3 h2).1, map_ids e.ids ns as h4⟩
  | .scr ns, v, ⟨a, h1, h2⟩ => ⟨a, h1, h2.keep fun o u h => (e.old _ _ h (I.nfrz h)).1⟩
theorem RepVs.ext (e : Ext φ S H φ' S' H') (I : GInv K B φ S H) : ∀ {ds : List Vl} {vs : List V}, RepVs K B φ S H ds vs → RepVs K B φ' S' H' ds vs
  | [], vs, h => h
  | d :: ds, vs, ⟨v, ws, e1, h1, h2⟩ => ⟨v, ws, e1, h1.ext e I, RepVs.ext e I h2⟩
theorem RepF.ext (e : Ext φ S H φ' S' H') (I : GInv K B φ S H) : ∀ {ds : List (Str × Vl)} {vs : List (Str × V)}, RepF K B φ S H ds vs → RepF K B φ' S' H' ds vs
  | [], vs, h => h
  | d :: ds, vs, ⟨v, ws, e1, h1, h2⟩ => ⟨v, ws, e1, h1.ext e I, RepF.ext e I h2⟩
theorem Ext.repL (e : Ext φ S H φ' S' H') (I : GInv K B φ S H) {ds : List D} {vs : List V} (h : RepL K (Blk B φ S) H ds vs) : RepL K (Blk B φ' S') H' ds vs := RepL.kp (e.kp I) ds vs h
theorem repVs_map {B' : Addr → Prop} (hV : ∀ {d : Vl} {v : V}, RepV K B φ S H d v → RepV K B' φ' S' H' d v) : ∀ {ds : List Vl} {vs : List V}, RepVs K B φ S H ds vs → RepVs K B' φ' S' H' ds vs
  | [], vs, h => h
  | d :: ds, vs, ⟨v, ws, e1, h1, h2⟩ => ⟨v, ws, e1, hV h1, repVs_map hV h2⟩
def RepE (K : PySem.W.Frag) (B : Addr → Prop) (φ : List Addr) (S : Sto) (H : Hp) (ρ : Ev) (σ : L2.St) : Prop :=
  ρ.length = σ.length ∧ ∀ (i : Nat) (d : Vl), ρ[i]? = some (some d) → ∃ v, σ[i]? = some (some v) ∧ RepV K B φ S H d v
theorem RepE.ext {ρ : Ev} {σ : L2.St} (e : Ext φ S H φ' S' H') (I : GInv K B φ S H) (h : RepE K B φ S H ρ σ) : RepE K B φ' S' H' ρ σ :=
  ⟨h.1, fun i d q => by
    obtain ⟨v, h1, h2⟩ := h.2 i d q
    exact ⟨v, h1, h2.ext e I⟩⟩
theorem RepE.set {ρ : Ev} {σ : L2.St} {d : Vl} {v : V} (h : RepE K B φ S H ρ σ) (r : RepV K B φ S H d v) (i : Nat) : RepE K B φ S H (ρ.set i (some d)) (σ.set i (some v)) := by
  refine ⟨by simp [h.1], fun j d' q => ?_⟩
  rw [List.getElem?_set] at q ⊢
  by_cases e : i = j
  · subst e
    rw [if_pos rfl] at q ⊢
    by_cases hl : i < ρ.length
    · rw [if_pos hl] at q
      cases q
      rw [if_pos (by rw [← h.1]; exact hl)]
      exact ⟨v, rfl, r⟩
    · rw [if_neg hl] at q; cases q
  · rw [if_neg e] at q ⊢
    exact h.2 j d' q
theorem RepE.forget {ρ : Ev} {σ : L2.St} (h : RepE K B φ S H ρ σ) (i : Nat) : RepE K B φ S H (ρ.set i none) σ := by
  refine ⟨by simp [h.1], fun j d' q => ?_⟩
  rw [List.getElem?_set] at q
  by_cases e : i = j
  · subst e
    rw [if_pos rfl] at q
    by_cases hl : i < ρ.length
    · rw [if_pos hl] at q; cases q
    · rw [if_neg hl] at q; cases q
  · rw [if_neg e] at q
    exact h.2 j d' q
theorem alive_app {x : Cell} {p a : Addr} (hl : φ.length = S.length) : Alive (φ ++ [p]) (S ++ [x]) a ↔ Alive φ S a ∨ (x ≠ .dead ∧ a = p) := by
  constructor
  · rintro ⟨n, c, h1, h2, h3⟩
    by_cases hn : n < S.length
    · rw [List.getElem?_append_left hn] at h1
      rw [List.getElem?_append_left (by omega)] at h3
      exact .inl ⟨n, c, h1, h2, h3⟩
    · have e : n = S.length := by
        have := (List.getElem?_eq_some_iff.mp h1).1
        simp at this
        omega
      subst e
      rw [List.getElem?_append_right (Nat.le_refl _)] at h1
      rw [← hl, List.getElem?_append_right (Nat.le_refl _)] at h3
      simp at h1 h3
      subst h1
      exact .inr ⟨h2, h3.symm⟩
  · rintro (⟨n, c, h1, h2, h3⟩ | ⟨h, rfl⟩)
    · exact ⟨n, c, by rw [List.getElem?_append_left (List.getElem?_eq_some_iff.mp h1).1]; exact h1, h2, by rw [List.getElem?_append_left (List.getElem?_eq_some_iff.mp h3).1]; exact h3⟩
    · exact ⟨S.length, x, by simp, h, by rw [← hl]; simp⟩
/-- a new tracked object, no cell -/
theorem Ext.new {p : Addr} {o : HO} (I : GInv K B φ S H) (hp : H p = none) : Ext φ S H φ S (upd H p o) :=
  ⟨fun b u h n => ⟨by rw [upd_ne (ne_of_none h hp)]; exact h, n⟩, fun _ _ h => h⟩
theorem GInv.mono {o : Ext φ S H φ S H'} (I : GInv K B φ S H) (h : ∀ (n : Nat) (c : Cell) (a : Addr), S[n]? = some c → c ≠ .dead → φ[n]? = some a → H' a = H a) : GInv K B φ S H' where
  len := I.len
  ok := fun n c a h1 h2 => by
    have q := I.ok n c a h1 h2
    cases c with
    | dead => trivial
    | lst ds => obtain ⟨vs, e, r⟩ := q; exact ⟨vs, by rw [h n _ a h1 (by simp) h2]; exact e, o.repL I r⟩
    | ins C fs => obtain ⟨dx, vs, e, r⟩ := q; exact ⟨dx, vs, by rw [h n _ a h1 (by simp) h2]; exact e, r.ext o I⟩
    | dct fs => obtain ⟨vs, e, r⟩ := q; exact ⟨vs, by rw [h n _ a h1 (by simp) h2]; exact e, r.ext o I⟩
    | lv xs => obtain ⟨vs, e, r⟩ := q; exact ⟨vs, by rw [h n _ a h1 (by simp) h2]; exact e, r.ext o I⟩
  inj := I.inj
  blk := I.blk
  btr := fun a h => by
    obtain ⟨u, e⟩ := I.btr a h
    exact ⟨u, (o.old a u e fun q => I.blk a q h).1⟩
theorem GInv.new {p : Addr} {o : HO} (I : GInv K B φ S H) (hp : H p = none) : GInv K B φ S (upd H p o) :=
  GInv.mono (o := Ext.new I hp) I fun n c a h1 h2 h3 => by
    rw [upd_ne]
    intro e
    subst e
    exact I.fresh hp ⟨n, c, h1, h2, h3⟩
/-- a new tracked object that is a cell -/
theorem Ext.newC {p : Addr} {o : HO} {x : Cell} (I : GInv K B φ S H) (hp : H p = none) : Ext φ S H (φ ++ [p]) (S ++ [x]) (upd H p o) where
  old := fun b u h n => by
    have hb : b ≠ p := ne_of_none h hp
    exact ⟨by rw [upd_ne hb]; exact h, fun q => by
      rcases (alive_app I.len).mp q with q | ⟨_, q⟩
      · exact n q
      · exact hb q⟩
  ids := fun n a h => by rw [List.getElem?_append_left (List.getElem?_eq_some_iff.mp h).1]; exact h
theorem GInv.newC {p : Addr} {o : HO} {x : Cell} (I : GInv K B φ S H) (hp : H p = none) (hx : x ≠ .dead → CellOk K B (φ ++ [p]) (S ++ [x]) (upd H p o) x p) : GInv K B (φ ++ [p]) (S ++ [x]) (upd H p o) where
  len := by simp [I.len]
  ok := fun n c a h1 h2 => by
    by_cases hn : n < S.length
    · rw [List.getElem?_append_left hn] at h1
      rw [List.getElem?_append_left (by rw [I.len]; exact hn)] at h2
      have q := I.ok n c a h1 h2
      have ex := Ext.newC (o := o) (x := x) I hp
      have ha : c ≠ .dead → upd H p o a = H a := fun hc => by
        rw [upd_ne]
        intro e
        subst e
        exact I.fresh hp ⟨n, c, h1, hc, h2⟩
      cases c with
      | dead => trivial
      | lst ds => obtain ⟨vs, e, r⟩ := q; exact ⟨vs, by rw [ha (by simp)]; exact e, ex.repL I r⟩
      | ins C fs => obtain ⟨dx, vs, e, r⟩ := q; exact ⟨dx, vs, by rw [ha (by simp)]; exact e, r.ext ex I⟩
      | dct fs => obtain ⟨vs, e, r⟩ := q; exact ⟨vs, by rw [ha (by simp)]; exact e, r.ext ex I⟩
      | lv xs => obtain ⟨vs, e, r⟩ := q; exact ⟨vs, by rw [ha (by simp)]; exact e, r.ext ex I⟩
    · have e : n = S.length := by
        have := (List.getElem?_eq_some_iff.mp h1).1
        simp at this
        omega
      subst e
      rw [List.getElem?_append_right (Nat.le_refl _)] at h1
      rw [← I.len, List.getElem?_append_right (Nat.le_refl _)] at h2
      simp at h1 h2
      subst h1 h2
      cases x with
      | dead => trivial
      | _ => exact hx (by simp)
  inj := fun n m c c' a h1 h2 h3 h4 h5 h6 => by
    have key : ∀ (n : Nat) (c : Cell), (S ++ [x])[n]? = some c → (n < S.length ∧ S[n]? = some c) ∨ n = S.length := fun n c h => by
      by_cases hn : n < S.length
      · rw [List.getElem?_append_left hn] at h; exact .inl ⟨hn, h⟩
      · have := (List.getElem?_eq_some_iff.mp h).1
        simp at this
        exact .inr (by omega)
    have kφ : ∀ n : Nat, n < S.length → (φ ++ [p])[n]? = φ[n]? := fun n hn => List.getElem?_append_left (by rw [I.len]; exact hn)
    have kp : (φ ++ [p])[S.length]? = some p := by rw [← I.len]; simp
    rcases key n c h1 with ⟨hn, e1⟩ | e1 <;> rcases key m c' h3 with ⟨hm, e2⟩ | e2
    · rw [kφ n hn] at h5
      rw [kφ m hm] at h6
      exact I.inj n m c c' a e1 h2 e2 h4 h5 h6
    · subst e2
      rw [kp] at h6
      cases h6
      rw [kφ n hn] at h5
      exact absurd ⟨n, c, e1, h2, h5⟩ (I.fresh hp)
    · subst e1
      rw [kp] at h5
      cases h5
      rw [kφ m hm] at h6
      exact absurd ⟨m, c', e2, h4, h6⟩ (I.fresh hp)
    · omega
  blk := fun a h => by
    rcases (alive_app I.len).mp h with h | ⟨_, h⟩
    · exact I.blk a h
    · rw [h]; intro q; obtain ⟨u, e⟩ := I.btr p q; rw [hp] at e; cases e
  btr := fun a h => by
    obtain ⟨u, e⟩ := I.btr a h
    exact ⟨u, by rw [upd_ne (ne_of_none e hp)]; exact e⟩
theorem alive_set {n : Nat} {c x : Cell} {a : Addr} (h : S[n]? = some c) (hc : c ≠ .dead) (hx : x ≠ .dead) : Alive φ (S.set n x) a ↔ Alive φ S a := by
  constructor
  · rintro ⟨m, c', h1, h2, h3⟩
    rw [List.getElem?_set] at h1
    by_cases e : n = m
    · subst e
      exact ⟨n, c, h, hc, h3⟩
    · rw [if_neg e] at h1
      exact ⟨m, c', h1, h2, h3⟩
  · rintro ⟨m, c', h1, h2, h3⟩
    by_cases e : n = m
    · subst e
      exact ⟨n, x, by rw [List.getElem?_set, if_pos rfl, if_pos (List.getElem?_eq_some_iff.mp h).1], hx, h3⟩
    · exact ⟨m, c', by rw [List.getElem?_set, if_neg e]; exact h1, h2, h3⟩
theorem alive_kill {n : Nat} {a : Addr} (h : Alive φ (S.set n .dead) a) : Alive φ S a := by
  obtain ⟨m, c', h1, h2, h3⟩ := h
  rw [List.getElem?_set] at h1
  by_cases e : n = m
  · rw [if_pos e] at h1
    by_cases hl : n < S.length
    · rw [if_pos hl] at h1; cases h1; exact absurd rfl h2
    · rw [if_neg hl] at h1; cases h1
  · rw [if_neg e] at h1
    exact ⟨m, c', h1, h2, h3⟩
theorem Ext.put {n : Nat} {c x : Cell} {a : Addr} {o : HO} (hn : S[n]? = some c) (hc : c ≠ .dead) (ha : φ[n]? = some a) (hx : x ≠ .dead) : Ext φ S H φ (S.set n x) (upd H a o) where
  old := fun b u h nb => by
    have hb : b ≠ a := fun e => by subst e; exact nb ⟨n, c, hn, hc, ha⟩
    exact ⟨by rw [upd_ne hb]; exact h, fun q => nb ((alive_set hn hc hx).mp q)⟩
  ids := fun _ _ h => h
theorem GInv.put {n : Nat} {c x : Cell} {a : Addr} {o : HO} (I : GInv K B φ S H) (hn : S[n]? = some c) (hc : c ≠ .dead) (ha : φ[n]? = some a) (hx : x ≠ .dead) (ok : CellOk K B φ (S.set n x) (upd H a o) x a) : GInv K B φ (S.set n x) (upd H a o) where
  len := by simp [I.len]
  ok := fun m c' b h1 h2 => by
    by_cases e : n = m
    · subst e
      rw [List.getElem?_set, if_pos rfl, if_pos (List.getElem?_eq_some_iff.mp hn).1] at h1
      cases h1
      rw [ha] at h2
      cases h2
      exact ok
    · rw [List.getElem?_set, if_neg e] at h1
      have q := I.ok m c' b h1 h2
      have ex := Ext.put (H := H) (o := o) hn hc ha hx
      have hb : c' ≠ .dead → upd H a o b = H b := fun hc' => upd_ne fun e2 => by
        subst e2
        exact e (I.inj n m c c' b hn hc h1 hc' ha h2)
      cases c' with
      | dead => trivial
      | lst ds => obtain ⟨vs, e, r⟩ := q; exact ⟨vs, by rw [hb (by simp)]; exact e, ex.repL I r⟩
      | ins C fs => obtain ⟨dx, vs, e, r⟩ := q; exact ⟨dx, vs, by rw [hb (by simp)]; exact e, r.ext ex I⟩
      | dct fs => obtain ⟨vs, e, r⟩ := q; exact ⟨vs, by rw [hb (by simp)]; exact e, r.ext ex I⟩
      | lv xs => obtain ⟨vs, e, r⟩ := q; exact ⟨vs, by rw [hb (by simp)]; exact e, r.ext ex I⟩
  inj := fun i j d d' b h1 h2 h3 h4 h5 h6 => by
    have key : ∀ (i : Nat) (d : Cell), (S.set n x)[i]? = some d → d ≠ .dead → ∃ d0, S[i]? = some d0 ∧ d0 ≠ .dead := fun i d h hd => by
      by_cases e : n = i
      · subst e; exact ⟨c, hn, hc⟩
      · rw [List.getElem?_set, if_neg e] at h; exact ⟨d, h, hd⟩
    obtain ⟨d0, e1, e2⟩ := key i d h1 h2
    obtain ⟨d1, e3, e4⟩ := key j d' h3 h4
    exact I.inj i j d0 d1 b e1 e2 e3 e4 h5 h6
  blk := fun b h => I.blk b ((alive_set hn hc hx).mp h)
  btr := fun b h => by
    obtain ⟨u, e⟩ := I.btr b h
    exact ⟨u, by rw [upd_ne]; exact e; intro q; subst q; exact I.blk b ⟨n, c, hn, hc, ha⟩ h⟩
theorem Ext.kill {n : Nat} : Ext φ S H φ (S.set n .dead) H := ⟨fun b o h nb => ⟨h, fun q => nb (alive_kill q)⟩, fun _ _ h => h⟩
theorem GInv.kill {n : Nat} (I : GInv K B φ S H) : GInv K B φ (S.set n .dead) H where
  len := by simp [I.len]
  ok := fun m c' b h1 h2 => by
    by_cases e : n = m
    · rw [List.getElem?_set, if_pos e] at h1
      by_cases hl : n < S.length
      · rw [if_pos hl] at h1; cases h1; trivial
      · rw [if_neg hl] at h1; cases h1
    · rw [List.getElem?_set, if_neg e] at h1
      have q := I.ok m c' b h1 h2
      have ex := Ext.kill (φ := φ) (S := S) (H := H) (n := n)
      cases c' with
      | dead => trivial
      | lst ds => obtain ⟨vs, e, r⟩ := q; exact ⟨vs, e, ex.repL I r⟩
      | ins C fs => obtain ⟨dx, vs, e, r⟩ := q; exact ⟨dx, vs, e, r.ext ex I⟩
      | dct fs => obtain ⟨vs, e, r⟩ := q; exact ⟨vs, e, r.ext ex I⟩
      | lv xs => obtain ⟨vs, e, r⟩ := q; exact ⟨vs, e, r.ext ex I⟩
  inj := fun i j d d' b h1 h2 h3 h4 h5 h6 => by
    have key : ∀ (i : Nat) (d : Cell), (S.set n .dead)[i]? = some d → d ≠ .dead → S[i]? = some d := fun i d h hd => by
      rw [List.getElem?_set] at h
      by_cases e : n = i
      · rw [if_pos e] at h
        by_cases hl : n < S.length
        · rw [if_pos hl] at h; cases h; exact absurd rfl hd
        · rw [if_neg hl] at h; cases h
      · rw [if_neg e] at h; exact h
    exact I.inj i j d d' b (key i d h1 h2) h2 (key j d' h3 h4) h4 h5 h6
  blk := fun b h => I.blk b (alive_kill h)
  btr := I.btr
/-- a killed cell's address is free -/
theorem GInv.killed {n : Nat} {c : Cell} {a : Addr} (I : GInv K B φ S H) (hn : S[n]? = some c) (hc : c ≠ .dead) (ha : φ[n]? = some a) : ¬ Blk B φ (S.set n .dead) a := fun q => by
  rcases q with q | ⟨m, c', h1, h2, h3⟩
  · exact I.blk a ⟨n, c, hn, hc, ha⟩ q
  · rw [List.getElem?_set] at h1
    by_cases e : n = m
    · rw [if_pos e] at h1
      by_cases hl : n < S.length
      · rw [if_pos hl] at h1; cases h1; exact h2 rfl
      · rw [if_neg hl] at h1; cases h1
    · rw [if_neg e] at h1
      exact e (I.inj n m c c' a hn hc h1 h2 ha h3)
end
end PH

namespace PH
open PySem PySem.Spec PyProof.Rows L2
abbrev FE := Ev → Sto → Res Vl
abbrev FT := Ev → Sto → Res Bool
abbrev FA := Ev → Sto → Res (List Vl)
abbrev FO := Ev → Sto → Res (Option Int)
abbrev Rl (α β : Type) := (Addr → Prop) → List Addr → Sto → Hp → α → β → Prop
def RepX (K : PySem.W.Frag) (B : Addr → Prop) (φ : List Addr) (S : Sto) (H : Hp) (e : Er) (c : Value) (x : Option Addr) : Prop :=
  c = .ref (He.ga K e.cls) ∧ ((e.ns = [] ∧ x = none) ∨ ∃ d vs, x = some d ∧ H d = some (.xd (e.ns.zip vs)) ∧ RepL K (Blk B φ S) H e.xs vs)
section
variable {α β α' β' : Type}
def Fin (K : PySem.W.Frag) (W : WX) (σ : L2.St) (R : Rl α β) (B : Addr → Prop) (φ : List Addr) (S : Sto) (H : Hp) (r : Res α) (Q : β → Hp → Prop) : Prop := match r with
  | .ok d S' => ∀ φ' v H', GInv K B φ' S' H' → Ext φ S H φ' S' H' → R B φ' S' H' d v → Q v H'
  | .err e S' => ∀ φ' c x H', GInv K B φ' S' H' → Ext φ S H φ' S' H' → RepX K B φ' S' H' e c x → W c x σ H'
  | .stuck => False
def rd (K : PySem.W.Frag) (W : WX) (R : Rl α β) (m : Ev → Sto → Res α) : L2.St → Hp → (β → Hp → Prop) → Prop := fun σ H Q =>
  ∃ B φ S ρ, GInv K B φ S H ∧ RepE K B φ S H ρ σ ∧ Fin K W σ R B φ S H (m ρ S) Q
end
def RB : Rl Bool Bool := fun _ _ _ _ b c => c = b
def RO : Rl (Option Int) (Option Int) := fun _ _ _ _ b c => c = b
abbrev rdE (K : PySem.W.Frag) (W : WX) (m : FE) : TE := rd K W (RepV K) m
abbrev rdT (K : PySem.W.Frag) (W : WX) (m : FT) : TT := rd K W RB m
abbrev rdA (K : PySem.W.Frag) (W : WX) (m : FA) : TA := rd K W (RepVs K) m
abbrev rdO (K : PySem.W.Frag) (W : WX) (m : FO) : TO := rd K W RO m
section
variable {α β α' β' : Type} {K : PySem.W.Frag} {W : WX} {σ : L2.St} {R : Rl α β} {R' : Rl α' β'} {B : Addr → Prop} {φ φ' : List Addr} {S S' : Sto} {H H' : Hp}
theorem Fin.ext {r : Res α} {Q : β → Hp → Prop} (f : Fin K W σ R B φ S H r Q) (e : Ext φ S H φ' S' H') : Fin K W σ R B φ' S' H' r Q := by
  cases r with
  | ok d S1 => exact fun φ1 v H1 I1 X r => f φ1 v H1 I1 (e.trans X) r
  | err x S1 => exact fun φ1 c x H1 I1 X r => f φ1 c x H1 I1 (e.trans X) r
  | stuck => exact f
theorem rd_bind {m : Ev → Sto → Res α} {k : α → Ev → Sto → Res α'} {Q : β' → Hp → Prop} {Q1 : β → Hp → Prop} (h : rd K W R' (fun ρ S => (m ρ S).bind fun a S' => k a ρ S') σ H Q)
    (hk : ∀ B φ S ρ d v H1, GInv K B φ S H1 → RepE K B φ S H1 ρ σ → R B φ S H1 d v → Fin K W σ R' B φ S H1 (k d ρ S) Q → Q1 v H1) : rd K W R m σ H Q1 := by
  obtain ⟨B, φ, S, ρ, I, E, f⟩ := h
  refine ⟨B, φ, S, ρ, I, E, ?_⟩
  dsimp only at f
  cases e : m ρ S with
  | stuck => rw [e] at f; exact f
  | err x S' => rw [e] at f; exact f
  | ok d S' =>
    rw [e] at f
    exact fun φ' v H' I' X r => hk B φ' S' ρ d v H' I' (E.ext X I) r (Fin.ext f X)
/-- the same, from a state -/
theorem fin_bind {ρ : Ev} {m : Ev → Sto → Res α} {k : α → Sto → Res α'} {Q : β' → Hp → Prop} {Q1 : β → Hp → Prop} (I : GInv K B φ S H) (E : RepE K B φ S H ρ σ) (f : Fin K W σ R' B φ S H ((m ρ S).bind k) Q)
    (hk : ∀ φ' S' d v H1, GInv K B φ' S' H1 → Ext φ S H φ' S' H1 → RepE K B φ' S' H1 ρ σ → R B φ' S' H1 d v → Fin K W σ R' B φ' S' H1 (k d S') Q → Q1 v H1) : rd K W R m σ H Q1 := by
  refine ⟨B, φ, S, ρ, I, E, ?_⟩
  cases e : m ρ S with
  | stuck => rw [e] at f; exact f
  | err x S' => rw [e] at f; exact f
  | ok d S' =>
    rw [e] at f
    exact fun φ' v H' I' X r => hk φ' S' d v H' I' X (E.ext X I) r (Fin.ext f X)
theorem Fin.now {d : α} {v : β} {Q : β → Hp → Prop} (f : Fin K W σ R B φ S H (.ok d S) Q) (I : GInv K B φ S H) (r : R B φ S H d v) : Q v H := f φ v H I Ext.refl r
end
/-- a new list, as a tree or as a cell -/
def newL (c : Bool) (ds : List D) (S : Sto) : Res Vl := if c then .ok (.cel S.length) (S ++ [.lst ds]) else .ok (.dat (.lst ds)) S
section
variable {K : PySem.W.Frag} {W : WX} {σ : L2.St} {B : Addr → Prop} {φ φ' : List Addr} {S S' : Sto} {H H' : Hp} {Q : VK}
theorem getElem_app {l : List Addr} {p : Addr} : (l ++ [p])[l.length]? = some p := by simp
theorem Fin.newT {ds : List D} {vs : List V} {p : Addr} (f : Fin K W σ (RepV K) B φ S H (.ok (.dat (.tup ds)) S) Q) (I : GInv K B φ S H) (r : RepL K (Blk B φ S) H ds vs) (hp : H p = none) : Q (.ref p) (upd H p (.tup vs)) :=
  f φ _ _ (I.new hp) (Ext.new I hp) ⟨p, vs, rfl, .inl (.inl upd_same), (Ext.new I hp).repL I r⟩
theorem Fin.newL {c : Bool} {ds : List D} {vs : List V} {p : Addr} (f : Fin K W σ (RepV K) B φ S H (newL c ds S) Q) (I : GInv K B φ S H) (r : RepL K (Blk B φ S) H ds vs) (hp : H p = none) : Q (.ref p) (upd H p (.lst vs)) := by
  unfold PH.newL at f
  cases c with
  | false =>
    refine f φ _ _ (I.new hp) (Ext.new I hp) ⟨p, vs, rfl, I.nblk hp, upd_same, (Ext.new I hp).repL I r⟩
  | true =>
    have X := Ext.newC (o := .lst vs) (x := .lst ds) I hp
    refine f (φ ++ [p]) _ _ (I.newC hp fun _ => ⟨vs, upd_same, X.repL I r⟩) X ⟨p, rfl, ?_⟩
    rw [← I.len]
    exact getElem_app
end
end PH

namespace PH
open PySem PySem.Spec PyProof.Rows L2
instance instIntMulOk (a b : Int) : Decidable (IntMulOk a b) := by unfold IntMulOk; infer_instance
instance instCDiv (a b : Int) : Decidable (CDiv a b) := by unfold CDiv; infer_instance
instance instCPow (a b : Int) : Decidable (CPow a b) := by unfold CPow; infer_instance
def lk : Ev → Nat → Option Vl
  | [], _ => none
  | x :: _, 0 => x
  | _ :: r, n + 1 => lk r n
theorem lk_at : ∀ {ρ : Ev} {i : Nat} {d : Vl}, lk ρ i = some d → ρ[i]? = some (some d)
  | [], _, _, h => by cases h
  | x :: _, 0, d, h => by
    have e : x = some d := h
    rw [e]; rfl
  | _ :: r, n + 1, d, h => by
    have e := lk_at (ρ := r) (i := n) (d := d) h
    simpa using e
def mVar (i : Nat) : FE := fun ρ S => match lk ρ i with
  | some d => .ok d S
  | none => .stuck
def mC (d : D) : FE := fun _ S => .ok (.dat d) S
def mOp (f : Vl → Vl → Sto → Res Vl) (a b : FE) : FE := fun ρ S => (a ρ S).bind fun x S1 => (b ρ S1).bind fun y S2 => f x y S2
def m1 (f : Vl → Sto → Res Vl) (a : FE) : FE := fun ρ S => (a ρ S).bind fun x S1 => f x S1
def SimOp (K : PySem.W.Frag) (r : R2) (f : Vl → Vl → Sto → Res Vl) : Prop := ∀ {W : WX} {σ : L2.St} {B : Addr → Prop} {φ : List Addr} {S : Sto} {H : Hp} {x y : V} {d e : Vl} {Q : VK}, GInv K B φ S H → RepV K B φ S H d x → RepV K B φ S H e y → Fin K W σ (RepV K) B φ S H (f d e S) Q → r x y H Q
def Sim1 (K : PySem.W.Frag) (r : V → Hp → VK → Prop) (f : Vl → Sto → Res Vl) : Prop := ∀ {W : WX} {σ : L2.St} {B : Addr → Prop} {φ : List Addr} {S : Sto} {H : Hp} {x : V} {d : Vl} {Q : VK}, GInv K B φ S H → RepV K B φ S H d x → Fin K W σ (RepV K) B φ S H (f d S) Q → r x H Q
section
variable {X : Cx} {W : WX} {e a b c : Expr} {pos p : Pos} {x : Str}
theorem fv (i : Nat) (hN : X.N[i]? = some x := by rfl) (hv : Vis X.env.scope x := by first | exact Or.inl rfl | exact Or.inr (Or.inl rfl) | exact Or.inr (Or.inr rfl)) (hd : (x == ("__debug__" : Str)) = false := by decide)
    (hcd : (x == ("__classdict__" : Str)) = false := by decide) : PE X (.Name x pos) (rdE X.K W (mVar i)) := PE_imp (pe_var hN hv hd hcd) fun σ H Q h => by
  obtain ⟨B, φ, S, ρ, I, E, f⟩ := h
  unfold mVar at f
  cases q : lk ρ i with
  | none => rw [q] at f; exact f.elim
  | some d =>
    rw [q] at f
    obtain ⟨v, h1, h2⟩ := E.2 i d (lk_at q)
    exact ⟨v, h1, f.now I h2⟩
theorem fcst {v : V} {d : D} (h : PE X e (tC v)) (r : ∀ Bk H, Rep X.K Bk H d v) : PE X e (rdE X.K W (mC d)) := PE_imp h fun σ H Q h => by
  obtain ⟨B, φ, S, ρ, I, E, f⟩ := h
  exact Fin.now (v := v) f I (r _ _)
theorem sim_op {K : PySem.W.Frag} {r : R2} {f : Vl → Vl → Sto → Res Vl} {ma mb : FE} {σ : L2.St} {H : Hp} {Q : VK} (s : SimOp K r f) (h : rdE K W (mOp f ma mb) σ H Q) : tOp r (rdE K W ma) (rdE K W mb) σ H Q :=
  rd_bind (k := fun x ρ S => (mb ρ S).bind fun y S2 => f x y S2) h fun B φ S ρ d v H1 I E r1 f' => fin_bind I E f' fun φ' S' e w H2 I2 X2 E2 r2 f2 => s I2 (r1.ext X2 I) r2 f2
theorem f_op {op : Operator} {r : R2} {f : Vl → Vl → Sto → Res Vl} {ma mb : FE} (o : OpR X (binaryOp op) r) (s : SimOp X.K r f) (ha : PE X a (rdE X.K W ma)) (hb : PE X b (rdE X.K W mb)) : PE X (.BinOp a op b pos) (rdE X.K W (mOp f ma mb)) :=
  PE_imp (pe_op o ha hb) fun σ H Q h => sim_op s h
theorem f_cmp {op : CmpOp} {r : R2} {f : Vl → Vl → Sto → Res Vl} {ma mb : FE} (o : OpR X (compareOp op) r) (s : SimOp X.K r f) (ha : PE X a (rdE X.K W ma)) (hb : PE X b (rdE X.K W mb)) (hm : behindInMarks op b = false := by rfl) : PE X (.Compare a [op] [b] pos) (rdE X.K W (mOp f ma mb)) :=
  PE_imp (e_cmp o ha hb hm) fun σ H Q h => sim_op s h
theorem sim_1 {K : PySem.W.Frag} {r : V → Hp → VK → Prop} {f : Vl → Sto → Res Vl} {ma : FE} {σ : L2.St} {H : Hp} {Q : VK} (s : Sim1 K r f) (h : rdE K W (m1 f ma) σ H Q) : rdE K W ma σ H fun x H1 => r x H1 Q :=
  rd_bind (k := fun x ρ S => f x S) h fun B φ S ρ d v H1 I E r1 f' => s I r1 f'
def fSub : Vl → Vl → Sto → Res Vl
  | .dat (.int i), .dat (.int j), S => .ok (.dat (.int (i - j))) S
  | _, _, _ => .stuck
def fMul : Vl → Vl → Sto → Res Vl
  | .dat (.int i), .dat (.int j), S => if IntMulOk i j then .ok (.dat (.int (i * j))) S else .stuck
  | _, _, _ => .stuck
def fMod : Vl → Vl → Sto → Res Vl
  | .dat (.int i), .dat (.int j), S => if 0 < j then .ok (.dat (.int (i % j))) S else .stuck
  | _, _, _ => .stuck
def fFdiv : Vl → Vl → Sto → Res Vl
  | .dat (.int i), .dat (.int j), S => if CDiv i j then .ok (.dat (.int (i / j))) S else .stuck
  | _, _, _ => .stuck
def fPow : Vl → Vl → Sto → Res Vl
  | .dat (.int i), .dat (.int j), S => if CPow i j then .ok (.dat (.int (i ^ j.toNat))) S else .stuck
  | _, _, _ => .stuck
def fLt : Vl → Vl → Sto → Res Vl
  | .dat (.int i), .dat (.int j), S => .ok (.dat (.bl (decide (i < j)))) S
  | _, _, _ => .stuck
def fLe : Vl → Vl → Sto → Res Vl
  | .dat (.int i), .dat (.int j), S => .ok (.dat (.bl (decide (i ≤ j)))) S
  | _, _, _ => .stuck
def fGt : Vl → Vl → Sto → Res Vl
  | .dat (.int i), .dat (.int j), S => .ok (.dat (.bl (decide (j < i)))) S
  | _, _, _ => .stuck
def fGe : Vl → Vl → Sto → Res Vl
  | .dat (.int i), .dat (.int j), S => .ok (.dat (.bl (decide (j ≤ i)))) S
  | _, _, _ => .stuck
variable {K : PySem.W.Frag}
theorem s_sub : SimOp K rSubC fSub := fun {W σ B φ S H x y d e Q} I r1 r2 f => by
  unfold fSub at f
  split at f
  · cases r1; cases r2; exact Fin.now f I rfl
  · exact f.elim
theorem s_mul : SimOp K rMulC fMul := fun {W σ B φ S H x y d e Q} I r1 r2 f => by
  unfold fMul at f
  split at f
  · cases r1; cases r2
    split at f
    · rename_i h; exact ⟨h, Fin.now f I rfl⟩
    · exact f.elim
  · exact f.elim
theorem s_mod : SimOp K rModC fMod := fun {W σ B φ S H x y d e Q} I r1 r2 f => by
  unfold fMod at f
  split at f
  · cases r1; cases r2
    split at f
    · rename_i h; exact ⟨h, Fin.now f I rfl⟩
    · exact f.elim
  · exact f.elim
theorem s_fdiv : SimOp K rFdivC fFdiv := fun {W σ B φ S H x y d e Q} I r1 r2 f => by
  unfold fFdiv at f
  split at f
  · cases r1; cases r2
    split at f
    · rename_i h; exact ⟨h, Fin.now f I rfl⟩
    · exact f.elim
  · exact f.elim
theorem s_pow : SimOp K rPowC fPow := fun {W σ B φ S H x y d e Q} I r1 r2 f => by
  unfold fPow at f
  split at f
  · cases r1; cases r2
    split at f
    · rename_i h; exact ⟨h, Fin.now f I rfl⟩
    · exact f.elim
  · exact f.elim
theorem s_lt : SimOp K rLtC fLt := fun {W σ B φ S H x y d e Q} I r1 r2 f => by
  unfold fLt at f
  split at f
  · cases r1; cases r2; exact Fin.now f I rfl
  · exact f.elim
theorem s_gt : SimOp K rGtC fGt := fun {W σ B φ S H x y d e Q} I r1 r2 f => by
  unfold fGt at f
  split at f
  · cases r1; cases r2; exact Fin.now f I rfl
  · exact f.elim
theorem s_ge : SimOp K rGeC fGe := fun {W σ B φ S H x y d e Q} I r1 r2 f => by
  unfold fGe at f
  split at f
  · cases r1; cases r2; exact Fin.now f I rfl
  · exact f.elim
def fNeg : Vl → Sto → Res Vl
  | .dat (.int i), S => .ok (.dat (.int (-i))) S
  | _, _ => .stuck
theorem f_neg {ma : FE} (ha : PE X a (rdE X.K W ma)) : PE X (.UnaryOp .USub a pos) (rdE X.K W (m1 fNeg ma)) :=
  PE_imp (pe_un un_negC ha) fun σ H Q h => sim_1 (r := cNeg) (fun {W σ B φ S H x d Q} I r f => by
    unfold fNeg at f
    split at f
    · cases r; exact Fin.now f I rfl
    · exact f.elim) h
theorem RepL.len {Bk : Addr → Prop} {H : Hp} : ∀ {ds : List D} {vs : List V}, RepL K Bk H ds vs → vs.length = ds.length
  | [], vs, h => by cases h; rfl
  | d :: ds, vs, ⟨v, ws, e, _, h2⟩ => by subst e; simp [RepL.len h2]
theorem RepL.get {Bk : Addr → Prop} {H : Hp} : ∀ {ds : List D} {vs : List V} {i : Nat} {d : D}, RepL K Bk H ds vs → ds[i]? = some d → ∃ v, vs[i]? = some v ∧ Rep K Bk H d v
  | [], vs, i, d, h, q => by simp at q
  | d :: ds, vs, 0, d', ⟨v, ws, e, h1, h2⟩, q => by simp at q; subst q e; exact ⟨v, rfl, h1⟩
  | d :: ds, vs, i + 1, d', ⟨v, ws, e, h1, h2⟩, q => by
    subst e
    obtain ⟨v', h3, h4⟩ := RepL.get (i := i) (d := d') h2 (by simpa using q)
    exact ⟨v', by simpa using h3, h4⟩
theorem RepL.append {Bk : Addr → Prop} {H : Hp} : ∀ {ds es : List D} {vs ws : List V}, RepL K Bk H ds vs → RepL K Bk H es ws → RepL K Bk H (ds ++ es) (vs ++ ws)
  | [], es, vs, ws, h, h' => by cases h; exact h'
  | d :: ds, es, vs, ws, ⟨v, us, e, h1, h2⟩, h' => by subst e; exact ⟨v, us ++ ws, rfl, h1, RepL.append h2 h'⟩
theorem RepL.take {Bk : Addr → Prop} {H : Hp} : ∀ {ds : List D} {vs : List V} (n : Nat), RepL K Bk H ds vs → RepL K Bk H (ds.take n) (vs.take n)
  | ds, vs, 0, h => by simp [RepL]
  | [], vs, n + 1, h => by cases h; rfl
  | d :: ds, vs, n + 1, ⟨v, us, e, h1, h2⟩ => by subst e; exact ⟨v, us.take n, rfl, h1, RepL.take n h2⟩
theorem RepL.drop {Bk : Addr → Prop} {H : Hp} : ∀ {ds : List D} {vs : List V} (n : Nat), RepL K Bk H ds vs → RepL K Bk H (ds.drop n) (vs.drop n)
  | ds, vs, 0, h => h
  | [], vs, n + 1, h => by cases h; rfl
  | d :: ds, vs, n + 1, ⟨v, us, e, h1, h2⟩ => by subst e; exact RepL.drop n h2
theorem RepL.set {Bk : Addr → Prop} {H : Hp} {d : D} {v : V} (r : Rep K Bk H d v) : ∀ {ds : List D} {vs : List V} (n : Nat), RepL K Bk H ds vs → RepL K Bk H (ds.set n d) (vs.set n v)
  | [], vs, n, h => by cases h; rfl
  | _ :: ds, vs, 0, ⟨_, us, e, h1, h2⟩ => by subst e; exact ⟨v, us, rfl, r, h2⟩
  | d' :: ds, vs, n + 1, ⟨v', us, e, h1, h2⟩ => by subst e; exact ⟨v', us.set n v, rfl, h1, RepL.set r n h2⟩
theorem RepL.snoc {Bk : Addr → Prop} {H : Hp} {ds : List D} {vs : List V} {d : D} {v : V} (h : RepL K Bk H ds vs) (r : Rep K Bk H d v) : RepL K Bk H (ds ++ [d]) (vs ++ [v]) := h.append ⟨v, [], rfl, r, rfl⟩
theorem RepL.atI {Bk : Addr → Prop} {H : Hp} {ds : List D} {vs : List V} {i : Int} {d : D} (h : RepL K Bk H ds vs) (q : L2.atI ds i = some d) : ∃ v, L2.atI vs i = some v ∧ Rep K Bk H d v := by
  unfold L2.atI at q ⊢
  rw [h.len]
  cases e : ixN ds.length i with
  | none => rw [e] at q; cases q
  | some j =>
    rw [e] at q
    exact h.get (i := j) q
theorem RepVs.len {B : Addr → Prop} {φ : List Addr} {S : Sto} {H : Hp} : ∀ {ds : List Vl} {vs : List V}, RepVs K B φ S H ds vs → vs.length = ds.length
  | [], vs, h => by cases h; rfl
  | d :: ds, vs, ⟨v, ws, e, _, h2⟩ => by subst e; simp [RepVs.len h2]
/-- all are trees -/
def allD : List Vl → Option (List D)
  | [] => some []
  | .dat d :: r => match allD r with
    | some ds => some (d :: ds)
    | none => none
  | _ :: _ => none
theorem allD_ok {B : Addr → Prop} {φ : List Addr} {S : Sto} {H : Hp} : ∀ {xs : List Vl} {vs : List V} {ds : List D}, allD xs = some ds → RepVs K B φ S H xs vs → RepL K (Blk B φ S) H ds vs
  | [], vs, ds, h, r => by cases h; exact r
  | .dat d :: xs, vs, ds, h, ⟨v, ws, e, h1, h2⟩ => by
    unfold allD at h
    cases q : allD xs with
    | none => rw [q] at h; cases h
    | some es => rw [q] at h; cases h; exact ⟨v, ws, e, h1, allD_ok q h2⟩
  | .cel _ :: xs, vs, ds, h, _ => by cases h
  | .cels _ :: xs, vs, ds, h, _ => by cases h
  | .scr _ :: xs, vs, ds, h, _ => by cases h
/-- the list that a value is -/
def seqL (S : Sto) : Vl → Option (List D)
  | .dat (.lst xs) => some xs
  | .cel n => match S[n]? with
    | some (.lst xs) => some xs
    | _ => none
  | _ => none
theorem seqL_ok {B : Addr → Prop} {φ : List Addr} {S : Sto} {H : Hp} {d : Vl} {v : V} {xs : List D} (I : GInv K B φ S H) (h : seqL S d = some xs) (r : RepV K B φ S H d v) : ∃ a vs, v = .ref a ∧ H a = some (.lst vs) ∧ RepL K (Blk B φ S) H xs vs := by
  unfold seqL at h
  split at h
  · cases h
    obtain ⟨a, vs, e, _, h1, h2⟩ := r
    exact ⟨a, vs, e, h1, h2⟩
  · rename_i n
    obtain ⟨a, e, h1⟩ := r
    split at h
    · rename_i ys q
      cases h
      obtain ⟨vs, h2, h3⟩ := I.ok n _ a q h1
      exact ⟨a, vs, e, h2, h3⟩
    · cases h
  · cases h
end
end PH

namespace PH
open PySem PySem.Spec PyProof.Rows L2
section
variable {X : Cx} {W : WX} {e a b c : Expr} {es rest : List Expr} {pos p : Pos} {x : Str} {K : PySem.W.Frag} {ma mb mc : FE} {mt mu : FT} {mas : FA} {B : Addr → Prop} {φ : List Addr} {S : Sto} {H : Hp} {σ : L2.St} {Q : VK}
def fAdd (cl : Bool) (x y : Vl) (S : Sto) : Res Vl := match x, y with
  | .dat (.int i), .dat (.int j) => .ok (.dat (.int (i + j))) S
  | .dat (.str a), .dat (.str b) => if a.length + b.length ≤ sizeLine then .ok (.dat (.str (a ++ b))) S else .stuck
  | .dat (.tup xs), .dat (.tup ys) => if xs.length + ys.length ≤ sizeLine then .ok (.dat (.tup (xs ++ ys))) S else .stuck
  | x, y => match seqL S x, seqL S y with
    | some xs, some ys => if xs.length + ys.length ≤ sizeLine then newL cl (xs ++ ys) S else .stuck
    | _, _ => .stuck
theorem s_add {cl : Bool} : SimOp K (cAdd K) (fAdd cl) := fun {W σ B φ S H x y d e Q} I r1 r2 f => by
  unfold fAdd at f
  split at f
  · cases r1; cases r2; exact Fin.now f I rfl
  · cases r1; cases r2
    split at f
    · rename_i h; exact ⟨h, Fin.now f I rfl⟩
    · exact f.elim
  · rename_i xs ys
    obtain ⟨a, vs, rfl, h1, l1⟩ := r1
    obtain ⟨b, ws, rfl, h2, l2⟩ := r2
    split at f
    · rename_i h
      refine Or.inr ⟨a, b, vs, ws, rfl, rfl, h1, h2, by rw [l1.len, l2.len]; exact h, fun e => ?_, fun e1 e2 => ?_, fun _ _ p hp => Fin.newT f I (l1.append l2) hp⟩
      · have l := l1.append l2
        rw [e, List.nil_append] at l
        exact Fin.now f I ⟨b, ws, rfl, h2, l⟩
      · have l := l1.append l2
        rw [e2, List.append_nil] at l
        exact Fin.now f I ⟨a, vs, rfl, h1, l⟩
    · exact f.elim
  · split at f
    · rename_i xs ys q1 q2
      obtain ⟨a, vs, rfl, h1, l1⟩ := seqL_ok I q1 r1
      obtain ⟨b, ws, rfl, h2, l2⟩ := seqL_ok I q2 r2
      split at f
      · rename_i h
        exact Or.inl ⟨a, b, vs, ws, rfl, rfl, h1, h2, by rw [l1.len, l2.len]; exact h, fun p hp => Fin.newL f I (l1.append l2) hp⟩
      · exact f.elim
    · exact f.elim
def fIx (x y : Vl) (S : Sto) : Res Vl := match x, y with
  | .dat (.tup xs), .dat (.int i) => match atI xs i with
    | some d => .ok (.dat d) S
    | none => .stuck
  | .dat (.str z), .dat (.int i) => if z.length ≤ sizeLine then (match atI z.cps.toList i with
    | some c => .ok (.dat (.str ⟨#[c]⟩)) S
    | none => .stuck) else .stuck
  | .cels ns, .dat (.int i) => match atI ns i with
    | some n => .ok (.cel n) S
    | none => .stuck
  | x, .dat (.int i) => match seqL S x with
    | some xs => (match atI xs i with
      | some d => .ok (.dat d) S
      | none => .stuck)
    | none => .stuck
  | _, _ => .stuck
theorem atI_map {α β : Type} {f : α → β} {xs : List α} {i : Int} : atI (xs.map f) i = (atI xs i).map f := by
  unfold atI
  rw [List.length_map]
  cases ixN xs.length i with
  | none => rfl
  | some j => simp
theorem s_ix : SimOp K (cIx K) fIx := fun {W σ B φ S H x y d e Q} I r1 r2 f => by
  unfold fIx at f
  split at f
  · cases r2
    obtain ⟨a, vs, rfl, h1, l1⟩ := r1
    split at f
    · rename_i q
      obtain ⟨v, h2, h3⟩ := l1.atI q
      exact ⟨vs, v, .inr h1, h2, Fin.now f I h3⟩
    · exact f.elim
  · cases r1; cases r2
    split at f
    · rename_i h
      split at f
      · rename_i c q
        exact ⟨h, c, q, Fin.now f I rfl⟩
      · exact f.elim
    · exact f.elim
  · rename_i ns i
    cases r2
    obtain ⟨a, as, rfl, h1, h2, h3⟩ := r1
    split at f
    · rename_i n q
      have q2 : atI (ns.map fun n => φ[n]?) i = some φ[n]? := by rw [atI_map, q]; rfl
      rw [h3, atI_map] at q2
      cases q3 : atI as i with
      | none => rw [q3] at q2; cases q2
      | some b =>
        rw [q3] at q2
        refine ⟨as.map V.ref, .ref b, .inl (SqL.of h2), by rw [atI_map, q3]; rfl, Fin.now f I ⟨b, rfl, ?_⟩⟩
        simpa using q2.symm
    · exact f.elim
  · cases r2
    split at f
    · rename_i xs q1
      obtain ⟨a, vs, rfl, h1, l1⟩ := seqL_ok I q1 r1
      split at f
      · rename_i q
        obtain ⟨v, h2, h3⟩ := l1.atI q
        exact ⟨vs, v, .inl (SqL.of h1), h2, Fin.now f I h3⟩
      · exact f.elim
    · exact f.elim
  · exact f.elim
theorem f_ix (ha : PE X a (rdE X.K W ma)) (hb : PE X b (rdE X.K W mb)) (hs : PlainIx b := by intro _ _; rfl) : PE X (.Subscript a b pos) (rdE X.K W (mOp fIx ma mb)) := PE_imp (e_ix ha hb hs) fun σ H Q h => sim_op s_ix h
mutual
def D.py : D → Option PyData
  | .non => some .none
  | .bl b => some (.bool b)
  | .int i => some (.int i)
  | .str x => some (.str x)
  | .lst xs => match D.pys xs with
    | some ys => some (.list ys)
    | none => none
  | .tup xs => match D.pys xs with
    | some ys => some (.tuple ys)
    | none => none
  | .ins _ _ _ => none
  | .dct => none
def D.pys : List D → Option (List PyData)
  | [] => some []
  | d :: ds => match D.py d, D.pys ds with
    | some x, some xs => some (x :: xs)
    | _, _ => none
end
mutual
theorem Rep.dp {Bk : Addr → Prop} {H : Hp} : ∀ (d : D) (v : V) (p : PyData), d.py = some p → Rep K Bk H d v → Dp K H v p
  | .non, v, p, h, r => by cases h; cases r; exact .non
  | .bl b, v, p, h, r => by cases h; cases r; exact .bl b
  | .int b, v, p, h, r => by cases h; cases r; exact .int b
  | .str b, v, p, h, r => by cases h; cases r; exact .str b
  | .lst xs, v, p, h, ⟨a, vs, e, _, h1, h2⟩ => by
    subst e
    unfold D.py at h
    cases q : D.pys xs with
    | none => rw [q] at h; cases h
    | some ys => rw [q] at h; cases h; exact .lst (SqL.of h1) (RepL.dp xs vs ys q h2)
  | .tup xs, v, p, h, ⟨a, vs, e, h1, h2⟩ => by
    subst e
    unfold D.py at h
    cases q : D.pys xs with
    | none => rw [q] at h; cases h
    | some ys => rw [q] at h; cases h; exact .tup h1 (RepL.dp xs vs ys q h2)
  | .ins _ _ _, v, p, h, r => by cases h
  | .dct, v, p, h, r => by cases h
theorem RepL.dp {Bk : Addr → Prop} {H : Hp} : ∀ (ds : List D) (vs : List V) (ps : List PyData), D.pys ds = some ps → RepL K Bk H ds vs → DpAll K H vs ps
  | [], vs, ps, h, r => by cases h; cases r; exact .nil
  | d :: ds, vs, ps, h, ⟨v, ws, e, h1, h2⟩ => by
    subst e
    unfold D.pys at h
    cases q1 : D.py d with
    | none => rw [q1] at h; cases h
    | some x =>
      cases q2 : D.pys ds with
      | none => rw [q1, q2] at h; cases h
      | some xs => rw [q1, q2] at h; cases h; exact .cons (Rep.dp d v x q1 h1) (RepL.dp ds ws xs q2 h2)
end
/-- a value as data -/
def pyOf1 (S : Sto) : Vl → Option PyData
  | .dat d => d.py
  | .cel n => match S[n]? with
    | some (.lst xs) => D.py (.lst xs)
    | _ => none
  | _ => none
def pysV (S : Sto) : List Vl → Option (List PyData)
  | [] => some []
  | x :: r => match pyOf1 S x, pysV S r with
    | some p, some ps => some (p :: ps)
    | _, _ => none
def pyOf (S : Sto) : Vl → Option PyData
  | .dat d => d.py
  | .cel n => match S[n]? with
    | some (.lst xs) => D.py (.lst xs)
    | some (.lv xs) => (match pysV S xs with
      | some ps => some (.list ps)
      | none => none)
    | _ => none
  | _ => none
theorem pyOf1_ok {d : Vl} {v : V} {p : PyData} (I : GInv K B φ S H) (h : pyOf1 S d = some p) (r : RepV K B φ S H d v) : Dp K H v p := by
  unfold pyOf1 at h
  split at h
  · exact Rep.dp _ _ _ h r
  · rename_i n
    obtain ⟨a, rfl, h1⟩ := r
    split at h
    · rename_i xs q
      obtain ⟨vs, h2, h3⟩ := I.ok n _ a q h1
      unfold D.py at h
      cases q : D.pys xs with
      | none => rw [q] at h; cases h
      | some ys => rw [q] at h; cases h; exact .lst (SqL.of h2) (RepL.dp xs vs ys q h3)
    · cases h
  · cases h
theorem pysV_ok (I : GInv K B φ S H) : ∀ {xs : List Vl} {vs : List V} {ps : List PyData}, pysV S xs = some ps → RepVs K B φ S H xs vs → DpAll K H vs ps
  | [], vs, ps, h, r => by cases h; cases r; exact .nil
  | x :: xs, vs, ps, h, ⟨v, ws, e, h1, h2⟩ => by
    subst e
    unfold pysV at h
    cases q1 : pyOf1 S x with
    | none => rw [q1] at h; cases h
    | some p =>
      cases q2 : pysV S xs with
      | none => rw [q1, q2] at h; cases h
      | some qs => rw [q1, q2] at h; cases h; exact .cons (pyOf1_ok I q1 h1) (pysV_ok I q2 h2)
theorem pyOf_ok {d : Vl} {v : V} {p : PyData} (I : GInv K B φ S H) (h : pyOf S d = some p) (r : RepV K B φ S H d v) : Dp K H v p := by
  unfold pyOf at h
  split at h
  · exact Rep.dp _ _ _ h r
  · rename_i n
    obtain ⟨a, rfl, h1⟩ := r
    split at h
    · rename_i xs q
      obtain ⟨vs, h2, h3⟩ := I.ok n _ a q h1
      unfold D.py at h
      cases q : D.pys xs with
      | none => rw [q] at h; cases h
      | some ys => rw [q] at h; cases h; exact .lst (SqL.of h2) (RepL.dp xs vs ys q h3)
    · rename_i xs q
      obtain ⟨vs, h2, h3⟩ := I.ok n _ a q h1
      cases q : pysV S xs with
      | none => rw [q] at h; cases h
      | some ys => rw [q] at h; cases h; exact .lst (SqL.of h2) (pysV_ok I q h3)
    · cases h
  · cases h
def shp (p q : PyData) : Bool := SeqAt.shaped p && SeqAt.shaped q
def fEq (x y : Vl) (S : Sto) : Res Vl := match x, y with
  | .dat (.int i), .dat (.int j) => .ok (.dat (.bl (decide (i = j)))) S
  | .dat (.str i), .dat (.str j) => .ok (.dat (.bl (decide (i = j)))) S
  | x, y => match pyOf S x, pyOf S y with
    | some p, some q => if shp p q = true then .ok (.dat (.bl (PyData.eqv p q))) S else .stuck
    | _, _ => .stuck
def fNe (x y : Vl) (S : Sto) : Res Vl := match x, y with
  | .dat (.int i), .dat (.int j) => .ok (.dat (.bl (!decide (i = j)))) S
  | .dat (.str i), .dat (.str j) => .ok (.dat (.bl (!decide (i = j)))) S
  | x, y => match pyOf S x, pyOf S y with
    | some p, some q => if shp p q = true then .ok (.dat (.bl (!PyData.eqv p q))) S else .stuck
    | _, _ => .stuck
theorem cEq_gen {x y : V} (h : rEqD K x y H Q) : cEq K x y H Q := by
  unfold cEq
  split
  · obtain ⟨d, e, h1, h2, _, _, q⟩ := h
    cases h1; cases h2
    exact q
  · obtain ⟨d, e, h1, h2, _, _, q⟩ := h
    cases h1; cases h2
    exact q
  · exact h
theorem cNe_gen {x y : V} (h : rNeD K x y H Q) : cNe K x y H Q := by
  unfold cNe
  split
  · obtain ⟨d, e, h1, h2, _, _, q⟩ := h
    cases h1; cases h2
    exact q
  · obtain ⟨d, e, h1, h2, _, _, q⟩ := h
    cases h1; cases h2
    exact q
  · exact h
theorem s_eq : SimOp K (cEq K) fEq := fun {W σ B φ S H x y d e Q} I r1 r2 f => by
  unfold fEq at f
  split at f
  · cases r1; cases r2; exact Fin.now f I rfl
  · cases r1; cases r2; exact Fin.now f I rfl
  · split at f
    · rename_i p q h1 h2
      split at f
      · rename_i h
        obtain ⟨h3, h4⟩ := He.ba h
        exact cEq_gen ⟨p, q, pyOf_ok I h1 r1, pyOf_ok I h2 r2, h3, h4, Fin.now f I rfl⟩
      · exact f.elim
    · exact f.elim
theorem s_ne : SimOp K (cNe K) fNe := fun {W σ B φ S H x y d e Q} I r1 r2 f => by
  unfold fNe at f
  split at f
  · cases r1; cases r2; exact Fin.now f I rfl
  · cases r1; cases r2; exact Fin.now f I rfl
  · split at f
    · rename_i p q h1 h2
      split at f
      · rename_i h
        obtain ⟨h3, h4⟩ := He.ba h
        exact cNe_gen ⟨p, q, pyOf_ok I h1 r1, pyOf_ok I h2 r2, h3, h4, Fin.now f I rfl⟩
      · exact f.elim
    · exact f.elim
def isNon : Vl → Bool
  | .dat .non => true
  | _ => false
def fIsN (neg : Bool) (x y : Vl) (S : Sto) : Res Vl := match y with
  | .dat .non => .ok (.dat (.bl (if neg then !(isNon x) else isNon x))) S
  | _ => .stuck
def unB : Vl → Sto → Res Bool
  | .dat (.bl b), S => .ok b S
  | _, _ => .stuck
def mB (a : FE) : FT := fun ρ S => (a ρ S).bind unB
theorem sim_B {Q : Bool → Hp → Prop} (h : rdT K W (mB ma) σ H Q) : rdE K W ma σ H fun x H' => (match x with | .bl k => Q k H' | _ => False) :=
  rd_bind (k := fun x _ S => unB x S) h fun B φ S ρ d v H1 I E r f => by
    unfold unB at f
    split at f
    · cases r; exact Fin.now f I rfl
    · exact f.elim
theorem ft_cmp {op : CmpOp} {r : R2} {f : Vl → Vl → Sto → Res Vl} (o : OpR X (compareOp op) r) (s : SimOp X.K r f) (ha : PE X a (rdE X.K W ma)) (hb : PE X b (rdE X.K W mb)) (hm : behindInMarks op b = false := by rfl) : PT X (.Compare a [op] [b] pos) (rdT X.K W (mB (mOp f ma mb))) :=
  PT_imp (t_cmp o ha hb hm) fun σ H Q h => sim_op s (sim_B h)
def tru (x : Vl) (S : Sto) : Res Bool := match x with
  | .dat .non => .ok false S
  | .dat (.bl b) => .ok b S
  | .dat (.int i) => .ok (i != 0) S
  | .dat (.str y) => if y.length ≤ sizeLine then .ok ((y.length : Int) != 0) S else .stuck
  | .dat (.tup xs) => .ok (!xs.isEmpty) S
  | x => match seqL S x with
    | some xs => .ok (!xs.isEmpty) S
    | none => .stuck
theorem RepL.emp {Bk : Addr → Prop} {ds : List D} {vs : List V} (h : RepL K Bk H ds vs) : (!ds.isEmpty) = !vs.isEmpty := by
  have := h.len
  cases ds <;> cases vs <;> simp at this ⊢
theorem tru_sim {d : Vl} {v : V} {Q : Bool → Hp → Prop} (I : GInv K B φ S H) (r : RepV K B φ S H d v) (f : Fin K W σ RB B φ S H (tru d S) Q) : cT K v H Q := by
  unfold tru at f
  split at f
  · cases r; exact Fin.now f I rfl
  · cases r; exact Fin.now f I rfl
  · cases r; exact Fin.now f I rfl
  · cases r
    split at f
    · rename_i h; exact ⟨_, ⟨h, rfl⟩, Fin.now f I rfl⟩
    · exact f.elim
  · obtain ⟨a, vs, rfl, h1, l1⟩ := r
    exact ⟨_, .inr (.inl ⟨vs, h1, l1.emp⟩), Fin.now f I rfl⟩
  · split at f
    · rename_i xs q1
      obtain ⟨a, vs, rfl, h1, l1⟩ := seqL_ok I q1 r
      exact ⟨_, .inl ⟨vs, SqL.of h1, l1.emp⟩, Fin.now f I rfl⟩
    · exact f.elim
def mTest (a : FE) : FT := fun ρ S => (a ρ S).bind tru
theorem ft_val (ha : PE X a (rdE X.K W ma)) (he : ∀ whole, isTrue a X.env whole = (do let v ← whole; standAt a.pos; holding [v] (truthy v)) := by intro _; rfl) : PT X a (rdT X.K W (mTest ma)) :=
  PT_imp (t_val ha he) fun σ H Q h => rd_bind (k := fun x _ S => tru x S) h fun B φ S ρ d v H1 I E r f => tru_sim I r f
def mAnd (a b : FT) : FT := fun ρ S => (a ρ S).bind fun c S1 => if c = true then b ρ S1 else .ok false S1
def mOr (a b : FT) : FT := fun ρ S => (a ρ S).bind fun c S1 => if c = true then .ok true S1 else b ρ S1
def mNot (a : FT) : FT := fun ρ S => (a ρ S).bind fun c S1 => .ok (!c) S1
theorem PW_imp {e : Expr} {t u : TT} (h : PW X e t) (i : ∀ σ H Q, u σ H Q → t σ H Q) : PW X e u := ⟨fun whole pins s σ H Q I q => h.run whole pins s σ H Q I (i σ H Q q)⟩
theorem sim_or {Q : Bool → Hp → Prop} (h : rdT K W (mOr mt mu) σ H Q) : tOr (rdT K W mt) (rdT K W mu) σ H Q :=
  rd_bind (k := fun c ρ S => if c = true then .ok true S else mu ρ S) h fun B φ S ρ d v H1 I E r f => by
    have r : v = d := r
    subst r
    cases v with
    | false => exact ⟨B, φ, S, ρ, I, E, f⟩
    | true => exact Fin.now f I rfl
theorem fw_or (ha : PT X a (rdT X.K W mt)) (hb : PW X (.BoolOp .Or (b :: rest) pos) (rdT X.K W mu)) : PW X (.BoolOp .Or (a :: b :: rest) pos) (rdT X.K W (mOr mt mu)) := PW_imp (pw_or ha hb) fun σ H Q h => sim_or h
theorem ft_not (ha : PT X a (rdT X.K W mt)) : PT X (.UnaryOp .Not a pos) (rdT X.K W (mNot mt)) := PT_imp (pt_not ha) fun σ H Q h =>
  rd_bind (k := fun c _ S => .ok (!c) S) h fun B φ S ρ d v H1 I E r f => by cases r; exact Fin.now f I rfl
def mAndV (a b : FE) : FE := fun ρ S => (a ρ S).bind fun x S1 => match x with
  | .dat (.bl c) => if c = true then b ρ S1 else .ok (.dat (.bl false)) S1
  | _ => .stuck
def mOrV (a b : FE) : FE := fun ρ S => (a ρ S).bind fun x S1 => match x with
  | .dat (.bl c) => if c = true then .ok (.dat (.bl true)) S1 else b ρ S1
  | _ => .stuck
def mNotV (a : FE) : FE := fun ρ S => (a ρ S).bind fun x S1 => (tru x S1).bind fun k S2 => .ok (.dat (.bl (!k))) S2
theorem fe_and (ha : PE X a (rdE X.K W ma)) (hb : PE X (.BoolOp .And (b :: rest) pos) (rdE X.K W mb)) : PE X (.BoolOp .And (a :: b :: rest) pos) (rdE X.K W (mAndV ma mb)) := PE_imp (e_and ha hb) fun σ H Q h =>
  rd_bind (k := fun x ρ S1 => match x with | .dat (.bl c) => if c = true then mb ρ S1 else .ok (.dat (.bl false)) S1 | _ => .stuck) h fun B φ S ρ d v H1 I E r f => by
    split at f
    · rename_i c
      cases r
      cases c with
      | true => exact ⟨B, φ, S, ρ, I, E, f⟩
      | false => exact Fin.now f I rfl
    · exact f.elim
def mOrT (a b : FE) : FE := fun ρ S => (a ρ S).bind fun x S1 => (tru x S1).bind fun k S2 => if k = true then .ok x S2 else b ρ S2
theorem tru_same {x : Vl} {k : Bool} {S' : Sto} (h : tru x S = .ok k S') : S' = S := by
  unfold tru at h
  split at h
  · cases h; rfl
  · cases h; rfl
  · cases h; rfl
  · split at h <;> cases h; rfl
  · cases h; rfl
  · split at h <;> cases h; rfl
theorem tru_V {d : Vl} {v : V} {k : Bool} (I : GInv K B φ S H) (r : RepV K B φ S H d v) (h : tru d S = .ok k S) : TruV K v H k := by
  obtain ⟨k', h1, h2⟩ := cT_to v H (fun b _ => b = k) (tru_sim (W := wNo) (σ := []) I r (by
    rw [h]
    exact fun φ' v' H' _ _ r => r))
  rw [← h2]; exact h1
theorem fe_orT (ha : PE X a (rdE X.K W ma)) (hb : PE X (.BoolOp .Or (b :: rest) pos) (rdE X.K W mb)) : PE X (.BoolOp .Or (a :: b :: rest) pos) (rdE X.K W (mOrT ma mb)) := PE_imp (pe_orT ha hb) fun σ H Q h =>
  rd_bind (k := fun x ρ S1 => (tru x S1).bind fun k S2 => if k = true then .ok x S2 else mb ρ S2) h fun B φ S ρ d v H1 I E r f => by
    cases q : tru d S with
    | stuck => rw [q] at f; exact f.elim
    | err e S' =>
      exfalso
      unfold tru at q
      split at q <;> first | cases q | (split at q <;> cases q)
    | ok k S' =>
      have e := tru_same q
      subst e
      rw [q] at f
      refine ⟨k, tru_V I r q, ?_⟩
      cases k with
      | true => exact Fin.now f I r
      | false => exact ⟨B, φ, S', ρ, I, E, f⟩
theorem fe_not (ha : PE X a (rdE X.K W ma)) : PE X (.UnaryOp .Not a pos) (rdE X.K W (mNotV ma)) := PE_imp (e_not ha) fun σ H Q h =>
  rd_bind (k := fun x _ S1 => (tru x S1).bind fun k S2 => Res.ok (Vl.dat (D.bl (!k))) S2) h fun B φ S ρ d v H1 I E r f => by
    cases q : tru d S with
    | stuck => rw [q] at f; exact f.elim
    | err e S' =>
      exfalso
      unfold tru at q
      split at q <;> first | cases q | (split at q <;> cases q)
    | ok k S' =>
      have e := tru_same q
      subst e
      rw [q] at f
      refine tru_sim (W := W) (σ := σ) I r ?_
      rw [q]
      intro φ' v' H' I' X' r'
      cases r'
      exact Fin.now (Fin.ext f X') I' rfl
def mChain (f g : Vl → Vl → Sto → Res Vl) (a b c : FE) : FE := fun ρ S => (a ρ S).bind fun x S1 => (b ρ S1).bind fun y S2 => (f x y S2).bind fun z S3 => match z with
  | .dat (.bl k) => if k = true then (c ρ S3).bind fun w S4 => g y w S4 else .ok (.dat (.bl false)) S3
  | _ => .stuck
def mIf (t : FT) (a b : FE) : FE := fun ρ S => (t ρ S).bind fun c S1 => if c = true then a ρ S1 else b ρ S1
def mNil : FA := fun _ S => .ok [] S
def mCons (a : FE) (r : FA) : FA := fun ρ S => (a ρ S).bind fun x S1 => (r ρ S1).bind fun xs S2 => .ok (x :: xs) S2
theorem PA_imp {t u : TA} (h : PA X es t) (i : ∀ σ H Q, u σ H Q → t σ H Q) : PA X es u := ⟨fun pos pins s σ H Q I q => h.run pos pins s σ H Q I (i σ H Q q)⟩
theorem fa_nil : PA X [] (rdA X.K W mNil) := PA_imp pa_nil fun σ H Q h => by
  obtain ⟨B, φ, S, ρ, I, E, f⟩ := h
  exact Fin.now (v := []) f I rfl
theorem fa_cons (ha : PE X a (rdE X.K W ma)) (hr : PA X es (rdA X.K W mas)) (hs : starEach (a :: es) X.env = (false, eval a X.env) :: starEach es X.env := by rfl) : PA X (a :: es) (rdA X.K W (mCons ma mas)) := PA_imp (pa_cons ha hr hs) fun σ H Q h =>
  rd_bind (k := fun x ρ S1 => (mas ρ S1).bind fun xs S2 => .ok (x :: xs) S2) h fun B φ S ρ d v H1 I E r f => fin_bind I E f fun φ' S' ds vs H2 I2 X2 E2 r2 f2 => Fin.now f2 I2 ⟨v, vs, rfl, r.ext X2 I, r2⟩
def mLst (cl : Bool) (r : FA) : FE := fun ρ S => (r ρ S).bind fun xs S1 => match allD xs with
  | some ds => if ds.length ≤ sizeLine then newL cl ds S1 else .stuck
  | none => .stuck
def mTup (r : FA) : FE := fun ρ S => (r ρ S).bind fun xs S1 => match allD xs with
  | some ds => if ds.length ≤ sizeLine then .ok (.dat (.tup ds)) S1 else .stuck
  | none => .stuck
theorem f_lst {cl : Bool} (h : PA X es (rdA X.K W mas)) : PE X (.List es pos) (rdE X.K W (mLst cl mas)) := PE_imp (pe_lst h) fun σ H Q h =>
  rd_bind (k := fun xs ρ S1 => match allD xs with | some ds => if ds.length ≤ sizeLine then newL cl ds S1 else .stuck | none => .stuck) h fun B φ S ρ d v H1 I E r f => by
    split at f
    · rename_i ds q
      have l := allD_ok q r
      split at f
      · rename_i hl
        exact ⟨by rw [l.len]; exact hl, fun p hp => Fin.newL f I l hp⟩
      · exact f.elim
    · exact f.elim
theorem f_tup (h : PA X es (rdA X.K W mas)) : PE X (.Tuple es x1 pos) (rdE X.K W (mTup mas)) := PE_imp (pe_tup h) fun σ H Q h =>
  rd_bind (k := fun xs ρ S1 => match allD xs with | some ds => if ds.length ≤ sizeLine then Res.ok (Vl.dat (D.tup ds)) S1 else .stuck | none => .stuck) h fun B φ S ρ d v H1 I E r f => by
    split at f
    · rename_i ds q
      have l := allD_ok q r
      split at f
      · rename_i hl
        exact ⟨by rw [l.len]; exact hl, fun p hp => Fin.newT f I l hp⟩
      · exact f.elim
    · exact f.elim
end
end PH

namespace PH
open PySem PySem.Spec PyProof.Rows L2
section
variable {X : Cx} {W : WX} {e a b c : Expr} {es rest : List Expr} {pos p q p2 : Pos} {x y z : Str} {K : PySem.W.Frag} {ma mb mc : FE} {mt mu : FT} {mas : FA} {B : Addr → Prop} {φ : List Addr} {S : Sto} {H : Hp} {σ : L2.St} {Q : VK}
theorem sim_cb {r : V → Hp → VK → Prop} {f : Vl → Sto → Res Vl} (s : Sim1 K r f) (h : rdE K W (m1 f ma) σ H Q) : tCB (c1 r) (tCons (rdE K W ma) tNil) σ H Q := sim_1 s h
def fLen (x : Vl) (S : Sto) : Res Vl := match x with
  | .dat (.tup xs) => .ok (.dat (.int xs.length)) S
  | .dat (.str z) => if z.length ≤ sizeLine then .ok (.dat (.int z.length)) S else .stuck
  | .cels ns => .ok (.dat (.int ns.length)) S
  | x => match seqL S x with
    | some xs => .ok (.dat (.int xs.length)) S
    | none => .stuck
theorem s_len : Sim1 K (cLen K) fLen := fun {W σ B φ S H x d Q} I r f => by
  unfold fLen at f
  split at f
  · obtain ⟨a, vs, rfl, h1, l1⟩ := r
    refine ⟨vs, .inr h1, ?_⟩
    rw [l1.len]
    exact Fin.now f I rfl
  · cases r
    split at f
    · rename_i h; exact ⟨h, Fin.now f I rfl⟩
    · exact f.elim
  · rename_i ns
    obtain ⟨a, as, rfl, h1, h2, h3⟩ := r
    refine ⟨as.map V.ref, .inl (SqL.of h2), ?_⟩
    have e : as.length = ns.length := by
      have := congrArg List.length h3
      simpa using this.symm
    rw [List.length_map, e]
    exact Fin.now f I rfl
  · split at f
    · rename_i xs q1
      obtain ⟨a, vs, rfl, h1, l1⟩ := seqL_ok I q1 r
      refine ⟨vs, .inl (SqL.of h1), ?_⟩
      rw [l1.len]
      exact Fin.now f I rfl
    · exact f.elim
theorem f_len (hm : X.mg "len" = none) (ha : PE X a (rdE X.K W ma)) (hg : Gl X "len" := by rfl) (hs : starEach [a] X.env = [(false, eval a X.env)] := by rfl) : PE X (.Call (.Name "len" p) [a] [] pos) (rdE X.K W (m1 fLen ma)) := PE_imp (e_len hm ha hg hs) fun σ H Q h => sim_cb s_len h
def fInt (x : Vl) (S : Sto) : Res Vl := match x with
  | .dat (.int i) => .ok (.dat (.int i)) S
  | .dat (.bl k) => .ok (.dat (.int (if k then 1 else 0))) S
  | _ => .stuck
theorem s_int : Sim1 K cInt fInt := fun {W σ B φ S H x d Q} I r f => by
  unfold fInt at f
  split at f
  · cases r; exact Fin.now f I rfl
  · cases r; exact Fin.now f I rfl
  · exact f.elim
theorem f_intc (hm : X.mg "int" = none) (ha : PE X a (rdE X.K W ma)) (hg : Gl X "int" := by rfl) (hs : starEach [a] X.env = [(false, eval a X.env)] := by rfl) : PE X (.Call (.Name "int" p) [a] [] pos) (rdE X.K W (m1 fInt ma)) := PE_imp (e_int hm ha hg hs) fun σ H Q h => sim_cb s_int h
def allBl : List D → Option (List Bool)
  | [] => some []
  | .bl b :: r => match allBl r with
    | some bs => some (b :: bs)
    | none => none
  | _ :: _ => none
theorem allBl_ok {Bk : Addr → Prop} : ∀ {ds : List D} {bs : List Bool} {vs : List V}, allBl ds = some bs → RepL K Bk H ds vs → vs = bs.map V.bl
  | [], bs, vs, h, r => by cases h; exact r
  | d :: ds, bs, vs, h, ⟨v, ws, e, h1, h2⟩ => by
    subst e
    cases d with
    | bl b =>
      unfold allBl at h
      cases q : allBl ds with
      | none => rw [q] at h; cases h
      | some es => rw [q] at h; cases h; cases h1; rw [allBl_ok q h2]; rfl
    | _ => cases h
def allInt : List D → Option (List Int)
  | [] => some []
  | .int b :: r => match allInt r with
    | some bs => some (b :: bs)
    | none => none
  | _ :: _ => none
theorem allInt_ok {Bk : Addr → Prop} : ∀ {ds : List D} {bs : List Int} {vs : List V}, allInt ds = some bs → RepL K Bk H ds vs → vs = bs.map V.int
  | [], bs, vs, h, r => by cases h; exact r
  | d :: ds, bs, vs, h, ⟨v, ws, e, h1, h2⟩ => by
    subst e
    cases d with
    | int b =>
      unfold allInt at h
      cases q : allInt ds with
      | none => rw [q] at h; cases h
      | some es => rw [q] at h; cases h; cases h1; rw [allInt_ok q h2]; rfl
    | _ => cases h
def fAll (x : Vl) (S : Sto) : Res Vl := match seqL S x with
  | some xs => (match allBl xs with
    | some bs => .ok (.dat (.bl (bs.all id))) S
    | none => .stuck)
  | none => .stuck
theorem s_all : Sim1 K (cAll K) fAll := fun {W σ B φ S H x d Q} I r f => by
  unfold fAll at f
  split at f
  · rename_i xs q1
    obtain ⟨a, vs, rfl, h1, l1⟩ := seqL_ok I q1 r
    split at f
    · rename_i bs q2
      rw [allBl_ok q2 l1] at h1
      exact ⟨bs, SqL.of h1, Fin.now f I rfl⟩
    · exact f.elim
  · exact f.elim
theorem f_all (hm : X.mg "all" = none) (ha : PE X a (rdE X.K W ma)) (hc : X.calm = true := by rfl) (hg : Gl X "all" := by rfl) (hs : starEach [a] X.env = [(false, eval a X.env)] := by rfl) : PE X (.Call (.Name "all" p) [a] [] pos) (rdE X.K W (m1 fAll ma)) := PE_imp (e_all hm ha hc hg hs) fun σ H Q h => sim_cb s_all h
def fList (cl : Bool) (x : Vl) (S : Sto) : Res Vl := match x with
  | .dat (.tup xs) => newL cl xs S
  | x => match seqL S x with
    | some xs => newL cl xs S
    | none => .stuck
theorem s_list {cl : Bool} : Sim1 K (cList K) (fList cl) := fun {W σ B φ S H x d Q} I r f => by
  unfold fList at f
  split at f
  · obtain ⟨a, vs, rfl, h1, l1⟩ := r
    exact ⟨vs, .inr h1, fun l hl => Fin.newL f I l1 hl⟩
  · split at f
    · rename_i xs q1
      obtain ⟨a, vs, rfl, h1, l1⟩ := seqL_ok I q1 r
      exact ⟨vs, .inl (SqL.of h1), fun l hl => Fin.newL f I l1 hl⟩
    · exact f.elim
theorem f_list {cl : Bool} (hm : X.mg "list" = none) (ha : PE X a (rdE X.K W ma)) (hg : Gl X "list" := by rfl) (hs : starEach [a] X.env = [(false, eval a X.env)] := by rfl) : PE X (.Call (.Name "list" p) [a] [] pos) (rdE X.K W (m1 (fList cl) ma)) := PE_imp (e_list hm ha hg hs) fun σ H Q h => sim_cb s_list h
def fTuple (x : Vl) (S : Sto) : Res Vl := match seqL S x with
  | some xs => .ok (.dat (.tup xs)) S
  | none => .stuck
theorem s_tuple : Sim1 K (cTuple K) fTuple := fun {W σ B φ S H x d Q} I r f => by
  unfold fTuple at f
  split at f
  · rename_i xs q1
    obtain ⟨a, vs, rfl, h1, l1⟩ := seqL_ok I q1 r
    exact ⟨vs, SqL.of h1, fun l hl => Fin.newT f I l1 hl⟩
  · exact f.elim
theorem f_tuple (hm : X.mg "tuple" = none) (ha : PE X a (rdE X.K W ma)) (hg : Gl X "tuple" := by rfl) (hs : starEach [a] X.env = [(false, eval a X.env)] := by rfl) : PE X (.Call (.Name "tuple" p) [a] [] pos) (rdE X.K W (m1 fTuple ma)) := PE_imp (e_tuple hm ha hg hs) fun σ H Q h => sim_cb s_tuple h
def cAbs : V → Hp → VK → Prop := fun x H Q => match x with
  | .int i => Q (.int (if i < 0 then -i else i)) H
  | _ => False
def fAbs (x : Vl) (S : Sto) : Res Vl := match x with
  | .dat (.int i) => .ok (.dat (.int (if i < 0 then -i else i))) S
  | _ => .stuck
theorem s_abs : Sim1 K cAbs fAbs := fun {W σ B φ S H x d Q} I r f => by
  unfold fAbs at f
  split at f
  · cases r; exact Fin.now f I rfl
  · exact f.elim
theorem f_abs (hm : X.mg "abs" = none) (ha : PE X a (rdE X.K W ma)) (hg : Gl X "abs" := by rfl) (hs : starEach [a] X.env = [(false, eval a X.env)] := by rfl) : PE X (.Call (.Name "abs" p) [a] [] pos) (rdE X.K W (m1 fAbs ma)) :=
  PE_imp (pe_callB (CallR_imp (u := c1 cAbs) call_abs fun xs H Q h => by
    match xs, h with
    | [x], h =>
      cases x with
      | int i => exact ⟨i, rfl, h⟩
      | _ => exact h.elim) hg hm boot_abs (pa_cons ha pa_nil hs) (he := hs)) fun σ H Q h => sim_cb s_abs h
theorem kind_tup {a : Addr} {xs : List V} (h : SqT K H a xs) : KindAt K H a "tuple" := by
  refine ⟨by decide, ?_⟩
  rcases h with (h | ⟨o, h⟩) | ⟨o, its, n, h, hc, _⟩
  · exact .base (.tup h)
  · exact .fTuple h
  · exact .kTuple h hc
theorem kind_lst {a : Addr} {xs : List V} (h : SqL K H a xs) : KindAt K H a "list" := by
  refine ⟨by decide, ?_⟩
  rcases h with (h | ⟨o, h⟩) | ⟨o, its, n, h, hc, _⟩
  · exact .base (.lst h)
  · exact .base (.frz h)
  · exact .kList h hc
/-- the built-in kind of a value -/
def kindOf (S : Sto) : Vl → Option String
  | .dat .non => some "NoneType"
  | .dat (.bl _) => some "bool"
  | .dat (.int _) => some "int"
  | .dat (.str _) => some "str"
  | .dat (.lst _) => some "list"
  | .dat (.tup _) => some "tuple"
  | .dat .dct => some "dict"
  | .dat (.ins _ _ _) => none
  | .cels _ => some "list"
  | .scr _ => some "list"
  | .cel n => match S[n]? with
    | some (.lst _) => some "list"
    | some (.dct _) => some "dict"
    | some (.lv _) => some "list"
    | _ => none
def fIsi (T : String) (x : Vl) (S : Sto) : Res Vl := match kindOf S x with
  | some n => .ok (.dat (.bl (isTy T n))) S
  | none => .stuck
theorem kindOf_ok {d : Vl} {v : V} {n : String} (I : GInv K B φ S H) (r : RepV K B φ S H d v) (h : kindOf S d = some n) : (v = .non ∧ n = "NoneType") ∨ (∃ b, v = .bl b ∧ n = "bool") ∨ (∃ b, v = .int b ∧ n = "int") ∨ (∃ b, v = .str b ∧ n = "str") ∨ ∃ a, v = .ref a ∧ KindAt K H a n := by
  cases d with
  | dat d =>
    cases d with
    | non => cases h; cases r; exact .inl ⟨rfl, rfl⟩
    | bl b => cases h; cases r; exact .inr (.inl ⟨b, rfl, rfl⟩)
    | int b => cases h; cases r; exact .inr (.inr (.inl ⟨b, rfl, rfl⟩))
    | str b => cases h; cases r; exact .inr (.inr (.inr (.inl ⟨b, rfl, rfl⟩)))
    | lst xs => cases h; obtain ⟨a, vs, rfl, _, h1, _⟩ := r; exact .inr (.inr (.inr (.inr ⟨a, rfl, kind_lst (SqL.of h1)⟩)))
    | tup xs => cases h; obtain ⟨a, vs, rfl, h1, _⟩ := r; exact .inr (.inr (.inr (.inr ⟨a, rfl, kind_tup h1⟩)))
    | ins C ns xs => cases h
    | dct => cases h; obtain ⟨a, rfl, _, h1⟩ := r; exact .inr (.inr (.inr (.inr ⟨a, rfl, by decide, .base (.dK h1)⟩)))
  | cels ns => cases h; obtain ⟨a, as, rfl, _, h1, _⟩ := r; exact .inr (.inr (.inr (.inr ⟨a, rfl, kind_lst (SqL.of h1)⟩)))
  | scr ns => cases h; obtain ⟨a, rfl, h1⟩ := r; exact .inr (.inr (.inr (.inr ⟨a, rfl, kind_lst h1.sq⟩)))
  | cel n =>
    obtain ⟨a, rfl, h1⟩ := r
    have h : (match S[n]? with | some (.lst _) => some "list" | some (.dct _) => some "dict" | some (.lv _) => some "list" | _ => none) = some _ := h
    split at h
    · rename_i q
      cases h
      obtain ⟨vs, h2, _⟩ := I.ok n _ a q h1
      exact .inr (.inr (.inr (.inr ⟨a, rfl, kind_lst (SqL.of h2)⟩)))
    · rename_i q
      cases h
      obtain ⟨vs, h2, _⟩ := I.ok n _ a q h1
      exact .inr (.inr (.inr (.inr ⟨a, rfl, by decide, .base (.dK h2)⟩)))
    · rename_i q
      cases h
      obtain ⟨vs, h2, _⟩ := I.ok n _ a q h1
      exact .inr (.inr (.inr (.inr ⟨a, rfl, kind_lst (SqL.of h2)⟩)))
    · cases h
theorem s_isi {T : String} (hT : T ∈ targets) : Sim1 K (cIsi K T) (fIsi T) := fun {W σ B φ S H x d Q} I r f => by
  unfold fIsi at f
  have h6 : T = "int" ∨ T = "bool" ∨ T = "str" ∨ T = "list" ∨ T = "tuple" ∨ T = "dict" := by simpa [targets] using hT
  split at f
  · rename_i n h
    have q : ∀ b, b = isTy T n → Q (.bl b) H := fun b e => by rw [e]; exact Fin.now f I rfl
    rcases kindOf_ok I r h with ⟨rfl, rfl⟩ | ⟨b, rfl, rfl⟩ | ⟨b, rfl, rfl⟩ | ⟨b, rfl, rfl⟩ | ⟨a, rfl, hk⟩
    · exact q false (by rcases h6 with e | e | e | e | e | e <;> subst e <;> decide)
    · exact q _ (by rcases h6 with e | e | e | e | e | e <;> subst e <;> decide)
    · exact q _ (by rcases h6 with e | e | e | e | e | e <;> subst e <;> decide)
    · exact q _ (by rcases h6 with e | e | e | e | e | e <;> subst e <;> decide)
    · have h3 : n = "list" ∨ n = "tuple" ∨ n = "dict" := by simpa using hk.1
      exact ⟨n, hk, q _ (by rcases h6 with e | e | e | e | e | e <;> rcases h3 with e' | e' | e' <;> subst e <;> subst e' <;> decide)⟩
  · exact f.elim
theorem f_isi {T : String} (hm : X.mg "isinstance" = none) (hmT : X.mg y = none) (ha : PE X a (rdE X.K W ma)) (hT : T ∈ targets := by decide) (hv : bootBuiltins y = some (.type T) := by decide +kernel)
    (hg : Gl X "isinstance" := by rfl) (hgT : Gl X y := by rfl) (hn : y ≠ "__name__" := by decide) (hd : (y == ("__debug__" : Str)) = false := by decide) (hs : starEach [a, .Name y q] X.env = (false, eval a X.env) :: starEach [.Name y q] X.env := by rfl) :
    PE X (.Call (.Name "isinstance" p) [a, .Name y q] [] pos) (rdE X.K W (m1 (fIsi T) ma)) := PE_imp (e_isi hm hmT ha hT hv hg hgT hn hd hs) fun σ H Q h => sim_1 (s_isi hT) h
def fIsi2 (T U : String) (x : Vl) (S : Sto) : Res Vl := match kindOf S x with
  | some n => .ok (.dat (.bl (isTy T n || isTy U n))) S
  | none => .stuck
def cutD (xs : List D) (lo hi : Option Int) : List D := (xs.drop (HT.sIx xs.length 0 lo)).take (HT.sIx xs.length xs.length hi - HT.sIx xs.length 0 lo)
theorem RepL.cut {Bk : Addr → Prop} {ds : List D} {vs : List V} {lo hi : Option Int} (h : RepL K Bk H ds vs) : RepL K Bk H (cutD ds lo hi) (cutV vs lo hi) := by
  unfold cutD cutV
  rw [h.len]
  exact (h.drop _).take _
def fSl (cl : Bool) (x : Vl) (lo hi : Option Int) (S : Sto) : Res Vl := match x with
  | .dat (.tup xs) => .ok (.dat (.tup (cutD xs lo hi))) S
  | .dat (.str z) => if z.length ≤ sizeLine then .ok (.dat (.str (cutS z lo hi))) S else .stuck
  | .scr ns => newL cl (cutD (ns.map D.int) lo hi) S
  | x => match seqL S x with
    | some xs => newL cl (cutD xs lo hi) S
    | none => .stuck
def mNoP : FO := fun _ S => .ok none S
def mPart (a : FE) : FO := fun ρ S => (a ρ S).bind fun x S1 => match x with
  | .dat (.int i) => .ok (some i) S1
  | _ => .stuck
theorem PO_imp {e : Option Expr} {t u : TO} (h : PO X e t) (i : ∀ σ H Q, u σ H Q → t σ H Q) : PO X e u := ⟨fun pins s σ H Q I q => h.run pins s σ H Q I (i σ H Q q)⟩
theorem fo_none : PO X none (rdO X.K W mNoP) := PO_imp po_none fun σ H Q h => by
  obtain ⟨B, φ, S, ρ, I, E, f⟩ := h
  exact Fin.now (v := none) f I rfl
theorem fo_some (ha : PE X a (rdE X.K W ma)) : PO X (some a) (rdO X.K W (mPart ma)) := PO_imp (po_someC ha) fun σ H Q h =>
  rd_bind (k := fun x _ S1 => match x with | .dat (.int i) => .ok (some i) S1 | _ => .stuck) h fun B φ S ρ d v H1 I E r f => by
    split at f
    · cases r; exact Fin.now f I rfl
    · exact f.elim
theorem repL_ints {Bk : Addr → Prop} : ∀ ns : List Int, RepL K Bk H (ns.map D.int) (ns.map V.int)
  | [] => rfl
  | n :: ns => ⟨_, _, rfl, rfl, repL_ints ns⟩
theorem cut_whole {xs : List D} {lo hi : Option Int} (h : HT.sIx xs.length 0 lo = 0 ∧ HT.sIx xs.length xs.length hi = xs.length) : cutD xs lo hi = xs := by
  unfold cutD
  rw [h.1, h.2]
  simp
def mSl (cl : Bool) (a : FE) (l h : FO) : FE := fun ρ S => (a ρ S).bind fun x S1 => (l ρ S1).bind fun lo S2 => (h ρ S2).bind fun hi S3 => fSl cl x lo hi S3
theorem f_sl {cl : Bool} {lo hi : Option Expr} {ml mh : FO} (ha : PE X a (rdE X.K W ma)) (hl : PO X lo (rdO X.K W ml)) (hh : PO X hi (rdO X.K W mh)) : PE X (.Subscript a (.Slice lo hi none p2) pos) (rdE X.K W (mSl cl ma ml mh)) := PE_imp (pe_slice sl_C ha hl hh) fun σ H Q h =>
  rd_bind (k := fun x ρ S1 => (ml ρ S1).bind fun lo S2 => (mh ρ S2).bind fun hi S3 => fSl cl x lo hi S3) h fun B φ S ρ d v H1 I E r f => fin_bind I E f fun φ1 S1 d1 v1 H2 I1 X1 E1 r1 f1 => fin_bind I1 E1 f1 fun φ2 S2 d2 v2 H3 I2 X2 E2 r2 f2 => by
    cases r1
    cases r2
    replace r := (r.ext X1 I).ext X2 I1
    unfold fSl at f2
    split at f2
    · rename_i xs
      obtain ⟨a, vs, rfl, h1, l1⟩ := r
      refine Or.inr ⟨vs, h1, fun hw => ?_, fun hw p hp => Fin.newT f2 I2 l1.cut hp⟩
      rw [l1.len] at hw
      have e := cut_whole (xs := xs) hw
      rw [e] at f2
      exact Fin.now f2 I2 ⟨a, vs, rfl, h1, l1⟩
    · cases r
      split at f2
      · rename_i hz; exact ⟨hz, Fin.now f2 I2 rfl⟩
      · exact f2.elim
    · obtain ⟨a, rfl, h1⟩ := r
      exact Or.inl ⟨_, h1.sq, fun p hp => Fin.newL f2 I2 (repL_ints _).cut hp⟩
    · split at f2
      · rename_i xs q1
        obtain ⟨a, vs, rfl, h1, l1⟩ := seqL_ok I2 q1 r
        exact Or.inl ⟨vs, SqL.of h1, fun p hp => Fin.newL f2 I2 l1.cut hp⟩
      · exact f2.elim
def mFrz (a : FE) : FE := fun ρ S => (a ρ S).bind fun x S1 => match x with
  | .cel n => (match S1[n]? with
    | some (.lst ds) => .ok (.dat (.lst ds)) (S1.set n .dead)
    | _ => .stuck)
  | _ => .stuck
theorem f_frz (ha : PE X a (rdE X.K W ma)) : PE X a (rdE X.K W (mFrz ma)) := PE_imp ha fun σ H Q h =>
  rd_bind (k := fun x _ S1 => match x with | .cel n => (match S1[n]? with | some (Cell.lst ds) => Res.ok (Vl.dat (D.lst ds)) (S1.set n Cell.dead) | _ => Res.stuck) | _ => Res.stuck) h fun B φ S ρ d v H1 I E r f => by
    split at f
    · rename_i n
      obtain ⟨a, rfl, h1⟩ := r
      split at f
      · rename_i ds q
        obtain ⟨vs, h2, l⟩ := I.ok n _ a q h1
        have X1 := Ext.kill (φ := φ) (S := S) (H := H1) (n := n)
        exact f φ _ H1 I.kill X1 ⟨a, vs, rfl, I.killed q (by simp) h1, h2, X1.repL I l⟩
      · exact f.elim
    · exact f.elim
theorem RepL.vs {Bk : Addr → Prop} : ∀ {ds : List D} {vs : List V}, RepL K (Blk B φ S) H ds vs → RepVs K B φ S H (ds.map Vl.dat) vs
  | [], vs, h => h
  | d :: ds, vs, ⟨v, ws, e, h1, h2⟩ => ⟨v, ws, e, h1, RepL.vs (Bk := Bk) h2⟩
theorem RepVs.append : ∀ {ds es : List Vl} {vs ws : List V}, RepVs K B φ S H ds vs → RepVs K B φ S H es ws → RepVs K B φ S H (ds ++ es) (vs ++ ws)
  | [], es, vs, ws, h, h' => by cases h; exact h'
  | d :: ds, es, vs, ws, ⟨v, us, e, h1, h2⟩, h' => by subst e; exact ⟨v, us ++ ws, rfl, h1, RepVs.append h2 h'⟩
end
end PH

namespace PH
open PySem PySem.Spec PyProof.Rows L2
inductive Out where
  | next (ρ : Ev) (S : Sto) | ret (d : Vl) (S : Sto) | brk (ρ : Ev) (S : Sto) | cnt (ρ : Ev) (S : Sto) | err (e : Er) (ρ : Ev) (S : Sto) | stuck
abbrev FS := Ev → Sto → Out
def Res.toS {α : Type} (r : Res α) (ρ : Ev) (k : α → Sto → Out) : Out := match r with
  | .ok a S => k a S
  | .err e S => .err e ρ S
  | .stuck => .stuck
def FinS (K : PySem.W.Frag) (W : WX) (D : Ends) (B : Addr → Prop) (φ : List Addr) (S : Sto) (H : Hp) (o : Out) : Prop := match o with
  | .next ρ' S' => ∀ φ' σ' H', GInv K B φ' S' H' → Ext φ S H φ' S' H' → RepE K B φ' S' H' ρ' σ' → D.nx σ' H'
  | .ret d S' => ∀ φ' v H', GInv K B φ' S' H' → Ext φ S H φ' S' H' → RepV K B φ' S' H' d v → D.rt v H'
  | .brk ρ' S' => ∀ φ' σ' H', GInv K B φ' S' H' → Ext φ S H φ' S' H' → RepE K B φ' S' H' ρ' σ' → D.bk σ' H'
  | .cnt ρ' S' => ∀ φ' σ' H', GInv K B φ' S' H' → Ext φ S H φ' S' H' → RepE K B φ' S' H' ρ' σ' → D.ct σ' H'
  | .err e ρ' S' => ∀ φ' σ' c x H', GInv K B φ' S' H' → Ext φ S H φ' S' H' → RepE K B φ' S' H' ρ' σ' → RepX K B φ' S' H' e c x → W c x σ' H'
  | .stuck => False
def rdS (K : PySem.W.Frag) (W : WX) (m : FS) : TS := fun D σ H => ∃ B φ S ρ, GInv K B φ S H ∧ RepE K B φ S H ρ σ ∧ FinS K W D B φ S H (m ρ S)
section
variable {X : Cx} {W : WX} {e a b c : Expr} {es rest : List Expr} {pos p q p2 : Pos} {x y z : Str} {K : PySem.W.Frag} {ma mb mc : FE} {mt mu : FT} {mas : FA} {B : Addr → Prop} {φ φ' : List Addr} {S S' : Sto} {H H' : Hp} {σ : L2.St} {Q : VK} {m n : FS} {st : Stmt} {sts : List Stmt} {D : Ends}
theorem PS_imp {t u : TS} (h : PS X st t) (i : ∀ D σ H, u D σ H → t D σ H) : PS X st u := ⟨fun pins s σ H D I q => h.run pins s σ H D I (i D σ H q)⟩
theorem PSs_imp {t u : TS} (h : PSs X sts t) (i : ∀ D σ H, u D σ H → t D σ H) : PSs X sts u := ⟨fun pins s σ H D I q => h.run pins s σ H D I (i D σ H q)⟩
theorem FinS.ext {o : Out} (f : FinS K W D B φ S H o) (e : Ext φ S H φ' S' H') : FinS K W D B φ' S' H' o := by
  cases o with
  | next ρ S1 => exact fun φ1 v H1 I1 X r => f φ1 v H1 I1 (e.trans X) r
  | ret d S1 => exact fun φ1 v H1 I1 X r => f φ1 v H1 I1 (e.trans X) r
  | brk ρ S1 => exact fun φ1 v H1 I1 X r => f φ1 v H1 I1 (e.trans X) r
  | cnt ρ S1 => exact fun φ1 v H1 I1 X r => f φ1 v H1 I1 (e.trans X) r
  | err x ρ S1 => exact fun φ1 σ1 c x H1 I1 X r => f φ1 σ1 c x H1 I1 (e.trans X) r
  | stuck => exact f
theorem fins_bind {α β : Type} {R : Rl α β} {ρ : Ev} {m : Ev → Sto → Res α} {k : α → Sto → Out} {Q1 : β → Hp → Prop} (I : GInv K B φ S H) (E : RepE K B φ S H ρ σ) (f : FinS K W D B φ S H ((m ρ S).toS ρ k))
    (hk : ∀ φ' S' d v H1, GInv K B φ' S' H1 → Ext φ S H φ' S' H1 → RepE K B φ' S' H1 ρ σ → R B φ' S' H1 d v → FinS K W D B φ' S' H1 (k d S') → Q1 v H1) : rd K W R m σ H Q1 := by
  refine ⟨B, φ, S, ρ, I, E, ?_⟩
  cases e : m ρ S with
  | stuck => rw [e] at f; exact f
  | err x S' =>
    rw [e] at f
    exact fun φ' c d H' I' X r => f φ' σ c d H' I' X (E.ext X I) r
  | ok d S' =>
    rw [e] at f
    exact fun φ' v H' I' X r => hk φ' S' d v H' I' X (E.ext X I) r (FinS.ext f X)
def mSeq (m n : FS) : FS := fun ρ S => match m ρ S with
  | .next ρ' S' => n ρ' S'
  | o => o
def mSkip : FS := fun ρ S => .next ρ S
def mRet (a : FE) : FS := fun ρ S => (a ρ S).toS ρ fun d S1 => .ret d S1
def mDrop (a : FE) : FS := fun ρ S => (a ρ S).toS ρ fun _ S1 => .next ρ S1
def mIfS (t : FT) (m n : FS) : FS := fun ρ S => (t ρ S).toS ρ fun c S1 => if c = true then m ρ S1 else n ρ S1
theorem sim_seq (h : rdS K W (mSeq m n) D σ H) : tSeq (rdS K W m) (rdS K W n) D σ H := by
  obtain ⟨B, φ, S, ρ, I, E, f⟩ := h
  refine ⟨B, φ, S, ρ, I, E, ?_⟩
  unfold mSeq at f
  cases e : m ρ S with
  | next ρ' S' =>
    rw [e] at f
    exact fun φ' σ' H' I' X r => ⟨B, φ', S', ρ', I', r, FinS.ext f X⟩
  | ret d S' => rw [e] at f; exact f
  | brk d S' => rw [e] at f; exact f
  | cnt d S' => rw [e] at f; exact f
  | err x d S' => rw [e] at f; exact f
  | stuck => rw [e] at f; exact f
theorem fss_nil : PSs X [] (rdS X.K W mSkip) := PSs_imp pss_nil fun D σ H h => by
  obtain ⟨B, φ, S, ρ, I, E, f⟩ := h
  exact f φ σ H I Ext.refl E
theorem fss_one (h : PS X st (rdS X.K W m)) : PSs X [st] (rdS X.K W m) := pss_one h
theorem fss_cons (h : PS X st (rdS X.K W m)) (hr : PSs X sts (rdS X.K W n)) : PSs X (st :: sts) (rdS X.K W (mSeq m n)) := PSs_imp (pss_cons h hr) fun D σ H h => sim_seq h
theorem fs_ret (ha : PE X a (rdE X.K W ma)) : PS X (.Return (some a) pos) (rdS X.K W (mRet ma)) := PS_imp (ps_ret ha) fun D σ H h => by
  obtain ⟨B, φ, S, ρ, I, E, f⟩ := h
  exact fins_bind I E f fun φ' S' d v H1 I1 X1 E1 r f1 => f1 φ' v H1 I1 Ext.refl r
theorem fs_expr (ha : PE X a (rdE X.K W ma)) (hs : swapsWith a none pos.line X.env = pure false := by rfl) : PS X (.Expr a pos) (rdS X.K W (mDrop ma)) := PS_imp (ps_expr ha hs) fun D σ H h => by
  obtain ⟨B, φ, S, ρ, I, E, f⟩ := h
  exact fins_bind I E f fun φ' S' d v H1 I1 X1 E1 r f1 => f1 φ' σ H1 I1 Ext.refl E1
theorem fs_if {s1 s2 : List Stmt} (ht : PT X c (rdT X.K W mt)) (ha : PSs X s1 (rdS X.K W m)) (hb : PSs X s2 (rdS X.K W n)) : PS X (.If c s1 s2 pos) (rdS X.K W (mIfS mt m n)) := PS_imp (ps_if ht ha hb) fun D σ H h => by
  obtain ⟨B, φ, S, ρ, I, E, f⟩ := h
  refine fins_bind I E f fun φ' S' d v H1 I1 X1 E1 r f1 => ?_
  have r : v = d := r
  subst r
  cases v with
  | true => exact ⟨B, φ', S', ρ, I1, E1, f1⟩
  | false => exact ⟨B, φ', S', ρ, I1, E1, f1⟩
inductive Tg where
  | nm (i : Nat) | tp (is : List Nat) | tn (i : Nat) (is : List Nat)
def gNames : List Nat → TGs
  | [] => gNil
  | i :: r => gCons (gName i) (gNames r)
def tgR (K : PySem.W.Frag) : Tg → TG
  | .nm i => gName i
  | .tp is => gTup K is.length (gNames is)
  | .tn i is => gTup K 2 (gCons (gName i) (gCons (gTup K is.length (gNames is)) gNil))
def putAll : List Nat → List L2.V → L2.St → L2.St
  | i :: r, v :: vs, σ => putAll r vs (σ.set i (some v))
  | _, _, σ => σ
def putEv : List Nat → List PH.D → Ev → Ev
  | i :: r, v :: vs, σ => putEv r vs (σ.set i (some (.dat v)))
  | _, _, σ => σ
def tgF : Tg → Vl → Ev → Option Ev
  | .nm i, d, ρ => some (ρ.set i (some d))
  | .tp is, .dat (.tup ds), ρ => if ds.length = is.length then some (putEv is ds ρ) else none
  | .tp _, _, _ => none
  | .tn i is, .dat (.tup [d, .tup ds]), ρ => if ds.length = is.length then some (putEv is ds (ρ.set i (some (.dat d)))) else none
  | .tn _ _, _, _ => none
def tgS : Tg → List Nat
  | .nm i => [i]
  | .tp is => is
  | .tn i is => i :: is
theorem gNames_ok {Q : L2.St → Hp → Prop} : ∀ {is : List Nat} {vs : List L2.V} {σ : L2.St} {H : Hp}, vs.length = is.length → Q (putAll is vs σ) H → gNames is vs σ H Q
  | [], [], σ, H, _, q => ⟨rfl, q⟩
  | i :: is, v :: vs, σ, H, h, q => ⟨v, vs, rfl, gNames_ok (is := is) (by simpa using h) q⟩
  | [], _ :: _, _, _, h, _ => by simp at h
  | _ :: _, [], _, _, h, _ => by simp at h
theorem putEv_ok : ∀ {is : List Nat} {ds : List PH.D} {vs : List L2.V} {ρ : Ev} {σ : L2.St}, RepL K (Blk B φ S) H ds vs → RepE K B φ S H ρ σ → RepE K B φ S H (putEv is ds ρ) (putAll is vs σ)
  | [], ds, vs, ρ, σ, h, E => by cases ds <;> cases vs <;> exact E
  | i :: is, [], vs, ρ, σ, h, E => by cases h; exact E
  | i :: is, d :: ds, vs, ρ, σ, ⟨v, ws, e, h1, h2⟩, E => by subst e; exact putEv_ok (is := is) h2 (E.set (d := .dat d) h1 i)
/-- the new slots of a store -/
def stOf : Tg → L2.V → List L2.V → L2.St → L2.St
  | .nm i, v, _, σ => σ.set i (some v)
  | .tp is, _, vs, σ => putAll is vs σ
  | .tn i is, _, v :: vs, σ => putAll is vs (σ.set i (some v))
  | .tn _ _, _, [], σ => σ
theorem tg_sim {t : Tg} {d : Vl} {v : L2.V} {ρ ρ' : Ev} {Q : L2.St → Hp → Prop} (E : RepE K B φ S H ρ σ) (r : RepV K B φ S H d v) (h : tgF t d ρ = some ρ') (q : ∀ vs, RepE K B φ S H ρ' (stOf t v vs σ) → Q (stOf t v vs σ) H) : tgR K t v σ H Q := by
  cases t with
  | nm i => cases h; exact q [] (E.set r i)
  | tp is =>
    cases d with
    | dat d =>
      cases d with
      | tup ds =>
        have h : (if ds.length = is.length then some (putEv is ds ρ) else none) = some ρ' := h
        split at h
        · rename_i hl
          cases h
          obtain ⟨a, vs, rfl, h1, l⟩ := r
          exact ⟨a, vs, rfl, h1, by rw [l.len, hl], gNames_ok (by rw [l.len, hl]) (q vs (putEv_ok l E))⟩
        · cases h
      | _ => cases h
    | _ => cases h
  | tn i is =>
    cases d with
    | dat d =>
      cases d with
      | tup xs =>
        cases xs with
        | nil => cases h
        | cons d0 xs =>
          cases xs with
          | nil => cases h
          | cons d1 xs =>
            cases xs with
            | cons _ _ => cases d1 <;> cases h
            | nil =>
              cases d1 with
              | tup ds =>
                have h : (if ds.length = is.length then some (putEv is ds (ρ.set i (some (.dat d0)))) else none) = some ρ' := h
                split at h
                · rename_i hl
                  cases h
                  obtain ⟨a, vs, rfl, h1, v0, ws, rfl, r0, v1, us, rfl, ⟨b, zs, rfl, h2, l⟩, rfl⟩ := r
                  refine ⟨a, [v0, .ref b], rfl, h1, rfl, v0, _, rfl, .ref b, _, rfl, b, zs, rfl, h2, by rw [l.len, hl], ?_⟩
                  refine gNames_ok (Q := fun σ' H' => gNil [] σ' H' Q) (by rw [l.len, hl]) ⟨rfl, ?_⟩
                  exact q (v0 :: zs) (putEv_ok l (E.set (d := .dat d0) r0 i))
                · cases h
              | _ => cases h
      | _ => cases h
    | _ => cases h
def mAsg (a : FE) (t : Tg) : FS := fun ρ S => (a ρ S).toS ρ fun d S1 => match tgF t d ρ with
  | some ρ' => .next ρ' S1
  | none => .stuck
theorem sim_asg {t : Tg} (h : rdS K W (mAsg ma t) D σ H) : tAsg (rdE K W ma) (tgR K t) D σ H := by
  obtain ⟨B, φ, S, ρ, I, E, f⟩ := h
  refine fins_bind I E f fun φ' S' d v H1 I1 X1 E1 r f1 => ?_
  split at f1
  · rename_i ρ' q
    exact tg_sim E1 r q fun vs E2 => f1 φ' _ H1 I1 Ext.refl E2
  · exact f1.elim
theorem fs_asg {tg e : Expr} {t : Tg} (he : PE X e (rdE X.K W ma)) (hg : PG X tg (tgR X.K t)) (hs : swapsWithSole [tg] e pos.line X.env = pure false := by rfl) (hw : swappedStores [tg] e X.env = pure none := by rfl)
    (h1 : (assignEach [tg] X.env).map (·.2) = [assign tg X.env] := by rfl) : PS X (.Assign [tg] e pos) (rdS X.K W (mAsg ma t)) := PS_imp (ps_asg he hg hs hw h1) fun D σ H h => sim_asg h
theorem fs_set {i : Nat} {x : Str} {e : Expr} {pos' : Pos} (hN : X.N.Nodup) (hi : X.N[i]? = some x) (hx : Loc X.env.scope x) (he : PE X e (rdE X.K W ma)) (hs : swapsWith e (some (.Name x pos')) pos.line X.env = pure false := by rfl) (hf : X.fn x = true ∨ X.env.scope.names.lookup x = some .local := by first | exact .inl rfl | exact .inr rfl | assumption) :
    PS X (.Assign [.Name x pos'] e pos) (rdS X.K W (mAsg ma (.nm i))) := PS_imp (ps_set hN hi hx he hs hf) fun D σ H h => sim_asg (t := .nm i) h
/-- names that are not needed any more -/
def wipeE (ρ : Ev) : List Nat → Ev
  | [] => ρ
  | v :: vs => (wipeE ρ vs).set v none
theorem RepE.wipeE {ρ : Ev} (E : RepE K B φ S H ρ σ) : ∀ is : List Nat, RepE K B φ S H (wipeE ρ is) σ
  | [] => E
  | i :: is => (RepE.wipeE E is).forget i
def mWipe (is : List Nat) (m : FS) : FS := fun ρ S => match m ρ S with
  | .next ρ' S' => .next (wipeE ρ' is) S'
  | .cnt ρ' S' => .cnt (wipeE ρ' is) S'
  | .brk ρ' S' => .brk (wipeE ρ' is) S'
  | o => o
theorem sim_wipe {is : List Nat} (h : rdS K W (mWipe is m) D σ H) : rdS K W m D σ H := by
  obtain ⟨B, φ, S, ρ, I, E, f⟩ := h
  refine ⟨B, φ, S, ρ, I, E, ?_⟩
  unfold mWipe at f
  cases e : m ρ S with
  | next ρ' S' => rw [e] at f; exact fun φ' σ' H' I' X r => f φ' σ' H' I' X (r.wipeE is)
  | ret d S' => rw [e] at f; exact f
  | brk ρ' S' => rw [e] at f; exact fun φ' σ' H' I' X r => f φ' σ' H' I' X (r.wipeE is)
  | cnt ρ' S' => rw [e] at f; exact fun φ' σ' H' I' X r => f φ' σ' H' I' X (r.wipeE is)
  | err x d S' => rw [e] at f; exact f
  | stuck => rw [e] at f; exact f
theorem fss_wipe (is : List Nat) (h : PSs X sts (rdS X.K W m)) : PSs X sts (rdS X.K W (mWipe is m)) := PSs_imp h fun D σ H h => sim_wipe h
abbrev FI := Ev → Sto → Res (List PH.D)
def ItOk (K : PySem.W.Frag) (B : Addr → Prop) (φ : List Addr) (S : Sto) (H : Hp) (J : It) (ds : List PH.D) : Prop := ∀ φ1 S1 H1 B1, GInv K B1 φ1 S1 H1 → Kp (Blk B φ S) H (Blk B1 φ1 S1) H1 →
  (∀ i, i < ds.length → J.go i H1) ∧ J.stop ds.length H1 ∧ ∀ i x H2 d, ds[i]? = some d → J.yld i H1 x H2 → GInv K B1 φ1 S1 H2 ∧ Ext φ1 S1 H1 φ1 S1 H2 ∧ Rep K (Blk B1 φ1 S1) H2 d x
def RI (K : PySem.W.Frag) : Rl (List PH.D) It := fun B φ S H ds J => ItOk K B φ S H J ds
abbrev rdI (K : PySem.W.Frag) (W : WX) (m : FI) : TI := rd K W (RI K) m
theorem PI_imp {tg iter : Expr} {t u : TI} (h : PI X tg iter t) (i : ∀ σ H R, u σ H R → t σ H R) : PI X tg iter u := ⟨fun pins s σ H R I q => h.run pins s σ H R I (i σ H R q)⟩
/-- more is blocked -/
theorem Kp.more {B1 : Addr → Prop} (h1 : ∀ a, B a → B1 a) (h2 : ∀ a, H a ≠ none → B1 a → B a) : Kp (Blk B φ S) H (Blk B1 φ S) H where
  old := fun b o h n => ⟨h, fun q => by
    rcases q with q | q
    · exact n (.inl (h2 b (by rw [h]; simp) q))
    · exact n (.inr q)⟩
  tup := fun _ _ h => h
theorem Kp.trans {B1 B2 B3 : Addr → Prop} {H1 H2 H3 : Hp} (a : Kp B1 H1 B2 H2) (b : Kp B2 H2 B3 H3) : Kp B1 H1 B3 H3 := ⟨fun c o h n => b.old c o (a.old c o h n).1 (a.old c o h n).2, fun c u h => b.tup c u (a.tup c u h)⟩
theorem Ext.kpB {B1 : Addr → Prop} {φ1 : List Addr} {S1 : Sto} {H1 : Hp} (h1 : ∀ a, B a → B1 a) (h2 : ∀ a, H a ≠ none → B1 a → B a) (I : GInv K B φ S H) (x : Ext φ S H φ1 S1 H1) : Kp (Blk B φ S) H (Blk B1 φ1 S1) H1 where
  old := fun b o h n => by
    obtain ⟨h3, h4⟩ := x.old b o h (fun q => n (.inr q))
    exact ⟨h3, fun q => by
      rcases q with q | q
      · exact n (.inl (h2 b (by rw [h]; simp) q))
      · exact h4 q⟩
  tup := (x.kp I).tup
theorem it_list {v : L2.V} {ds : List PH.D} (I : GInv K B φ S H) (r : Rep K (Blk B φ S) H (.lst ds) v) : ∃ a, v = .ref a ∧ (∃ xs, SqL K H a xs) ∧ ItOk K B φ S H (Itl K a) ds := by
  obtain ⟨a, vs, rfl, nb, h1, l⟩ := r
  refine ⟨a, rfl, ⟨vs, SqL.of h1⟩, fun φ1 S1 H1 B1 I1 X1 => ?_⟩
  have h2 := (X1.old a _ h1 nb).1
  have l2 := RepL.kp X1 ds vs l
  have hl := l.len
  refine ⟨fun i hi => ⟨vs, vs[i], SqL.of h2, by simp [hl, hi]⟩, ⟨vs, SqL.of h2, by omega⟩, fun i x H2 d hd y => ?_⟩
  obtain ⟨rfl, y⟩ := y
  obtain ⟨v', h3, h4⟩ := l2.get hd
  rw [y vs (SqL.of h2)] at h3
  cases h3
  exact ⟨I1, Ext.refl, h4⟩
theorem it_tup {v : L2.V} {ds : List PH.D} (I : GInv K B φ S H) (r : Rep K (Blk B φ S) H (.tup ds) v) : ∃ a, v = .ref a ∧ (∃ xs, SqT K H a xs) ∧ ItOk K B φ S H (Itt K a) ds := by
  obtain ⟨a, vs, rfl, h1, l⟩ := r
  refine ⟨a, rfl, ⟨vs, h1⟩, fun φ1 S1 H1 B1 I1 X1 => ?_⟩
  have h2 : SqT K H1 a vs := SqT.kp X1.tup h1
  have l2 := RepL.kp X1 ds vs l
  have hl := l.len
  refine ⟨fun i hi => ⟨vs, vs[i], h2, by simp [hl, hi]⟩, ⟨vs, h2, by omega⟩, fun i x H2 d hd y => ?_⟩
  obtain ⟨rfl, y⟩ := y
  obtain ⟨v', h3, h4⟩ := l2.get hd
  rw [y vs h2] at h3
  cases h3
  exact ⟨I1, Ext.refl, h4⟩
def itemsOf : Vl → Sto → Res (List PH.D)
  | .dat (.lst ds), S => .ok ds S
  | .dat (.tup ds), S => .ok ds S
  | _, _ => .stuck
def mSeqI (a : FE) : FI := fun ρ S => (a ρ S).bind itemsOf
theorem fi_seq {tg : Expr} (ha : PE X a (rdE X.K W ma)) : PI X tg a (rdI X.K W (mSeqI ma)) := PI_imp (pi_seq ha) fun σ H R h =>
  rd_bind (k := fun x _ S => itemsOf x S) h fun B φ S ρ d v H1 I E r f => by
    unfold itemsOf at f
    split at f
    · obtain ⟨a, rfl, h1, h2⟩ := it_list I r
      exact Or.inl ⟨h1, Fin.now f I h2⟩
    · obtain ⟨a, rfl, h1, h2⟩ := it_tup I r
      exact Or.inr ⟨h1, Fin.now f I h2⟩
    · exact f.elim
def rngD (lo : Int) (n : Nat) : List PH.D := (List.range n).map fun (k : Nat) => PH.D.int (lo + (k : Int))
theorem it_rng {lo : Int} {n : Nat} : ItOk K B φ S H (Itr lo n) (rngD lo n) := fun φ1 S1 H1 B1 I1 X1 => by
  refine ⟨fun i hi => by show i < n; simpa [rngD] using hi, by show n ≤ _; simp [rngD], fun i x H2 d hd y => ?_⟩
  obtain ⟨rfl, rfl⟩ := y
  have : d = .int (lo + (i : Int)) := by
    unfold rngD at hd
    rw [List.getElem?_map] at hd
    cases q : (List.range n)[i]? with
    | none => rw [q] at hd; cases hd
    | some k =>
      rw [q] at hd
      have := List.getElem?_eq_some_iff.mp q
      obtain ⟨_, e⟩ := this
      simp at e
      subst e
      cases hd
      rfl
  subst this
  exact ⟨I1, Ext.refl, rfl⟩
def mRng1 (a : FE) : FI := fun ρ S => (a ρ S).bind fun x S1 => match x with
  | .dat (.int j) => if -(2 ^ 62) ≤ j ∧ j < 2 ^ 62 then .ok (rngD 0 j.toNat) S1 else .stuck
  | _ => .stuck
theorem fi_rng1 {tg : Expr} (hg : Gl X "range") (hm : X.mg "range" = none) (ha : PE X a (rdE X.K W ma)) (hs : starEach [a] X.env = [(false, eval a X.env)] := by rfl) : PI X tg (.Call (.Name "range" p) [a] [] pos) (rdI X.K W (mRng1 ma)) := PI_imp (pi_range1 hg hm (pa_cons ha pa_nil hs) hs) fun σ H R h =>
  rd_bind (k := fun x _ S1 => match x with | Vl.dat (PH.D.int j) => if -(2 ^ 62) ≤ j ∧ j < 2 ^ 62 then Res.ok (rngD 0 j.toNat) S1 else .stuck | _ => .stuck) h fun B φ S ρ d v H1 I E r f => by
    split at f
    · rename_i j
      cases r
      split at f
      · rename_i hj
        exact ⟨j, rfl, hj.1, hj.2, Fin.now f I it_rng⟩
      · exact f.elim
    · exact f.elim
def enumD : Nat → List PH.D → List PH.D
  | _, [] => []
  | n, d :: r => .tup [.int (n : Nat), d] :: enumD (n + 1) r
theorem enumD_len : ∀ (n : Nat) (ds : List PH.D), (enumD n ds).length = ds.length
  | _, [] => rfl
  | n, d :: r => by simp [enumD, enumD_len (n + 1) r]
theorem enumD_get : ∀ (n : Nat) (ds : List PH.D) (i : Nat), (enumD n ds)[i]? = (ds[i]?).map fun d => PH.D.tup [.int ((n + i : Nat) : Int), d]
  | n, [], i => by simp [enumD]
  | n, d :: r, 0 => by simp [enumD]
  | n, d :: r, i + 1 => by
    simp only [enumD, List.getElem?_cons_succ]
    rw [enumD_get (n + 1) r i, show n + 1 + i = n + (i + 1) by omega]
def mEnum (a : FE) : FI := fun ρ S => (a ρ S).bind fun x S1 => match x with
  | .dat (.lst ds) => .ok (enumD 0 ds) S1
  | _ => .stuck
theorem it_enum {a : Addr} {vs : List L2.V} {ds : List PH.D} (I : GInv K B φ S H) (nb : ¬ Blk B φ S a) (h1 : H a = some (.lst vs)) (l : RepL K (Blk B φ S) H ds vs) : ItOk K B φ S H (Ite K a) (enumD 0 ds) := fun φ1 S1 H1 B1 I1 X1 => by
  have h2 := (X1.old a _ h1 nb).1
  have l2 := RepL.kp X1 ds vs l
  have hl := l.len
  rw [enumD_len]
  refine ⟨fun i hi => ⟨vs, vs[i], SqL.of h2, by simp [hl, hi]⟩, ⟨vs, SqL.of h2, by omega⟩, fun i x H2 d hd y => ?_⟩
  obtain ⟨T, x', rfl, nT, rfl, y⟩ := y
  rw [enumD_get, Nat.zero_add] at hd
  cases q : ds[i]? with
  | none => rw [q] at hd; cases hd
  | some d' =>
    rw [q] at hd
    cases hd
    obtain ⟨v', h3, h4⟩ := l2.get q
    rw [y vs (SqL.of h2)] at h3
    cases h3
    have X2 := Ext.new (o := .tup [.int (i : Nat), x']) I1 nT
    exact ⟨I1.new nT, X2, T, _, rfl, .inl (.inl upd_same), _, _, rfl, rfl, _, _, rfl, Rep.kp (X2.kp I1) _ _ h4, rfl⟩
theorem fi_enum {elts : List Expr} {kk : Nat} {tpos : Pos} (hg : Gl X "enumerate") (hm : X.mg "enumerate" = none) (ha : PE X a (rdE X.K W ma)) (hs : starEach [a] X.env = [(false, eval a X.env)] := by rfl) : PI X (.Tuple elts kk tpos) (.Call (.Name "enumerate" p) [a] [] pos) (rdI X.K W (mEnum ma)) := PI_imp (pi_enum hg hm (pa_cons ha pa_nil hs) hs) fun σ H R h =>
  rd_bind (k := fun x _ S1 => match x with | Vl.dat (PH.D.lst ds) => Res.ok (enumD 0 ds) S1 | _ => .stuck) h fun B φ S ρ d v H1 I E r f => by
    split at f
    · obtain ⟨a, vs, rfl, nb, h1, l⟩ := r
      exact ⟨a, vs, rfl, SqL.of h1, Fin.now f I (it_enum I nb h1 l)⟩
    · exact f.elim
def zipD : List PH.D → List PH.D → List PH.D
  | a :: r, b :: s => .tup [a, b] :: zipD r s
  | _, _ => []
theorem zipD_get : ∀ (xs ys : List PH.D) (i : Nat) (d : PH.D), (zipD xs ys)[i]? = some d → ∃ a b, xs[i]? = some a ∧ ys[i]? = some b ∧ d = .tup [a, b]
  | [], ys, i, d, h => by simp [zipD] at h
  | _ :: _, [], i, d, h => by simp [zipD] at h
  | a :: r, b :: s, 0, d, h => by simp [zipD] at h; exact ⟨a, b, rfl, rfl, h.symm⟩
  | a :: r, b :: s, i + 1, d, h => by
    simp only [zipD, List.getElem?_cons_succ] at h
    obtain ⟨x, y, h1, h2, h3⟩ := zipD_get r s i d h
    exact ⟨x, y, by simpa using h1, by simpa using h2, h3⟩
theorem zipD_len : ∀ (xs ys : List PH.D), (zipD xs ys).length = min xs.length ys.length
  | [], ys => by simp [zipD]
  | _ :: _, [] => by simp [zipD]
  | a :: r, b :: s => by simp [zipD, zipD_len r s]
def mZip (a b : FE) : FI := fun ρ S => (a ρ S).bind fun x S1 => (b ρ S1).bind fun y S2 => match x, y with
  | .dat (.lst ds), .dat (.lst es) => .ok (zipD ds es) S2
  | _, _ => .stuck
theorem fi_zip {elts : List Expr} {kk : Nat} {tpos : Pos} (hg : Gl X "zip") (hm : X.mg "zip" = none) (ha : PE X a (rdE X.K W ma)) (hb : PE X b (rdE X.K W mb)) (hs : starEach [a, b] X.env = (false, eval a X.env) :: starEach [b] X.env := by rfl) (hs2 : starEach [b] X.env = [(false, eval b X.env)] := by rfl) (hpl : (backTo pos (starEach [b] X.env)).any (·.1) = false := by rfl) : PI X (.Tuple elts kk tpos) (.Call (.Name "zip" p) [a, b] [] pos) (rdI X.K W (mZip ma mb)) := PI_imp (pi_zip hg hm (pa_cons ha (pa_cons hb pa_nil hs2) hs) hs hpl) fun σ H R h =>
  rd_bind (k := fun x ρ S1 => (mb ρ S1).bind fun y S2 => match x, y with | Vl.dat (PH.D.lst ds), Vl.dat (PH.D.lst es) => Res.ok (zipD ds es) S2 | _, _ => .stuck) h fun B φ S ρ d v H1 I E r f => fin_bind I E f fun φ' S' d2 v2 H2 I2 X2 E2 r2 f2 => by
    split at f2
    · rename_i ds es
      replace r := r.ext X2 I
      obtain ⟨a, vs, rfl, na, h1, l1⟩ := r
      obtain ⟨b, ws, rfl, nb, h2, l2⟩ := r2
      refine ⟨a, b, vs, ws, rfl, SqL.of h1, SqL.of h2, Fin.now f2 I2 fun φ3 S3 H3 B3 I3 X3 => ?_⟩
      have h1' := (X3.old a _ h1 na).1
      have h2' := (X3.old b _ h2 nb).1
      have l1' := RepL.kp X3 ds vs l1
      have l2' := RepL.kp X3 es ws l2
      have e1 := l1.len
      have e2 := l2.len
      rw [zipD_len]
      refine ⟨fun i hi => ?_, ⟨vs, ws, SqL.of h1', SqL.of h2', by omega⟩, fun i x H4 d hd y => ?_⟩
      · have i1 : i < vs.length := by omega
        have i2 : i < ws.length := by omega
        exact ⟨vs, ws, vs[i], ws[i], SqL.of h1', SqL.of h2', by simp [i1], by simp [i2]⟩
      · obtain ⟨T, x', y', rfl, nT, rfl, y1, y2⟩ := y
        obtain ⟨a', b', g1, g2, rfl⟩ := zipD_get ds es i d hd
        obtain ⟨v1, k1, k2⟩ := l1'.get g1
        obtain ⟨v2, k3, k4⟩ := l2'.get g2
        rw [y1 vs (SqL.of h1')] at k1
        rw [y2 ws (SqL.of h2')] at k3
        cases k1
        cases k3
        have X4 := Ext.new (o := .tup [x', y']) I3 nT
        exact ⟨I3.new nT, X4, T, _, rfl, .inl (.inl upd_same), _, _, rfl, Rep.kp (X4.kp I3) _ _ k2, _, _, rfl, Rep.kp (X4.kp I3) _ _ k4, rfl⟩
    · exact f2.elim
end
end PH

namespace PH
open PySem PySem.Spec PyProof.Rows L2
section
variable {X : Cx} {W : WX} {e a b c : Expr} {es rest : List Expr} {pos p q p2 : Pos} {x y z : Str} {K : PySem.W.Frag} {ma mb mc : FE} {mt mu : FT} {mas : FA} {mi : FI} {B : Addr → Prop} {φ φ' : List Addr} {S S' : Sto} {H H' : Hp} {σ : L2.St} {Q : VK} {m n : FS} {st : Stmt} {sts : List Stmt} {D : Ends} {t : Tg}
def loop (t : Tg) (mb : FS) : List PH.D → Ev → Sto → Out
  | [], ρ, S => .next ρ S
  | d :: r, ρ, S => match tgF t (.dat d) ρ with
    | none => .stuck
    | some ρ1 => match mb ρ1 S with
      | .next ρ2 S2 => loop t mb r ρ2 S2
      | .cnt ρ2 S2 => loop t mb r ρ2 S2
      | .brk ρ2 S2 => .next ρ2 S2
      | .ret d S2 => .ret d S2
      | .err e ρ2 S2 => .err e ρ2 S2
      | .stuck => .stuck
def mFor (mi : FI) (t : Tg) (mb : FS) : FS := fun ρ S => (mi ρ S).toS ρ fun ds S1 => loop t mb ds ρ S1
theorem sim_for (h : rdS K W (mFor mi t m) D σ H) : tFor (rdI K W mi) (tgR K t) (rdS K W m) D σ H := by
  obtain ⟨B, φ, S, ρ, I, E, f⟩ := h
  refine fins_bind I E f fun φ0 S0 ds J H0 I0 X0 E0 r f0 => ?_
  refine ⟨fun i k σ' H' => i ≤ ds.length ∧ k = ds.length - i ∧ ∃ φ1 S1 ρ1, GInv K B φ1 S1 H' ∧ Ext φ0 S0 H0 φ1 S1 H' ∧ RepE K B φ1 S1 H' ρ1 σ' ∧ FinS K W D B φ1 S1 H' (loop t m (ds.drop i) ρ1 S1), ⟨_, Nat.zero_le _, rfl, φ0, S0, ρ, I0, Ext.refl, E0, f0⟩, ?_⟩
  rintro i k σ' H' ⟨hi, rfl, φ1, S1, ρ1, I1, X1, E1, f1⟩
  obtain ⟨hgo, hstop, hyld⟩ := r φ1 S1 H' B I1 (X1.kp I0)
  by_cases hlt : i < ds.length
  · refine .inr ⟨hgo i hlt, fun σ2 H2 => i + 1 ≤ ds.length ∧ ∃ φ2 S2 ρ2, GInv K B φ2 S2 H2 ∧ Ext φ0 S0 H0 φ2 S2 H2 ∧ RepE K B φ2 S2 H2 ρ2 σ2 ∧ FinS K W D B φ2 S2 H2 (loop t m (ds.drop (i + 1)) ρ2 S2), fun σ2 H2 ⟨h1, h2⟩ => ⟨ds.length - (i + 1), by omega, h1, rfl, h2⟩, fun x H2 y => ?_⟩
    have hd : ds[i]? = some ds[i] := by simp [hlt]
    obtain ⟨I2, X2, r2⟩ := hyld i x H2 ds[i] hd y
    rw [List.drop_eq_getElem_cons hlt] at f1
    unfold loop at f1
    have E2 := E1.ext X2 I1
    have f2 := FinS.ext f1 X2
    split at f2
    · exact f2.elim
    · rename_i ρ2 q2
      refine tg_sim E2 (d := .dat ds[i]) r2 q2 fun vs E3 => ⟨B, φ1, S1, ρ2, I2, E3, ?_⟩
      cases q3 : m ρ2 S1 with
      | next ρ3 S3 =>
        rw [q3] at f2
        exact fun φ3 σ3 H3 I3 X3 E4 => ⟨hlt, φ3, S3, ρ3, I3, X1.trans (X2.trans X3), E4, FinS.ext f2 X3⟩
      | cnt ρ3 S3 =>
        rw [q3] at f2
        exact fun φ3 σ3 H3 I3 X3 E4 => ⟨hlt, φ3, S3, ρ3, I3, X1.trans (X2.trans X3), E4, FinS.ext f2 X3⟩
      | brk ρ3 S3 => rw [q3] at f2; exact f2
      | ret d S3 => rw [q3] at f2; exact f2
      | err e ρ3 S3 => rw [q3] at f2; exact f2
      | stuck => rw [q3] at f2; exact f2
  · have e : i = ds.length := by omega
    subst e
    rw [List.drop_length] at f1
    exact .inl ⟨hstop, f1 φ1 σ' H' I1 Ext.refl E1⟩
theorem fs_for {tg iter : Expr} (hp : PassesOwn (model X.prog X.w) X.A X.env X.xe) (hc : X.calm = true) (hi : PI X tg iter (rdI X.K W mi)) (hg : PG X tg (tgR X.K t)) (hb : PSs X sts (rdS X.K W m))
    (hs : ∀ x, foldedSetIterable iter X.env x = pure x := by intro _; rfl) : PS X (.For tg iter sts [] pos) (rdS X.K W (mFor mi t m)) := PS_imp (ps_for hp hc hi hg hb hs) fun D σ H h => sim_for h
def wloop (mt : FT) (mb : FS) : Nat → Ev → Sto → Out
  | 0, _, _ => .stuck
  | n + 1, ρ, S => (mt ρ S).toS ρ fun c S1 => if c = true then (match mb ρ S1 with
      | .next ρ2 S2 => wloop mt mb n ρ2 S2
      | .cnt ρ2 S2 => wloop mt mb n ρ2 S2
      | .brk ρ2 S2 => .next ρ2 S2
      | .ret d S2 => .ret d S2
      | .err e ρ2 S2 => .err e ρ2 S2
      | .stuck => .stuck) else .next ρ S1
def mWhile (k : Nat) (mt : FT) (mb : FS) : FS := fun ρ S => wloop mt mb k ρ S
theorem sim_while {k : Nat} (h : rdS K W (mWhile k mt m) D σ H) : tWhile (rdT K W mt) (rdS K W m) D σ H := by
  obtain ⟨B, φ, S, ρ, I, E, f⟩ := h
  refine ⟨fun k σ' H' => ∃ φ1 S1 ρ1, GInv K B φ1 S1 H' ∧ RepE K B φ1 S1 H' ρ1 σ' ∧ FinS K W D B φ1 S1 H' (wloop mt m k ρ1 S1), ⟨k, φ, S, ρ, I, E, f⟩, ?_⟩
  rintro k σ' H' ⟨φ1, S1, ρ1, I1, E1, f1⟩
  cases k with
  | zero => exact f1.elim
  | succ k =>
    refine fins_bind I1 E1 f1 fun φ2 S2 d v H2 I2 X2 E2 r f2 => ?_
    have r : v = d := r
    subst r
    cases v with
    | false => exact f2 φ2 σ' H2 I2 Ext.refl E2
    | true =>
      refine ⟨fun σ3 H3 => ∃ φ1 S1 ρ1, GInv K B φ1 S1 H3 ∧ RepE K B φ1 S1 H3 ρ1 σ3 ∧ FinS K W D B φ1 S1 H3 (wloop mt m k ρ1 S1), fun σ3 H3 h3 => ⟨k, Nat.lt_succ_self _, h3⟩, ⟨B, φ2, S2, ρ1, I2, E2, ?_⟩⟩
      rw [if_pos rfl] at f2
      cases q3 : m ρ1 S2 with
      | next ρ3 S3 =>
        rw [q3] at f2
        exact fun φ3 σ3 H3 I3 X3 E4 => ⟨φ3, S3, ρ3, I3, E4, FinS.ext f2 X3⟩
      | cnt ρ3 S3 =>
        rw [q3] at f2
        exact fun φ3 σ3 H3 I3 X3 E4 => ⟨φ3, S3, ρ3, I3, E4, FinS.ext f2 X3⟩
      | brk ρ3 S3 => rw [q3] at f2; exact f2
      | ret d S3 => rw [q3] at f2; exact f2
      | err e ρ3 S3 => rw [q3] at f2; exact f2
      | stuck => rw [q3] at f2; exact f2
theorem fs_while {k : Nat} (hp : PassesOwn (model X.prog X.w) X.A X.env X.xe) (hc : PT X c (rdT X.K W mt)) (hb : PSs X sts (rdS X.K W m)) : PS X (.While c sts [] pos) (rdS X.K W (mWhile k mt m)) := PS_imp (ps_while hp hc hb) fun D σ H h => sim_while h
theorem wipe_at : ∀ (vs : List Nat) (σ : L2.St) (j : Nat), (wipe σ vs)[j]? = if j ∈ vs then (σ[j]?).map (fun _ => none) else σ[j]?
  | [], σ, j => by simp [wipe]
  | v :: vs, σ, j => by
    unfold wipe
    rw [List.getElem?_set, wipe_at vs σ j, wipe_length]
    by_cases e : v = j
    · subst e
      rw [if_pos rfl, if_pos (List.mem_cons_self ..)]
      by_cases hl : v < σ.length
      · rw [if_pos hl]; simp [hl]
      · rw [if_neg hl]; simp [Nat.le_of_not_lt hl]
    · rw [if_neg e]
      by_cases hm : j ∈ vs
      · rw [if_pos hm, if_pos (List.mem_cons_of_mem _ hm)]
      · rw [if_neg hm, if_neg]
        intro h
        rcases List.mem_cons.mp h with h | h
        · exact e h.symm
        · exact hm h
theorem wipe_set {vs : List Nat} {σ : L2.St} {i : Nat} {v : Option L2.V} (hi : i ∈ vs) : wipe (σ.set i v) vs = wipe σ vs := by
  apply List.ext_getElem?
  intro j
  rw [wipe_at, wipe_at]
  by_cases hj : j ∈ vs
  · rw [if_pos hj, if_pos hj, List.getElem?_set]
    by_cases e : i = j
    · subst e
      rw [if_pos rfl]
      by_cases hl : i < σ.length
      · rw [if_pos hl]; simp [hl]
      · rw [if_neg hl]; simp [Nat.le_of_not_lt hl]
    · rw [if_neg e]
  · rw [if_neg hj, if_neg hj, List.getElem?_set, if_neg]
    intro e
    subst e
    exact hj hi
theorem wipe_wipe {vs : List Nat} {σ : L2.St} : wipe (wipe σ vs) vs = wipe σ vs := by
  apply List.ext_getElem?
  intro j
  rw [wipe_at]
  by_cases hj : j ∈ vs
  · rw [if_pos hj, wipe_at, if_pos hj]
    cases σ[j]? <;> rfl
  · rw [if_neg hj]
theorem wipe_putAll {vs : List Nat} : ∀ {is : List Nat} {ws : List L2.V} {σ : L2.St}, (∀ i ∈ is, i ∈ vs) → wipe (putAll is ws σ) vs = wipe σ vs
  | [], ws, σ, _ => by cases ws <;> rfl
  | i :: is, [], σ, _ => rfl
  | i :: is, w :: ws, σ, h => by
    unfold putAll
    rw [wipe_putAll (is := is) fun j hj => h j (List.mem_cons_of_mem _ hj), wipe_set (h i (List.mem_cons_self ..))]
theorem wipe_stOf {vs : List Nat} {v : L2.V} {ws : List L2.V} (h : ∀ i ∈ tgS t, i ∈ vs) : wipe (stOf t v ws σ) vs = wipe σ vs := by
  cases t with
  | nm i => exact wipe_set (h i (by simp [tgS]))
  | tp is => exact wipe_putAll h
  | tn i is =>
    cases ws with
    | nil => rfl
    | cons w ws =>
      show wipe (putAll is ws (σ.set i (some w))) vs = _
      rw [wipe_putAll fun j hj => h j (List.mem_cons_of_mem _ hj), wipe_set (h i (List.mem_cons_self ..))]
theorem RepE.wipes {ρ : Ev} (E : RepE K B φ S H ρ σ) (vs : List Nat) : RepE K B φ S H (PH.wipeE ρ vs) (wipe σ vs) := by
  have hl : ∀ vs : List Nat, (PH.wipeE ρ vs).length = ρ.length := fun vs => by
    induction vs with
    | nil => rfl
    | cons v vs ih => simp [PH.wipeE, ih]
  have hg : ∀ (vs : List Nat) (i : Nat) (d : Vl), (PH.wipeE ρ vs)[i]? = some (some d) → i ∉ vs ∧ ρ[i]? = some (some d) := fun vs => by
    induction vs with
    | nil => intro i d h; exact ⟨by simp, h⟩
    | cons v vs ih =>
      intro i d h
      unfold PH.wipeE at h
      rw [List.getElem?_set] at h
      by_cases e : v = i
      · rw [if_pos e] at h
        by_cases hv : v < (PH.wipeE ρ vs).length
        · rw [if_pos hv] at h; cases h
        · rw [if_neg hv] at h; cases h
      · rw [if_neg e] at h
        obtain ⟨h1, h2⟩ := ih i d h
        exact ⟨fun q => by
          rcases List.mem_cons.mp q with q | q
          · exact e q.symm
          · exact h1 q, h2⟩
  refine ⟨by rw [hl, wipe_length]; exact E.1, fun i d h => ?_⟩
  obtain ⟨h1, h2⟩ := hg vs i d h
  obtain ⟨v, h3, h4⟩ := E.2 i d h2
  exact ⟨v, by rw [wipe_at, if_neg h1]; exact h3, h4⟩
/-- block one more address -/
def Bpl (B : Addr → Prop) (a : Addr) : Addr → Prop := fun b => B b ∨ b = a
theorem GInv.plus {a : Addr} {o : HO} (I : GInv K B φ S H) (ha : H a = none) : GInv K (Bpl B a) φ S (upd H a o) where
  len := I.len
  ok := fun n c b h1 h2 => by
    have q := I.ok n c b h1 h2
    have k : Kp (Blk B φ S) H (Blk (Bpl B a) φ S) (upd H a o) := Ext.kpB (B1 := Bpl B a) (fun _ h => .inl h) (fun b hb h => by
      rcases h with h | h
      · exact h
      · exact absurd (by rw [h]; exact ha) hb) I (Ext.new I ha)
    have hb : c ≠ .dead → upd H a o b = H b := fun hc => upd_ne fun e => by
      subst e
      exact I.fresh ha ⟨n, c, h1, hc, h2⟩
    have hV : ∀ {d : Vl} {v : L2.V}, RepV K B φ S H d v → RepV K (Bpl B a) φ S (upd H a o) d v := fun {d v} r => by
      cases d with
      | dat d => exact Rep.kp k d v r
      | cel n => exact r
      | cels ns => obtain ⟨a', as, e1, e2, e3, e4⟩ := r; exact ⟨a', as, e1, (k.old _ _ e3 e2).2, (k.old _ _ e3 e2).1, e4⟩
      | scr ns => obtain ⟨a', e1, e2⟩ := r; exact ⟨a', e1, e2.keep fun o u h => by rw [upd_ne (ne_of_none h ha)]; exact h⟩
    have hF : ∀ {fs : List (Str × Vl)} {vs : List (Str × L2.V)}, RepF K B φ S H fs vs → RepF K (Bpl B a) φ S (upd H a o) fs vs := fun {fs} => by
      induction fs with
      | nil => intro vs r; exact r
      | cons f fs ih => rintro vs ⟨v, ws, e, h1, h2⟩; exact ⟨v, ws, e, hV h1, ih h2⟩
    cases c with
    | dead => trivial
    | lst ds => obtain ⟨vs, e, r⟩ := q; exact ⟨vs, by rw [hb (by simp)]; exact e, RepL.kp k ds vs r⟩
    | ins C fs => obtain ⟨dx, vs, e, r⟩ := q; exact ⟨dx, vs, by rw [hb (by simp)]; exact e, hF r⟩
    | dct fs => obtain ⟨vs, e, r⟩ := q; exact ⟨vs, by rw [hb (by simp)]; exact e, hF r⟩
    | lv xs => obtain ⟨vs, e, r⟩ := q; exact ⟨vs, by rw [hb (by simp)]; exact e, repVs_map hV r⟩
  inj := I.inj
  blk := fun b h q => by
    rcases q with q | q
    · exact I.blk b h q
    · subst q; exact I.fresh ha h
  btr := fun b h => by
    rcases h with h | h
    · obtain ⟨u, e⟩ := I.btr b h
      exact ⟨u, by rw [upd_ne (ne_of_none e ha)]; exact e⟩
    · subst h; exact ⟨o, upd_same⟩
theorem RepV.less {a : Addr} {d : Vl} {v : L2.V} (r : RepV K (Bpl B a) φ S H d v) : RepV K B φ S H d v := by
  have k : Kp (Blk (Bpl B a) φ S) H (Blk B φ S) H := ⟨fun b o h n => ⟨h, fun q => n (by
    rcases q with q | q
    · exact .inl (.inl q)
    · exact .inr q)⟩, fun _ _ h => h⟩
  cases d with
  | dat d => exact Rep.kp k d v r
  | cel n => exact r
  | cels ns => obtain ⟨a', as, e1, e2, e3, e4⟩ := r; exact ⟨a', as, e1, (k.old _ _ e3 e2).2, e3, e4⟩
  | scr ns => exact r
theorem RepL.less {a : Addr} {ds : List PH.D} {vs : List L2.V} (r : RepL K (Blk (Bpl B a) φ S) H ds vs) : RepL K (Blk B φ S) H ds vs :=
  RepL.kp ⟨fun b o h n => ⟨h, fun q => n (by
    rcases q with q | q
    · exact .inl (.inl q)
    · exact .inr q)⟩, fun _ _ h => h⟩ ds vs r
theorem RepF.less {a : Addr} : ∀ {fs : List (Str × Vl)} {vs : List (Str × L2.V)}, RepF K (Bpl B a) φ S H fs vs → RepF K B φ S H fs vs
  | [], vs, r => r
  | f :: fs, vs, ⟨v, ws, e, h1, h2⟩ => ⟨v, ws, e, h1.less, RepF.less h2⟩
theorem GInv.less {a : Addr} (I : GInv K (Bpl B a) φ S H) : GInv K B φ S H where
  len := I.len
  ok := fun n c b h1 h2 => by
    have q := I.ok n c b h1 h2
    cases c with
    | dead => trivial
    | lst ds => obtain ⟨vs, e, r⟩ := q; exact ⟨vs, e, r.less⟩
    | ins C fs => obtain ⟨dx, vs, e, r⟩ := q; exact ⟨dx, vs, e, r.less⟩
    | dct fs => obtain ⟨vs, e, r⟩ := q; exact ⟨vs, e, r.less⟩
    | lv xs => obtain ⟨vs, e, r⟩ := q; exact ⟨vs, e, repVs_map RepV.less r⟩
  inj := I.inj
  blk := fun b h q => I.blk b h (.inl q)
  btr := fun b h => I.btr b (.inl h)
/-- the blocked list is changed -/
theorem Kp.plusPut {a : Addr} {acc : List L2.V} {o : HO} (ha : H a = some (.lst acc)) : Kp (Blk (Bpl B a) φ S) H (Blk (Bpl B a) φ S) (upd H a o) :=
  ⟨fun b o' h n => ⟨by
    rw [upd_ne]
    · exact h
    · intro e; subst e; exact n (.inl (.inr rfl)), n⟩, fun b w h => by
    have ne : b ≠ a := fun e => by
      subst e
      rcases h with h | ⟨o', h⟩
      · rw [ha] at h; cases h
      · rw [ha] at h; cases h
    rcases h with h | ⟨o', h⟩
    · exact .inl (by rw [upd_ne ne]; exact h)
    · exact .inr ⟨o', by rw [upd_ne ne]; exact h⟩⟩
theorem RepV.plusPut {a : Addr} {acc : List L2.V} {o : HO} (ha : H a = some (.lst acc)) {d : Vl} {v : L2.V} (r : RepV K (Bpl B a) φ S H d v) : RepV K (Bpl B a) φ S (upd H a o) d v := by
  have k := Kp.plusPut (B := B) (φ := φ) (S := S) (o := o) ha
  cases d with
  | dat d => exact Rep.kp k d v r
  | cel n => exact r
  | cels ns => obtain ⟨a', as, e1, e2, e3, e4⟩ := r; exact ⟨a', as, e1, (k.old _ _ e3 e2).2, (k.old _ _ e3 e2).1, e4⟩
  | scr ns =>
    obtain ⟨a', e1, e2⟩ := r
    refine ⟨a', e1, e2.keep fun o u h => ?_⟩
    rw [upd_ne]
    · exact h
    · intro e; subst e; rw [ha] at h; cases h
theorem RepF.plusPut {a : Addr} {acc : List L2.V} {o : HO} (ha : H a = some (.lst acc)) : ∀ {fs : List (Str × Vl)} {vs : List (Str × L2.V)}, RepF K (Bpl B a) φ S H fs vs → RepF K (Bpl B a) φ S (upd H a o) fs vs
  | [], vs, r => r
  | f :: fs, vs, ⟨v, ws, e, h1, h2⟩ => ⟨v, ws, e, h1.plusPut ha, RepF.plusPut ha h2⟩
theorem GInv.plusPut {a : Addr} {acc : List L2.V} {o : HO} (I : GInv K (Bpl B a) φ S H) (ha : H a = some (.lst acc)) : GInv K (Bpl B a) φ S (upd H a o) where
  len := I.len
  ok := fun n c b h1 h2 => by
    have q := I.ok n c b h1 h2
    have k := Kp.plusPut (B := B) (φ := φ) (S := S) (o := o) ha
    have hb : c ≠ .dead → upd H a o b = H b := fun hc => upd_ne fun e => by
      subst e
      exact I.blk b ⟨n, c, h1, hc, h2⟩ (.inr rfl)
    cases c with
    | dead => trivial
    | lst ds => obtain ⟨vs, e, r⟩ := q; exact ⟨vs, by rw [hb (by simp)]; exact e, RepL.kp k ds vs r⟩
    | ins C fs => obtain ⟨dx, vs, e, r⟩ := q; exact ⟨dx, vs, by rw [hb (by simp)]; exact e, r.plusPut ha⟩
    | dct fs => obtain ⟨vs, e, r⟩ := q; exact ⟨vs, by rw [hb (by simp)]; exact e, r.plusPut ha⟩
    | lv xs => obtain ⟨vs, e, r⟩ := q; exact ⟨vs, by rw [hb (by simp)]; exact e, repVs_map (RepV.plusPut ha) r⟩
  inj := I.inj
  blk := I.blk
  btr := fun b h => by
    by_cases e : b = a
    · subst e; exact ⟨o, upd_same⟩
    · obtain ⟨u, h1⟩ := I.btr b h
      exact ⟨u, by rw [upd_ne e]; exact h1⟩
theorem RepV.plus {a : Addr} {o : HO} (I : GInv K B φ S H) (ha : H a = none) {d : Vl} {v : L2.V} (r : RepV K B φ S H d v) : RepV K (Bpl B a) φ S (upd H a o) d v := by
  have k : Kp (Blk B φ S) H (Blk (Bpl B a) φ S) (upd H a o) := Ext.kpB (B1 := Bpl B a) (fun _ h => .inl h) (fun b hb h => by
    rcases h with h | h
    · exact h
    · exact absurd (by rw [h]; exact ha) hb) I (Ext.new I ha)
  cases d with
  | dat d => exact Rep.kp k d v r
  | cel n => exact r
  | cels ns => obtain ⟨a', as, e1, e2, e3, e4⟩ := r; exact ⟨a', as, e1, (k.old _ _ e3 e2).2, (k.old _ _ e3 e2).1, e4⟩
  | scr ns => obtain ⟨a', e1, e2⟩ := r; exact ⟨a', e1, e2.keep fun o u h => by rw [upd_ne (ne_of_none h ha)]; exact h⟩
theorem RepE.plus {a : Addr} {o : HO} {ρ : Ev} (I : GInv K B φ S H) (ha : H a = none) (E : RepE K B φ S H ρ σ) : RepE K (Bpl B a) φ S (upd H a o) ρ σ :=
  ⟨E.1, fun i d h => by
    obtain ⟨v, h1, h2⟩ := E.2 i d h
    exact ⟨v, h1, h2.plus I ha⟩⟩
theorem RepE.plusPut {a : Addr} {acc : List L2.V} {o : HO} {ρ : Ev} (ha : H a = some (.lst acc)) (E : RepE K (Bpl B a) φ S H ρ σ) : RepE K (Bpl B a) φ S (upd H a o) ρ σ :=
  ⟨E.1, fun i d h => by
    obtain ⟨v, h1, h2⟩ := E.2 i d h
    exact ⟨v, h1, h2.plusPut ha⟩⟩
/-- the list of a comprehension, done: it is a tree or a cell -/
theorem Fin.done {cl : Bool} {a : Addr} {ds : List PH.D} {vs : List L2.V} {H0 : Hp} {φ0 : List Addr} {S0 : Sto} (f : Fin K W σ (RepV K) B φ0 S0 H0 (PH.newL cl ds S) Q) (I : GInv K (Bpl B a) φ S H) (X0 : Ext φ0 S0 H0 φ S H) (h0 : H0 a = none) (nB : ¬ B a) (ha : H a = some (.lst vs)) (l : RepL K (Blk (Bpl B a) φ S) H ds vs) : Q (.ref a) H := by
  have na : ¬ Alive φ S a := fun q => I.blk a q (.inr rfl)
  unfold PH.newL at f
  cases cl with
  | false =>
    refine f φ _ H I.less X0 ⟨a, vs, rfl, fun q => ?_, ha, l.less⟩
    rcases q with q | q
    · exact nB q
    · exact na q
  | true =>
    have X1 : Ext φ0 S0 H0 (φ ++ [a]) (S ++ [.lst ds]) H := {
      old := fun b o h n => by
        obtain ⟨h1, h2⟩ := X0.old b o h n
        refine ⟨h1, fun q => ?_⟩
        rcases (alive_app I.len).mp q with q | ⟨_, q⟩
        · exact h2 q
        · subst q; rw [h0] at h; cases h
      ids := fun n b h => by
        have := X0.ids n b h
        rw [List.getElem?_append_left (List.getElem?_eq_some_iff.mp this).1]; exact this }
    have hS : ∀ b, Blk B (φ ++ [a]) (S ++ [.lst ds]) b → Blk (Bpl B a) φ S b := fun b q => by
      rcases q with q | q
      · exact .inl (.inl q)
      · rcases (alive_app I.len).mp q with q | ⟨_, q⟩
        · exact .inr q
        · exact .inl (.inr q)
    have k : Kp (Blk (Bpl B a) φ S) H (Blk B (φ ++ [a]) (S ++ [.lst ds])) H := ⟨fun b o h n => ⟨h, fun q => n (hS b q)⟩, fun _ _ h => h⟩
    have hφ : ∀ (n : Nat) (b : Addr), φ[n]? = some b → (φ ++ [a])[n]? = some b := fun n b h => by rw [List.getElem?_append_left (List.getElem?_eq_some_iff.mp h).1]; exact h
    have hV : ∀ {d : Vl} {v : L2.V}, RepV K (Bpl B a) φ S H d v → RepV K B (φ ++ [a]) (S ++ [.lst ds]) H d v := fun {d v} r => by
      cases d with
      | dat d => exact Rep.kp k d v r
      | cel n => obtain ⟨b, e1, e2⟩ := r; exact ⟨b, e1, hφ _ _ e2⟩
      | cels ns => obtain ⟨a', as, e1, e2, e3, e4⟩ := r; exact ⟨a', as, e1, (k.old _ _ e3 e2).2, e3, map_ids hφ ns as e4⟩
      | scr ns => exact r
    have hF : ∀ {fs : List (Str × Vl)} {vs : List (Str × L2.V)}, RepF K (Bpl B a) φ S H fs vs → RepF K B (φ ++ [a]) (S ++ [.lst ds]) H fs vs := fun {fs} => by
      induction fs with
      | nil => intro vs r; exact r
      | cons f fs ih => rintro vs ⟨v, ws, e, h1, h2⟩; exact ⟨v, ws, e, hV h1, ih h2⟩
    refine f (φ ++ [a]) _ H ?_ X1 ⟨a, rfl, by rw [← I.len]; exact getElem_app⟩
    exact {
      len := by simp [I.len]
      ok := fun n c b h1 h2 => by
        by_cases hn : n < S.length
        · rw [List.getElem?_append_left hn] at h1
          rw [List.getElem?_append_left (by rw [I.len]; exact hn)] at h2
          have q := I.ok n c b h1 h2
          cases c with
          | dead => trivial
          | lst es => obtain ⟨us, e, r⟩ := q; exact ⟨us, e, RepL.kp k es us r⟩
          | ins C fs => obtain ⟨dx, us, e, r⟩ := q; exact ⟨dx, us, e, hF r⟩
          | dct fs => obtain ⟨us, e, r⟩ := q; exact ⟨us, e, hF r⟩
          | lv xs => obtain ⟨us, e, r⟩ := q; exact ⟨us, e, repVs_map hV r⟩
        · have e : n = S.length := by
            have := (List.getElem?_eq_some_iff.mp h1).1
            simp at this
            omega
          subst e
          rw [List.getElem?_append_right (Nat.le_refl _)] at h1
          rw [← I.len, List.getElem?_append_right (Nat.le_refl _)] at h2
          simp at h1 h2
          subst h1 h2
          exact ⟨vs, ha, RepL.kp k ds vs l⟩
      inj := fun n m c c' b h1 h2 h3 h4 h5 h6 => by
        have key : ∀ (n : Nat) (c : Cell), (S ++ [.lst ds])[n]? = some c → (n < S.length ∧ S[n]? = some c) ∨ n = S.length := fun n c h => by
          by_cases hn : n < S.length
          · rw [List.getElem?_append_left hn] at h; exact .inl ⟨hn, h⟩
          · have := (List.getElem?_eq_some_iff.mp h).1
            simp at this
            exact .inr (by omega)
        have kφ : ∀ n : Nat, n < S.length → (φ ++ [a])[n]? = φ[n]? := fun n hn => List.getElem?_append_left (by rw [I.len]; exact hn)
        have kp : (φ ++ [a])[S.length]? = some a := by rw [← I.len]; simp
        rcases key n c h1 with ⟨hn, e1⟩ | e1 <;> rcases key m c' h3 with ⟨hm, e2⟩ | e2
        · rw [kφ n hn] at h5
          rw [kφ m hm] at h6
          exact I.inj n m c c' b e1 h2 e2 h4 h5 h6
        · subst e2
          rw [kp] at h6
          cases h6
          rw [kφ n hn] at h5
          exact absurd ⟨n, c, e1, h2, h5⟩ na
        · subst e1
          rw [kp] at h5
          cases h5
          rw [kφ m hm] at h6
          exact absurd ⟨m, c', e2, h4, h6⟩ na
        · omega
      blk := fun b h => by
        rcases (alive_app I.len).mp h with h | ⟨_, h⟩
        · exact fun q => I.blk b h (.inl q)
        · subst h; exact nB
      btr := fun b h => I.btr b (.inl h) }
end
end PH

namespace PH
open PySem PySem.Spec PyProof.Rows L2
section
variable {X : Cx} {W : WX} {e a b c : Expr} {es rest : List Expr} {pos p q p2 : Pos} {x y z : Str} {K : PySem.W.Frag} {ma mb mc : FE} {mt mu : FT} {mas : FA} {mi mj : FI} {B : Addr → Prop} {φ φ' : List Addr} {S S' : Sto} {H H' : Hp} {σ : L2.St} {Q : VK} {m n : FS} {st : Stmt} {sts : List Stmt} {D : Ends} {t t1 : Tg}
def mYes : FT := fun _ S => .ok true S
theorem sim_yes {Q : Bool → Hp → Prop} (h : rdT K W mYes σ H Q) : tYes σ H Q := by
  obtain ⟨B, φ, S, ρ, I, E, f⟩ := h
  exact Fin.now (v := true) f I rfl
theorem PTs_imp {es : List Expr} {t u : TT} (h : PTs X es t) (i : ∀ σ H Q, u σ H Q → t σ H Q) : PTs X es u := ⟨fun pins s σ H Q I q => h.run pins s σ H Q I (i σ H Q q)⟩
theorem fts_nil : PTs X [] (rdT X.K W mYes) := PTs_imp pts_nil fun σ H Q h => sim_yes h
theorem fts_one {c : Expr} (h : PT X c (rdT X.K W mt)) : PTs X [c] (rdT X.K W mt) := pts_one h
/-- the items of a comprehension -/
def lcGo (t : Tg) (mt : FT) (me : FE) (ρ : Ev) : List PH.D → Sto → Res (List PH.D)
  | [], S => .ok [] S
  | d :: r, S => match tgF t (.dat d) ρ with
    | none => .stuck
    | some ρ1 => match mt ρ1 S with
      | .ok b S1 => if b = true then (match me ρ1 S1 with
          | .ok (.dat e) S2 => (match lcGo t mt me ρ r S2 with
            | .ok es S3 => .ok (e :: es) S3
            | _ => .stuck)
          | _ => .stuck) else lcGo t mt me ρ r S1
      | _ => .stuck
def mLc (cl : Bool) (mi : FI) (t : Tg) (mt : FT) (me : FE) (vs : List Nat) : FE := fun ρ S => (mi ρ S).bind fun ds S1 => if ds.length ≤ sizeLine then (match lcGo t mt me (wipeE ρ vs) ds S1 with
  | .ok es S2 => newL cl es S2
  | _ => .stuck) else .stuck
theorem lcGo_len {me : FE} : ∀ {ds : List PH.D} {S S' : Sto} {ρ : Ev} {es : List PH.D}, lcGo t mt me ρ ds S = .ok es S' → es.length ≤ ds.length
  | [], S, S', ρ, es, h => by unfold lcGo at h; cases h; simp
  | d :: r, S, S', ρ, es, h => by
    unfold lcGo at h
    split at h
    · cases h
    · split at h
      · split at h
        · split at h
          · split at h
            · rename_i q
              cases h
              have := lcGo_len q
              simp
              omega
            · cases h
          · cases h
        · have := lcGo_len h
          simp
          omega
      · cases h
theorem sim_lc {cl : Bool} {me : FE} {vs : List Nat} (ht : ∀ i ∈ tgS t, i ∈ vs) (h : rdE K W (mLc cl mi t mt me vs) σ H Q) : tLc (rdI K W mi) (tgR K t) (rdT K wNo mt) (rdE K wNo me) vs σ H Q := by
  refine rd_bind (k := fun ds ρ S1 => if ds.length ≤ sizeLine then (match lcGo t mt me (wipeE ρ vs) ds S1 with | .ok es S2 => newL cl es S2 | _ => .stuck) else .stuck) h fun B φ0 S0 ρ ds J H0 I0 E0 r f0 => ?_
  intro A hA
  split at f0
  case isFalse => exact f0.elim
  rename_i hsz
  cases q0 : lcGo t mt me (wipeE ρ vs) ds S0 with
  | stuck => rw [q0] at f0; exact f0.elim
  | err e S' => rw [q0] at f0; exact f0.elim
  | ok es0 Sz =>
  rw [q0] at f0
  have nB : ¬ B A := fun q => by obtain ⟨u, e⟩ := I0.btr A q; rw [hA] at e; cases e
  have IA : GInv K (Bpl B A) φ0 S0 (upd H0 A (.lst [])) := I0.plus hA
  have b2 : ∀ a, H0 a ≠ none → Bpl B A a → B a := fun b hb h => by
    rcases h with h | h
    · exact h
    · exact absurd (by rw [h]; exact hA) hb
  -- what is known at a turn
  refine ⟨fun i k H' => i ≤ ds.length ∧ k = ds.length - i ∧ ∃ φ1 S1 us acc rest, GInv K (Bpl B A) φ1 S1 H' ∧ Ext φ0 S0 H0 φ1 S1 H' ∧ RepE K (Bpl B A) φ1 S1 H' (wipeE ρ vs) (wipe σ vs) ∧ H' A = some (.lst us) ∧ us.length ≤ i ∧ RepL K (Blk (Bpl B A) φ1 S1) H' acc us ∧ lcGo t mt me (wipeE ρ vs) (ds.drop i) S1 = .ok rest Sz ∧ acc ++ rest = es0,
    ⟨_, Nat.zero_le _, rfl, φ0, S0, [], [], es0, IA, Ext.new I0 hA, (E0.wipes vs).plus I0 hA, upd_same, Nat.le_refl _, rfl, q0, rfl⟩, ?_⟩
  rintro i k H' ⟨hi, rfl, φ1, S1, us, acc, rs, I1, X1, E1, hA1, hul, l1, g1, ea⟩
  obtain ⟨hgo, hstop, hyld⟩ := r φ1 S1 H' (Bpl B A) I1 (X1.kpB (fun _ h => .inl h) b2 I0)
  by_cases hlt : i < ds.length
  · refine .inr ⟨hgo i hlt, fun H2 => i + 1 ≤ ds.length ∧ ∃ φ1 S1 us acc rest, GInv K (Bpl B A) φ1 S1 H2 ∧ Ext φ0 S0 H0 φ1 S1 H2 ∧ RepE K (Bpl B A) φ1 S1 H2 (wipeE ρ vs) (wipe σ vs) ∧ H2 A = some (.lst us) ∧ us.length ≤ i + 1 ∧ RepL K (Blk (Bpl B A) φ1 S1) H2 acc us ∧ lcGo t mt me (wipeE ρ vs) (ds.drop (i + 1)) S1 = .ok rest Sz ∧ acc ++ rest = es0, fun H2 ⟨h1, h2⟩ => ⟨ds.length - (i + 1), by omega, h1, rfl, h2⟩, fun x H2 y => ?_⟩
    have hd : ds[i]? = some ds[i] := by simp [hlt]
    obtain ⟨I2, X2, r2⟩ := hyld i x H2 ds[i] hd y
    rw [List.drop_eq_getElem_cons hlt] at g1
    unfold lcGo at g1
    split at g1
    case h_1 => cases g1
    rename_i ρ2 q2
    have hA2 := (X2.old A _ hA1 fun q => I1.blk A q (.inr rfl)).1
    refine tg_sim (E1.ext X2 I1) (d := .dat ds[i]) r2 q2 fun ws E3 => ⟨by rw [wipe_stOf ht, wipe_wipe], Bpl B A, φ1, S1, ρ2, I2, E3, ?_⟩
    split at g1
    case h_2 => cases g1
    rename_i b S3 q3
    rw [q3]
    intro φ3 b' H3 I3 X3 rb
    have rb : b' = b := rb
    subst rb
    have hA3 := (X3.old A _ hA2 fun q => I2.blk A q (.inr rfl)).1
    have Xa := X1.trans (X2.trans X3)
    cases b' with
    | false =>
      exact ⟨hlt, φ3, S3, us, acc, rs, I3, Xa, (E1.ext X2 I1).ext X3 I2, hA3, Nat.le_succ_of_le hul, X3.repL I2 (X2.repL I1 l1), g1, ea⟩
    | true =>
      rw [if_pos rfl]
      rw [if_pos rfl] at g1
      refine ⟨Bpl B A, φ3, S3, ρ2, I3, E3.ext X3 I2, ?_⟩
      split at g1
      case h_2 => cases g1
      rename_i e S4 q4
      rw [q4]
      intro φ4 v4 H4 I4 X4 r4
      have hA4 := (X4.old A _ hA3 fun q => I3.blk A q (.inr rfl)).1
      split at g1
      case h_2 => cases g1
      rename_i es S5 q5
      cases g1
      have l4 : RepL K (Blk (Bpl B A) φ4 S4) H4 (acc ++ [e]) (us ++ [v4]) := (X4.repL I3 (X3.repL I2 (X2.repL I1 l1))).snoc r4
      refine ⟨us, hA4, by omega, hlt, φ4, S4, us ++ [v4], acc ++ [e], es, I4.plusPut hA4, ?_, (((E1.ext X2 I1).ext X3 I2).ext X4 I3).plusPut hA4, upd_same, by simp; omega, RepL.kp (Kp.plusPut hA4) _ _ l4, q5, by rw [← ea]; simp⟩
      exact ⟨fun b o h nb => by
        obtain ⟨h1, h2⟩ := (Xa.trans X4).old b o h nb
        exact ⟨by rw [upd_ne (fun e => by subst e; rw [hA] at h; cases h)]; exact h1, h2⟩, (Xa.trans X4).ids⟩
  · have e : i = ds.length := by omega
    subst e
    rw [List.drop_length] at g1
    cases g1
    rw [List.append_nil] at ea
    subst ea
    exact .inl ⟨hstop, Fin.done f0 I1 X1 hA nB hA1 l1⟩
theorem f_lc {cl : Bool} {me : FE} {elt tg iter : Expr} {ifs : List Expr} {scope : Scope} {own : List (Str × Nat)} (hc : X.calm = true) (hN : X.N.Nodup) (hi : PI X tg iter (rdI X.K W mi)) (ok : BlkOk X.N X.env.scope scope own)
    (hg : ∀ (s : Shared) (H : Hp) (C : Addr) (cl : List (Str × Addr)) (fp : List Addr), PG (X.blk s H scope (compEnvC scope cl C X.env) fp) tg (tgR X.K t)) (ht : ∀ (s : Shared) (H : Hp) (C : Addr) (cl : List (Str × Addr)) (fp : List Addr), PTs (X.blk s H scope (compEnvC scope cl C X.env) fp) ifs (rdT X.K wNo mt))
    (he : ∀ (s : Shared) (H : Hp) (C : Addr) (cl : List (Str × Addr)) (fp : List Addr), PE (X.blk s H scope (compEnvC scope cl C X.env) fp) elt (rdE X.K wNo me)) (hs : ∀ x, foldedSetIterable iter X.env x = pure x := by intro _; rfl) (hv : ∀ i ∈ tgS t, i ∈ own.map (·.2) := by decide) :
    PE X (.ListComp elt [⟨tg, iter, ifs, 0⟩] scope pos) (rdE X.K W (mLc cl mi t mt me (own.map (·.2)))) := PE_imp (pe_lc hc hN hi ok hg ht he hs) fun σ H Q h => sim_lc hv h
theorem fs_setLc {i : Nat} {y : Str} {py : Pos} {cl : Bool} {me : FE} {elt tg iter : Expr} {ifs : List Expr} {scope : Scope} {own : List (Str × Nat)} {spos : Pos} (hc : X.calm = true) (hN : X.N.Nodup) (hy : X.N[i]? = some y) (hyl : X.env.scope.names.lookup y = some .local)
    (hsw : swapsWith (.ListComp elt [⟨tg, iter, ifs, 0⟩] scope pos) (some (.Name y py)) spos.line X.env = pure true) (hi : PI X tg iter (rdI X.K W mi)) (ok : BlkOk X.N X.env.scope scope own)
    (hg : ∀ (s : Shared) (H : Hp) (C : Addr) (cl : List (Str × Addr)) (fp : List Addr), PG (X.blk s H scope (compEnvC scope cl C X.env) fp) tg (tgR X.K t)) (ht : ∀ (s : Shared) (H : Hp) (C : Addr) (cl : List (Str × Addr)) (fp : List Addr), PTs (X.blk s H scope (compEnvC scope cl C X.env) fp) ifs (rdT X.K wNo mt))
    (he : ∀ (s : Shared) (H : Hp) (C : Addr) (cl : List (Str × Addr)) (fp : List Addr), PE (X.blk s H scope (compEnvC scope cl C X.env) fp) elt (rdE X.K wNo me)) (hs : ∀ x, foldedSetIterable iter X.env x = pure x := by intro _; rfl) (hv : ∀ i ∈ tgS t, i ∈ own.map (·.2) := by decide) :
    PS X (.Assign [.Name y py] (.ListComp elt [⟨tg, iter, ifs, 0⟩] scope pos) spos) (rdS X.K W (mAsg (mLc cl mi t mt me (own.map (·.2))) (.nm i))) := PS_imp (ps_setLc hc hN hy hyl hsw hi ok hg ht he hs) fun D σ H h => by
  obtain ⟨B, φ, S, ρ, I, E, f⟩ := h
  refine sim_lc hv (fins_bind I E f fun φ' S' d v H1 I1 X1 E1 r f1 => ?_)
  exact f1 φ' _ H1 I1 Ext.refl (E1.set r i)
end
end PH

namespace PH
open PySem PySem.Spec PyProof.Rows L2
section
variable {X : Cx} {W : WX} {e a b c o i : Expr} {es rest : List Expr} {pos p q p2 tpos apos cpos : Pos} {x y z : Str} {K : PySem.W.Frag} {ma mb mc mo mx : FE} {mt mt1 mu : FT} {mas : FA} {mi mj : FI} {B : Addr → Prop} {φ φ' : List Addr} {S S' : Sto} {H H' : Hp} {σ : L2.St} {Q : VK} {m n : FS} {st : Stmt} {sts : List Stmt} {D : Ends} {t t1 : Tg}
def fApp (x y : Vl) (S : Sto) : Res Vl := match x, y with
  | .cel n, .dat d => (match S[n]? with
    | some (.lst ds) => if ds.length < sizeLine then .ok (.dat .non) (S.set n (.lst (ds ++ [d]))) else .stuck
    | _ => .stuck)
  | _, _ => .stuck
theorem cell_put {n : Nat} {ds ds' : List PH.D} {v v' : L2.V} {d' : Vl} {vs vs' : List L2.V} {a : Addr} (I : GInv K B φ S H) (hn : S[n]? = some (.lst ds)) (ha : φ[n]? = some a) (l : RepL K (Blk B φ S) H ds' vs') (r : RepV K B φ S H d' v')
    (f : Fin K W σ (RepV K) B φ S H (.ok d' (S.set n (.lst ds'))) Q) : Q v' (upd H a (.lst vs')) := by
  have X1 := Ext.put (H := H) (o := .lst vs') (x := .lst ds') hn (by simp) ha (by simp)
  have I1 : GInv K B φ (S.set n (.lst ds')) (upd H a (.lst vs')) := I.put hn (by simp) ha (by simp) ⟨vs', upd_same, X1.repL I l⟩
  exact f φ v' _ I1 X1 (r.ext X1 I)
theorem mt_app : ∀ {x : L2.V} {y : L2.V} {d e : Vl}, GInv K B φ S H → RepV K B φ S H d x → RepV K B φ S H e y → Fin K W σ (RepV K) B φ S H (fApp d e S) Q → cAppend x [y] H Q := fun {x y d e} I r1 r2 f => by
  unfold fApp at f
  split at f
  · rename_i n d
    obtain ⟨a, rfl, h1⟩ := r1
    split at f
    · rename_i ds q
      obtain ⟨vs, h2, l⟩ := I.ok n _ a q h1
      split at f
      · rename_i hl
        exact ⟨vs, h2, by rw [l.len]; exact hl, cell_put (v := .non) (v' := .non) (d' := .dat .non) (vs := vs) I q h1 (l.snoc r2) rfl f⟩
      · exact f.elim
    · exact f.elim
  · exact f.elim
theorem app_ty {d e : Vl} {v : L2.V} (I : GInv K B φ S H) (r : RepV K B φ S H d v) (h : ∃ ds, seqL S d = some ds) : tyV K "list" v H := by
  obtain ⟨ds, q⟩ := h
  obtain ⟨a, vs, rfl, h1, l⟩ := seqL_ok I q r
  exact .inl ⟨rfl, vs, SqL.of h1⟩
def mApp (a b : FE) : FE := fun ρ S => (a ρ S).bind fun x S1 => match seqL S1 x with
  | some _ => (b ρ S1).bind fun y S2 => fApp x y S2
  | none => .stuck
theorem f_app (ha : PE X a (rdE X.K W ma)) (hb : PE X b (rdE X.K W mb)) (hs : starEach [b] X.env = (false, eval b X.env) :: starEach [] X.env := by rfl) (hbase : attributeBase a "append" X.env (eval a X.env) = eval a X.env := by rfl) (hline : (apos.endLine == cpos.line) = true := by rfl)
    (hfew : ((backTo cpos (starEach [b] X.env)).all (fun x => !x.1) && (backToKw cpos (keywordEach [] X.env)).all (fun x => x.1.isSome)
      && decide ([b].length + ([] : List Keyword).length + (if ([] : List Keyword).isEmpty then 0 else 1) < 30)) = true := by rfl)
    (hpl : (backTo cpos (starEach ([] : List Expr) X.env)).any (·.1) = false := by rfl) : PE X (.Call (.Attribute a "append" apos) [b] [] cpos) (rdE X.K W (mApp ma mb)) :=
  PE_imp (pe_bm PySem.F.plainAttrs_list PySem.F.slot_list_append PySem.F.type_list_append mt_appendC ha (pa_cons hb pa_nil hs) hbase hfew hline hs hpl) fun σ H Q h =>
    rd_bind (k := fun x ρ S1 => match seqL S1 x with | some _ => (mb ρ S1).bind fun y S2 => fApp x y S2 | none => .stuck) h fun B φ S ρ d v H1 I E r f => by
      split at f
      · rename_i ds q
        exact ⟨app_ty (e := d) I r ⟨ds, q⟩, fin_bind I E f fun φ' S' d2 v2 H2 I2 X2 E2 r2 f2 => mt_app I2 (r.ext X2 I) r2 f2⟩
      · exact f.elim
def fPop (x : Vl) (S : Sto) : Res Vl := match x with
  | .cel n => (match S[n]? with
    | some (.lst ds) => (match ds[ds.length - 1]? with
      | some d => .ok (.dat d) (S.set n (.lst ds.dropLast))
      | none => .stuck)
    | _ => .stuck)
  | _ => .stuck
theorem RepL.dropLast {Bk : Addr → Prop} {ds : List PH.D} {vs : List L2.V} (h : RepL K Bk H ds vs) : RepL K Bk H ds.dropLast vs.dropLast := by
  rw [List.dropLast_eq_take, List.dropLast_eq_take, h.len]
  exact h.take _
theorem f_pop (ha : PE X a (rdE X.K W ma)) (hbase : attributeBase a "pop" X.env (eval a X.env) = eval a X.env := by rfl) (hline : (apos.endLine == cpos.line) = true := by rfl) : PE X (.Call (.Attribute a "pop" apos) [] [] cpos) (rdE X.K W (m1 fPop ma)) :=
  PE_imp (pe_bm0 PySem.F.plainAttrs_list PySem.F.slot_list_pop PySem.F.type_list_pop mt_popC ha hbase hline) fun σ H Q h =>
    rd_bind (k := fun x ρ S1 => fPop x S1) h fun B φ S ρ d v H1 I E r f => by
      unfold fPop at f
      split at f
      · rename_i n
        obtain ⟨a, rfl, h1⟩ := r
        split at f
        · rename_i ds q
          obtain ⟨vs, h2, l⟩ := I.ok n _ a q h1
          split at f
          · rename_i d qd
            obtain ⟨v', h3, h4⟩ := l.get qd
            exact ⟨.inl ⟨rfl, vs, SqL.of h2⟩, vs, v', h2, by rw [l.len]; exact h3, cell_put (v := .non) (d' := .dat d) (vs := vs) I q h1 l.dropLast h4 f⟩
          · exact f.elim
        · exact f.elim
      · exact f.elim
/-- xs[k] = v -/
def setC (x : Vl) (k : Int) (d : PH.D) (S : Sto) : Option Sto := match x with
  | .cel n => (match S[n]? with
    | some (.lst ds) => if 0 ≤ k ∧ k.toNat < ds.length then some (S.set n (.lst (ds.set k.toNat d))) else none
    | _ => none)
  | _ => none
theorem setC_ok {x : Vl} {k : Int} {d : PH.D} {v u : L2.V} {Qh : Hp → Prop} (I : GInv K B φ S H) (r : RepV K B φ S H x v) (rd' : Rep K (Blk B φ S) H d u) (h : setC x k d S = some S') (q : ∀ H', GInv K B φ S' H' → Ext φ S H φ S' H' → Qh H') : cSetL v (.int k) u H Qh := by
  unfold setC at h
  split at h
  · rename_i n
    obtain ⟨a, rfl, h1⟩ := r
    split at h
    · rename_i ds q1
      split at h
      · rename_i hk
        cases h
        obtain ⟨vs, h2, l⟩ := I.ok n _ a q1 h1
        have X1 := Ext.put (H := H) (o := .lst (vs.set k.toNat u)) (x := .lst (ds.set k.toNat d)) q1 (by simp) h1 (by simp)
        exact ⟨vs, h2, hk.1, by rw [l.len]; exact hk.2, q _ (I.put q1 (by simp) h1 (by simp) ⟨_, upd_same, X1.repL I (l.set rd' _)⟩) X1⟩
      · cases h
    · cases h
  · cases h
def mSetI (a o i : FE) : FS := fun ρ S => (a ρ S).toS ρ fun v S1 => (o ρ S1).toS ρ fun x S2 => (i ρ S2).toS ρ fun k S3 => match v, k with
  | .dat d, .dat (.int k) => (match setC x k d S3 with
    | some S4 => .next ρ S4
    | none => .stuck)
  | _, _ => .stuck
theorem fs_setI (ha : PE X a (rdE X.K W ma)) (ho : PE X o (rdE X.K W mo)) (hi : PE X i (rdE X.K W mx)) (hs : swapsWithSole [.Subscript o i tpos] a pos.line X.env = pure false := by rfl) (hw : swappedStores [.Subscript o i tpos] a X.env = pure none := by rfl)
    (h1 : (assignEach [.Subscript o i tpos] X.env).map (·.2) = [assign (.Subscript o i tpos) X.env] := by rfl)
    (hz : ∀ v, assign (.Subscript o i tpos) X.env v = (do
      let ov ← holding [v] (eval o X.env)
      let iv ← holding [v, ov] (eval i X.env)
      standAt tpos
      holding [v, ov, iv] (setItem ov iv v)
      release [v, ov, iv] []) := by intro _; rfl) : PS X (.Assign [.Subscript o i tpos] a pos) (rdS X.K W (mSetI ma mo mx)) := PS_imp (ps_asg ha (pg_sub ho hi set_listC hz) hs hw h1) fun D σ H h => by
  obtain ⟨B, φ, S, ρ, I, E, f⟩ := h
  refine fins_bind I E f fun φ1 S1 d1 v1 H1 I1 X1 E1 r1 f1 => fins_bind I1 E1 f1 fun φ2 S2 d2 v2 H2 I2 X2 E2 r2 f2 => fins_bind I2 E2 f2 fun φ3 S3 d3 v3 H3 I3 X3 E3 r3 f3 => ?_
  split at f3
  · rename_i d k
    cases r3
    split at f3
    · rename_i S4 q
      exact setC_ok I3 (r2.ext X3 I2) ((r1.ext X2 I1).ext X3 I2) q fun H' I' X' => f3 φ3 σ H' I' X' (E3.ext X' I3)
    · exact f3.elim
  · exact f3.elim
def getC (x : Vl) (k : Int) (S : Sto) : Option PH.D := match x with
  | .cel n => (match S[n]? with
    | some (.lst ds) => if 0 ≤ k then ds[k.toNat]? else none
    | _ => none)
  | _ => none
theorem getC_ok {x : Vl} {k : Int} {d : PH.D} {v : L2.V} {Q' : VK} (I : GInv K B φ S H) (r : RepV K B φ S H x v) (h : getC x k S = some d) (q : ∀ u, Rep K (Blk B φ S) H d u → Q' u H) : cGetL v (.int k) H Q' := by
  unfold getC at h
  split at h
  · rename_i n
    obtain ⟨a, rfl, h1⟩ := r
    split at h
    · rename_i ds q1
      split at h
      · rename_i hk
        obtain ⟨vs, h2, l⟩ := I.ok n _ a q1 h1
        obtain ⟨u, h3, h4⟩ := l.get h
        exact ⟨vs, u, h2, hk, h3, q u h4⟩
      · cases h
    · cases h
  · cases h
/-- xs[k] op= e, ints -/
def mAugI (g : Int → Int → Int) (o i e : FE) : FS := fun ρ S => (o ρ S).toS ρ fun x S1 => (i ρ S1).toS ρ fun k S2 => match k with
  | .dat (.int k) => (match getC x k S2 with
    | some (.int u) => (e ρ S2).toS ρ fun w S3 => (match w with
      | .dat (.int w) => (match setC x k (.int (g u w)) S3 with
        | some S4 => .next ρ S4
        | none => .stuck)
      | _ => .stuck)
    | _ => .stuck)
  | _ => .stuck
theorem sim_augI {g : Int → Int → Int} {r : R2} {me : FE} (hr : ∀ i j H Q, Q (.int (g i j)) H → r (.int i) (.int j) H Q) (h : rdS K W (mAugI g mo mx me) D σ H) : tAugS (rdE K W mo) (rdE K W mx) (rdE K W me) cGetL (cIp r) cSetL D σ H := by
  obtain ⟨B, φ, S, ρ, I, E, f⟩ := h
  refine fins_bind I E f fun φ1 S1 d1 v1 H1 I1 X1 E1 r1 f1 => fins_bind I1 E1 f1 fun φ2 S2 d2 v2 H2 I2 X2 E2 r2 f2 => ?_
  split at f2
  · rename_i k
    cases r2
    split at f2
    · rename_i u q
      refine getC_ok I2 (r1.ext X2 I1) q fun u' ru => ?_
      cases ru
      refine fins_bind I2 E2 f2 fun φ3 S3 d3 v3 H3 I3 X3 E3 r3 f3 => ?_
      split at f3
      · rename_i w
        cases r3
        split at f3
        · rename_i S4 q4
          refine hr _ _ _ _ ?_
          exact setC_ok I3 ((r1.ext X2 I1).ext X3 I2) (d := .int (g u w)) rfl q4 fun H' I' X' => f3 φ3 σ H' I' X' (E3.ext X' I3)
        · exact f3.elim
      · exact f3.elim
    · exact f2.elim
  · exact f2.elim
theorem fs_augIadd {me : FE} (ho : PE X o (rdE X.K W mo)) (hi : PE X i (rdE X.K W mx)) (he : PE X e (rdE X.K W me)) (ha : ∀ ov iv new, augStore i ov iv new = (do holding [new, ov, iv] (setItem ov iv new); release [new, ov, iv] []; pure .next) := by intros; rfl) : PS X (.AugAssign (.Subscript o i tpos) .Add e pos) (rdS X.K W (mAugI (fun x y => x + y) mo mx me)) :=
  PS_imp (s_augS ho hi he ip_addC ha) fun D σ H h => sim_augI (fun _ _ _ _ q => q) h
def mPar (i j : Nat) (a b : FE) : FS := fun ρ S => (a ρ S).toS ρ fun x S1 => (b ρ S1).toS ρ fun y S2 => .next ((ρ.set i (some x)).set j (some y)) S2
end
end PH

namespace PH
open PySem PySem.Spec PyProof.Rows L2
abbrev FD := List Vl → Sto → Res Vl
def spF (K : PySem.W.Frag) (m : FD) : Sp := fun vs H Q E => ∃ B φ S ds, GInv K B φ S H ∧ RepVs K B φ S H ds vs ∧ Fin K (fun c x _ H => E c x H) [] (RepV K) B φ S H (m ds S) Q
section
variable {X : Cx} {W : WX} {e a b c o i : Expr} {es rest : List Expr} {pos p q p2 tpos apos cpos : Pos} {x y z : Str} {K : PySem.W.Frag} {ma mb mc mo mx : FE} {mt mt1 mu : FT} {mas : FA} {mi mj : FI} {B : Addr → Prop} {φ φ' : List Addr} {S S' : Sto} {H H' : Hp} {σ : L2.St} {Q : VK} {m n : FS} {st : Stmt} {sts : List Stmt} {D : Ends} {t t1 : Tg} {ps : List Str} {md : FD} {j k : Nat}
theorem Fin.toE {r : Res Vl} (f : Fin K W σ (RepV K) B φ S H r Q) : Fin K (fun c x _ H => WE W σ c x H) [] (RepV K) B φ S H r Q := by
  cases r with
  | ok d S' => exact f
  | err e S' => exact f
  | stuck => exact f
def mCall (md : FD) (as : FA) : FE := fun ρ S => (as ρ S).bind md
theorem f_call (F : OkX X.prog X.w X.K X.mg X.base j x ps (spF X.K md)) (hr : Room k X.A) (tk : Takes X W) (ha : PA X (e :: es) (rdA X.K W mas)) (hjk : j ≤ k := by decide) (hg : Gl X x := by rfl) (hdb : (x == ("__debug__" : Str)) = false := by decide)
    (he : starEach (e :: es) X.env = (false, eval e X.env) :: starEach es X.env := by rfl) (hpl : (backTo pos (starEach es X.env)).any (·.1) = false := by rfl) : PE X (.Call (.Name x p) (e :: es) [] pos) (rdE X.K W (mCall md mas)) := by
  obtain ⟨fd, F, hm, hk, hb⟩ := F
  refine PE_imp (pe_callS (E := WE W) F (hr.mono hjk) hg hm hk hb (fun σ => passAt tk σ) ha hdb he hpl) fun σ H Q h => ?_
  exact rd_bind (k := fun ds _ S => md ds S) h fun B φ S ρ d v H1 I E r f => ⟨B, φ, S, d, I, r, f.toE⟩
def Vl.below (n : Nat) : Vl → Bool
  | .dat _ => true
  | .cel m => decide (m < n)
  | .cels ms => ms.all fun m => decide (m < n)
  | .scr _ => true
def Cell.below (n : Nat) : Cell → Bool
  | .dead => true
  | .lst _ => true
  | .ins _ fs => fs.all fun f => f.2.below n
  | .dct fs => fs.all fun f => f.2.below n
  | .lv xs => xs.all fun x => x.below n
/-- what is made within goes -/
def trunc (n : Nat) (r : Res Vl) : Res Vl := match r with
  | .ok d S => if d.below n && ((S.take n).all fun c => c.below n) then .ok d (S.take n) else .stuck
  | .err e S => if (S.take n).all fun c => c.below n then .err e (S.take n) else .stuck
  | .stuck => .stuck
def ofOut : Out → Res Vl
  | .ret d S => .ok d S
  | .next _ S => .ok (.dat .non) S
  | .err e _ S => .err e S
  | _ => .stuck
def envOf (n : Nat) (ds : List Vl) : Ev := ds.map some ++ List.replicate (n - ds.length) none
/-- the def of n names, np of them parameters -/
def run (n np : Nat) (mb : FS) : FD := fun ds S => if ds.length = np then ofOut (mb (envOf n ds) S) else .stuck
/-- the same; its own cells go -/
def runT (n np : Nat) (mb : FS) : FD := fun ds S => if ds.length = np then trunc S.length (ofOut (mb (envOf n ds) S)) else .stuck
theorem take_get {α : Type} {n m : Nat} {l : List α} (h : m < n) : (l.take n)[m]? = l[m]? := by
  rw [List.getElem?_take, if_pos h]
theorem alive_take {n : Nat} {a : Addr} (h : Alive (φ.take n) (S.take n) a) : Alive φ S a := by
  obtain ⟨m, c, h1, h2, h3⟩ := h
  rw [List.getElem?_take] at h1 h3
  by_cases hm : m < n
  · rw [if_pos hm] at h1 h3; exact ⟨m, c, h1, h2, h3⟩
  · rw [if_neg hm] at h1; cases h1
theorem RepV.take {n : Nat} {d : Vl} {v : L2.V} (r : RepV K B φ S H d v) (h : d.below n = true) : RepV K B (φ.take n) (S.take n) H d v := by
  have k : Kp (Blk B φ S) H (Blk B (φ.take n) (S.take n)) H := ⟨fun b o h nb => ⟨h, fun q => nb (by
    rcases q with q | q
    · exact .inl q
    · exact .inr (alive_take q))⟩, fun _ _ h => h⟩
  cases d with
  | dat d => exact Rep.kp k d v r
  | cel m =>
    obtain ⟨a, e, h1⟩ := r
    exact ⟨a, e, by rw [take_get (of_decide_eq_true h)]; exact h1⟩
  | cels ms =>
    obtain ⟨a, as, e1, e2, e3, e4⟩ := r
    refine ⟨a, as, e1, (k.old _ _ e3 e2).2, e3, ?_⟩
    rw [← e4]
    apply List.map_congr_left
    intro m hm
    exact take_get (of_decide_eq_true (List.all_eq_true.mp h m hm))
  | scr ns => exact r
theorem RepF.take {n : Nat} : ∀ {fs : List (Str × Vl)} {vs : List (Str × L2.V)}, RepF K B φ S H fs vs → (fs.all fun f => f.2.below n) = true → RepF K B (φ.take n) (S.take n) H fs vs
  | [], vs, r, _ => r
  | f :: fs, vs, ⟨v, ws, e, h1, h2⟩, h => by
    simp only [List.all_cons, Bool.and_eq_true] at h
    exact ⟨v, ws, e, h1.take h.1, RepF.take h2 h.2⟩
theorem RepVs.take {n : Nat} : ∀ {fs : List Vl} {vs : List L2.V}, RepVs K B φ S H fs vs → (fs.all fun f => f.below n) = true → RepVs K B (φ.take n) (S.take n) H fs vs
  | [], vs, r, _ => r
  | f :: fs, vs, ⟨v, ws, e, h1, h2⟩, h => by
    simp only [List.all_cons, Bool.and_eq_true] at h
    exact ⟨v, ws, e, h1.take h.1, RepVs.take h2 h.2⟩
theorem GInv.take {n : Nat} (I : GInv K B φ S H) (h : ((S.take n).all fun c => c.below n) = true) : GInv K B (φ.take n) (S.take n) H where
  len := by rw [List.length_take, List.length_take, I.len]
  ok := fun m c a h1 h2 => by
    have hc := List.all_eq_true.mp h c (List.mem_of_getElem? h1)
    rw [List.getElem?_take] at h1 h2
    by_cases hm : m < n
    · rw [if_pos hm] at h1 h2
      have q := I.ok m c a h1 h2
      have k : Kp (Blk B φ S) H (Blk B (φ.take n) (S.take n)) H := ⟨fun b o h nb => ⟨h, fun q => nb (by
        rcases q with q | q
        · exact .inl q
        · exact .inr (alive_take q))⟩, fun _ _ h => h⟩
      cases c with
      | dead => trivial
      | lst ds => obtain ⟨vs, e, r⟩ := q; exact ⟨vs, e, RepL.kp k ds vs r⟩
      | ins C fs => obtain ⟨dx, vs, e, r⟩ := q; exact ⟨dx, vs, e, r.take hc⟩
      | dct fs => obtain ⟨vs, e, r⟩ := q; exact ⟨vs, e, r.take hc⟩
      | lv xs => obtain ⟨vs, e, r⟩ := q; exact ⟨vs, e, r.take hc⟩
    · rw [if_neg hm] at h1; cases h1
  inj := fun i j d d' b h1 h2 h3 h4 h5 h6 => by
    rw [List.getElem?_take] at h1 h3 h5 h6
    by_cases hi : i < n
    · by_cases hj : j < n
      · rw [if_pos hi] at h1 h5
        rw [if_pos hj] at h3 h6
        exact I.inj i j d d' b h1 h2 h3 h4 h5 h6
      · rw [if_neg hj] at h3; cases h3
    · rw [if_neg hi] at h1; cases h1
  blk := fun b h => I.blk b (alive_take h)
  btr := I.btr
theorem Ext.take {n : Nat} {φ0 : List Addr} {S0 : Sto} {H0 : Hp} (x : Ext φ0 S0 H0 φ S H) (hn : φ0.length ≤ n) : Ext φ0 S0 H0 (φ.take n) (S.take n) H :=
  ⟨fun b o h nb => ⟨(x.old b o h nb).1, fun q => (x.old b o h nb).2 (alive_take q)⟩, fun m a h => by
    have := (List.getElem?_eq_some_iff.mp h).1
    rw [take_get (by omega)]
    exact x.ids m a h⟩
theorem Fin.trunc {r : Res Vl} {n : Nat} (f : Fin K W σ (RepV K) B φ S H (PH.trunc n r) Q) (I : GInv K B φ S H) (hn : n = S.length) : Fin K W σ (RepV K) B φ S H r Q := by
  have hl : φ.length ≤ n := by rw [hn, I.len]; exact Nat.le_refl _
  cases r with
  | ok d S' =>
    unfold PH.trunc at f
    dsimp only at f
    split at f
    · rename_i h
      obtain ⟨h1, h2⟩ := Bool.and_eq_true_iff.mp h
      exact fun φ' v H' I' X' r' => f (φ'.take n) v H' (I'.take h2) (X'.take hl) (r'.take h1)
    · exact f.elim
  | err e S' =>
    unfold PH.trunc at f
    dsimp only at f
    split at f
    · rename_i h
      refine fun φ' c x H' I' X' r' => f (φ'.take n) c x H' (I'.take h) (X'.take hl) ⟨r'.1, ?_⟩
      rcases r'.2 with h0 | ⟨d, vs, e1, e2, e3⟩
      · exact .inl h0
      · refine .inr ⟨d, vs, e1, e2, RepL.kp ⟨fun b o h nb => ⟨h, fun q => nb (by
          rcases q with q | q
          · exact .inl q
          · exact .inr (alive_take q))⟩, fun _ _ h => h⟩ _ _ e3⟩
    · exact f.elim
  | stuck => exact f
theorem envOf_ok {ds : List Vl} {vs : List L2.V} {N : List Str} (r : RepVs K B φ S H ds vs) : RepE K B φ S H (envOf N.length ds) (start N vs) := by
  have hl := r.len
  have hg : ∀ {ds : List Vl} {vs : List L2.V}, RepVs K B φ S H ds vs → ∀ (i : Nat) (d : Vl), ds[i]? = some d → ∃ v, vs[i]? = some v ∧ RepV K B φ S H d v := fun {ds} => by
    induction ds with
    | nil => intro vs r i d h; simp at h
    | cons d ds ih =>
      rintro vs ⟨v, ws, e, h1, h2⟩ i d' h
      subst e
      cases i with
      | zero => simp at h; subst h; exact ⟨v, rfl, h1⟩
      | succ i =>
        obtain ⟨v', h3, h4⟩ := ih h2 i d' (by simpa using h)
        exact ⟨v', by simpa using h3, h4⟩
  unfold envOf L2.start
  refine ⟨by simp [hl], fun i d h => ?_⟩
  by_cases hi : i < ds.length
  · rw [List.getElem?_append_left (by simpa using hi)] at h
    rw [List.getElem?_append_left (by simp [hl, hi])]
    rw [List.getElem?_map] at h ⊢
    cases q : ds[i]? with
    | none => rw [q] at h; cases h
    | some d' =>
      rw [q] at h
      have : d' = d := by simpa using h
      subst this
      obtain ⟨v, h1, h2⟩ := hg r i d' q
      exact ⟨v, by rw [h1]; rfl, h2⟩
  · rw [List.getElem?_append_right (by simpa using Nat.le_of_not_lt hi)] at h
    rw [List.getElem?_replicate] at h
    split at h <;> cases h
theorem fin_body {mb : FS} {E : XK} {ds : List Vl} {vs : List L2.V} {N : List Str} (I : GInv K B φ S H) (r : RepVs K B φ S H ds vs) (f : Fin K (fun c x _ H => E c x H) [] (RepV K) B φ S H (ofOut (mb (envOf N.length ds) S)) Q) : rdS K (fun c x _ H => E c x H) mb { nx := fun _ H' => Q .non H', rt := Q } (start N vs) H := by
  refine ⟨B, φ, S, envOf N.length ds, I, envOf_ok r, ?_⟩
  unfold ofOut at f
  cases q : mb (envOf N.length ds) S with
  | next ρ' S' => rw [q] at f; exact fun φ' σ' H' I' X' _ => f φ' _ H' I' X' rfl
  | ret d S' => rw [q] at f; exact f
  | brk ρ' S' => rw [q] at f; exact f.elim
  | cnt ρ' S' => rw [q] at f; exact f.elim
  | err e ρ' S' => rw [q] at f; exact fun φ' σ' c x H' I' X' _ r' => f φ' c x H' I' X' r'
  | stuck => rw [q] at f; exact f
end
section
variable {P : Program} {w : World} {K : PySem.W.Frag} {mg : Str → Option Value} {base : Heap}
/-- a def's function runs so: with its cells kept (T = false) or dropped -/
structure Runs (md : FD) (n np : Nat) (mb : FS) : Prop where
  ok : ∀ ds S, ds.length = np → md ds S = ofOut (mb (envOf n ds) S) ∨ md ds S = trunc S.length (ofOut (mb (envOf n ds) S))
  no : ∀ ds S, ds.length ≠ np → md ds S = .stuck
theorem Runs.plain {n np : Nat} {mb : FS} : Runs (run n np mb) n np mb := ⟨fun ds S h => .inl (by unfold run; rw [if_pos h]), fun ds S h => by unfold run; rw [if_neg h]⟩
theorem Runs.cut {n np : Nat} {mb : FS} : Runs (runT n np mb) n np mb := ⟨fun ds S h => .inr (by unfold runT; rw [if_pos h]), fun ds S h => by unfold runT; rw [if_neg h]⟩
theorem spF_len {md : FD} {n np : Nat} {mb : FS} (R : Runs md n np mb) : ∀ vs H Q E, spF K md vs H Q E → vs.length = np := fun vs H Q E ⟨B, φ, S, ds, I, r, f⟩ => by
  rw [r.len]
  by_cases h : ds.length = np
  · exact h
  · rw [R.no ds S h] at f; exact f.elim
theorem spF_body {md : FD} {np : Nat} {mb : FS} {N : List Str} (R : Runs md N.length np mb) {vs : List L2.V} {H : Hp} {Q : VK} {E : XK} (h : spF K md vs H Q E) : rdS K (fun c x _ H => E c x H) mb { nx := fun _ H' => Q .non H', rt := Q } (start N vs) H := by
  obtain ⟨B, φ, S, ds, I, r, f⟩ := h
  by_cases hl : ds.length = np
  · rcases R.ok ds S hl with e | e
    · rw [e] at f; exact fin_body I r f
    · rw [e] at f; exact fin_body I r (Fin.trunc f I rfl)
  · rw [R.no ds S hl] at f; exact f.elim
theorem okF {x : Str} {st : Stmt} {N ps : List Str} {k : Nat} {md : FD} {mb : FS} (F : FnP K x st) (g : mg x = some (.ref (He.ga K x))) (S : FnScope N ps (defScope st)) (R : Runs md N.length ps.length mb)
    (bnd : ∀ (kV doc pm : Value) (an : Option Addr) (cdv ct : Value) (us : List Value), us.length = ps.length → bindArgs (PySem.W.fnOf x x (defArgs st) (defBody st) (defScope st) .none kV doc pm an cdv ct) ⟨us, []⟩ = pure (ps.zip us))
    (hbody : ∀ (cdv : Value) (A : Around) (outer : List Env) (s : Shared) (H : Hp) (E : XK), Room k (A.deeper (envOfC x (defScope st) s.heap.objs.size (He.ga K x) cdv)) →
      PSs (cxOf (L2.CX P w) P w K mg base N x (defScope st) (He.ga K x) cdv A outer s H E) (defBody st) (rdS K (fun c x _ H => E c x H) mb)) : OkX P w K mg base (k + 1) x ps (spF K md) :=
  okX_of F g S (spF_len R) bnd fun cdv A outer s H vs Q E hr h => ⟨_, hbody cdv A outer s H E hr, spF_body R h⟩
theorem okFM {C m q : Str} {st : Stmt} {N ps : List Str} {k : Nat} {md : FD} {mb : FS} (F : FnM K C m q st) (g : Meth K (He.ga K C) m (He.ma K (He.ga K C) m)) (S : FnScope N ps (defScope st)) (R : Runs md N.length ps.length mb)
    (bnd : ∀ (kV doc pm : Value) (an : Option Addr) (cdv ct : Value) (us : List Value), us.length = ps.length → bindArgs (PySem.W.fnOf m q (defArgs st) (defBody st) (defScope st) .none kV doc pm an cdv ct) ⟨us, []⟩ = pure (ps.zip us))
    (hbody : ∀ (cdv : Value) (A : Around) (outer : List Env) (s : Shared) (H : Hp) (E : XK), Room k (A.deeper (envOfC q (defScope st) s.heap.objs.size (He.ma K (He.ga K C) m) cdv)) →
      PSs (cxOf (L2.CX P w) P w K mg base N q (defScope st) (He.ma K (He.ga K C) m) cdv A outer s H E) (defBody st) (rdS K (fun c x _ H => E c x H) mb)) : OkMX P w K mg base (k + 1) C m ps (spF K md) :=
  okMX_of F g S (spF_len R) bnd fun cdv A outer s H vs Q E hr h => ⟨_, hbody cdv A outer s H E hr, spF_body R h⟩
end
end PH

namespace PH
open PySem PySem.Spec PyProof.Rows L2
section
variable {X : Cx} {W : WX} {e a b c o i : Expr} {es rest : List Expr} {pos p q p2 tpos apos cpos pos' : Pos} {x y z f C mn : Str} {K : PySem.W.Frag} {ma mb mc mo mx : FE} {mt mt1 mu : FT} {mas : FA} {B : Addr → Prop} {φ φ' : List Addr} {S S' : Sto} {H H' : Hp} {σ : L2.St} {Q : VK} {m n : FS} {D : Ends} {ps : List Str} {md : FD} {j k : Nat}
def isIns (S : Sto) (C mn : Str) : Vl → Bool
  | .cel n => match S[n]? with
    | some (.ins C' fs) => decide (C' = C) && fs.all fun f => decide (f.1 ≠ mn)
    | _ => false
  | .dat (.ins C' ns _) => decide (C' = C) && ns.all fun f => decide (f ≠ mn)
  | _ => false
theorem RepF.miss : ∀ {fs : List (Str × Vl)} {vs : List (Str × L2.V)}, RepF K B φ S H fs vs → (fs.all fun f => decide (f.1 ≠ mn)) = true → vs.lookup mn = none
  | [], vs, r, _ => by cases r; rfl
  | d :: ds, vs, ⟨v, ws, e, h1, h2⟩, h => by
    subst e
    simp only [List.all_cons, Bool.and_eq_true, decide_eq_true_eq] at h
    rw [List.lookup_cons, show (mn == d.1) = false by simpa using Ne.symm h.1]
    exact RepF.miss h2 h.2
theorem zip_miss : ∀ {ns : List Str} {vs : List L2.V}, (ns.all fun f => decide (f ≠ mn)) = true → (ns.zip vs).lookup mn = none
  | [], vs, _ => by simp
  | d :: ds, [], _ => by simp
  | d :: ds, v :: vs, h => by
    simp only [List.all_cons, Bool.and_eq_true, decide_eq_true_eq] at h
    rw [List.zip_cons_cons, List.lookup_cons, show (mn == d) = false by simpa using Ne.symm h.1]
    exact zip_miss h.2
theorem ins_ok {d : Vl} {v : L2.V} (I : GInv K B φ S H) (r : RepV K B φ S H d v) (h : isIns S C mn d = true) : ∃ a dx fs, v = .ref a ∧ H a = some (.ins (He.ga K C) dx fs) ∧ fs.lookup mn = none := by
  cases d with
  | cel n =>
    obtain ⟨a, rfl, h1⟩ := r
    have h : (match S[n]? with | some (.ins C' fs) => decide (C' = C) && fs.all fun f => decide (f.1 ≠ mn) | _ => false) = true := h
    split at h
    · rename_i C' fs q
      obtain ⟨h2, h3⟩ := He.ba h
      have e : C' = C := of_decide_eq_true h2
      subst e
      obtain ⟨dx, vs, h4, h5⟩ := I.ok n _ a q h1
      exact ⟨a, dx, vs, rfl, h4, h5.miss h3⟩
    · cases h
  | dat d =>
    cases d with
    | ins C' ns xs =>
      obtain ⟨h2, h3⟩ := He.ba (show (decide (C' = C) && ns.all fun f => decide (f ≠ mn)) = true from h)
      have e : C' = C := of_decide_eq_true h2
      subst e
      obtain ⟨a, dx, vs, rfl, _, h4, _⟩ := r
      exact ⟨a, dx, _, rfl, h4, zip_miss h3⟩
    | _ => cases h
  | cels ns => cases h
  | scr ns => cases h
def mMeth (C mn : Str) (md : FD) (o : FE) (as : FA) : FE := fun ρ S => (o ρ S).bind fun x S1 => if isIns S1 C mn x = true then (as ρ S1).bind fun ds S2 => md (x :: ds) S2 else .stuck
theorem f_meth0 {pl : Sem Bool} (F : OkMX X.prog X.w X.K X.mg X.base j C mn ps (spF X.K md)) (hr : Room k X.A) (tk : Takes X W) (c : Cls X.K (He.ga X.K C)) (ho : PE X o (rdE X.K W mo)) (hjk : j ≤ k := by decide)
    (ht : eval (.Call (.Attribute o mn apos) [] [] pos) X.env = eval o X.env >>= fun ov => standAt apos.atName >>= fun _ => holding [ov] (getMethod ov mn pl) >>= fun q => callWith pos q.1 q.2 (backTo pos (starEach [] X.env)) (backToKw pos (keywordEach [] X.env)) := by rfl) :
    PE X (.Call (.Attribute o mn apos) [] [] pos) (rdE X.K W (mMeth C mn md mo mNil)) := by
  obtain ⟨⟨fd, F, hb⟩, mt⟩ := F
  refine ⟨fun pins s σ H Q I h => ?_⟩
  have h' : rdE X.K W mo σ H fun v H1 => ∃ a dx fs, v = .ref a ∧ H1 a = some (.ins (He.ga X.K C) dx fs) ∧ fs.lookup mn = none ∧ spF X.K md [.ref a] H1 Q (WE W σ) :=
    rd_bind (k := fun x ρ S1 => if isIns S1 C mn x = true then md [x] S1 else .stuck) h fun B φ S ρ d v H1 I E r f => by
      split at f
      · rename_i hi
        obtain ⟨a, dx, fs, rfl, h1, h2⟩ := ins_ok I r hi
        exact ⟨a, dx, fs, rfl, h1, h2, B, φ, S, [d], I, ⟨_, _, rfl, r, rfl⟩, f.toE⟩
      · exact f.elim
  refine PySem.W.methodCall_KW (pl := pl) (thn (ho.run pins s σ H _ I h') fun u s1 hh => ?_) ht
  obtain ⟨x, H1, I1, rx, a, dx, fs, rfl, ea, l, q⟩ := hh
  obtain rfl : u = Value.ref a := rx
  exact getmeth_ok I1 ea c mt l (PySem.W.callWith_K0 (first := [.ref a]) I1.kIn mt.kp (run_fnS (us := [.ref a]) (vs := [.ref a]) (E := WE W) F (hr.mono hjk) hb (passAt tk σ) I1 (.cons rfl .nil) q))
def fldOf (S : Sto) (C f : Str) : Vl → Option Vl
  | .cel n => match S[n]? with
    | some (.ins C' fs) => if C' = C then fs.lookup f else none
    | _ => none
  | .dat (.ins C' ns xs) => if C' = C then ((ns.zip xs).lookup f).map Vl.dat else none
  | _ => none
theorem RepF.look {d : Vl} : ∀ {fs : List (Str × Vl)} {vs : List (Str × L2.V)}, RepF K B φ S H fs vs → fs.lookup f = some d → ∃ v, vs.lookup f = some v ∧ RepV K B φ S H d v
  | [], vs, r, h => by cases h
  | g :: fs, vs, ⟨v, ws, e, h1, h2⟩, h => by
    subst e
    obtain ⟨g1, g2⟩ := g
    rw [List.lookup_cons] at h ⊢
    cases q : f == g1 with
    | true => rw [q] at h; cases h; exact ⟨v, rfl, h1⟩
    | false => rw [q] at h; exact RepF.look h2 h
theorem zip_look {Bk : Addr → Prop} {d : PH.D} : ∀ {ns : List Str} {ds : List PH.D} {vs : List L2.V}, RepL K Bk H ds vs → (ns.zip ds).lookup f = some d → ∃ v, (ns.zip vs).lookup f = some v ∧ Rep K Bk H d v
  | [], ds, vs, r, h => by simp at h
  | n :: ns, [], vs, r, h => by simp at h
  | n :: ns, d' :: ds, vs, ⟨v, ws, e, h1, h2⟩, h => by
    subst e
    rw [List.zip_cons_cons, List.lookup_cons] at h ⊢
    cases q : f == n with
    | true => rw [q] at h; cases h; exact ⟨v, rfl, h1⟩
    | false => rw [q] at h; exact zip_look h2 h
def mFld (C f : Str) (o : FE) : FE := fun ρ S => (o ρ S).bind fun x S1 => match fldOf S1 C f x with
  | some d => .ok d S1
  | none => .stuck
theorem fldOf_ok {x d : Vl} {v : L2.V} (I : GInv K B φ S H) (r : RepV K B φ S H x v) (h : fldOf S C f x = some d) : ∃ a dx fs u, v = .ref a ∧ H a = some (.ins (He.ga K C) dx fs) ∧ fs.lookup f = some u ∧ RepV K B φ S H d u := by
  cases x with
  | cel n =>
    obtain ⟨a, rfl, h1⟩ := r
    replace h : (match S[n]? with | some (.ins C' fs) => if C' = C then fs.lookup f else none | _ => none) = some d := h
    split at h
    · rename_i C' fs q
      split at h
      · rename_i e
        subst e
        obtain ⟨dx, vs, h4, h5⟩ := I.ok n _ a q h1
        obtain ⟨u, h6, h7⟩ := h5.look h
        exact ⟨a, dx, vs, u, rfl, h4, h6, h7⟩
      · cases h
    · cases h
  | dat d' =>
    cases d' with
    | ins C' ns xs =>
      replace h : (if C' = C then ((ns.zip xs).lookup f).map Vl.dat else none) = some d := h
      split at h
      · rename_i e
        subst e
        obtain ⟨a, dx, vs, rfl, _, h4, l⟩ := r
        cases q : (ns.zip xs).lookup f with
        | none => rw [q] at h; cases h
        | some d0 =>
          rw [q] at h
          cases h
          obtain ⟨u, h6, h7⟩ := zip_look l q
          exact ⟨a, dx, _, u, rfl, h4, h6, h7⟩
      · cases h
    | _ => cases h
  | cels ns => cases h
  | scr ns => cases h
theorem f_fld (c : Cls X.K (He.ga X.K C)) (n : NoAttr X.K (He.ga X.K C) f) (ho : PE X o (rdE X.K W mo)) (hb : attributeBase o f X.env (eval o X.env) = eval o X.env := by rfl) : PE X (.Attribute o f pos) (rdE X.K W (mFld C f mo)) := PE_imp (e_fld c n ho hb) fun σ H Q h =>
  rd_bind (k := fun x _ S1 => match fldOf S1 C f x with | some d => .ok d S1 | none => .stuck) h fun B φ S ρ d v H1 I E r f' => by
    split at f'
    · rename_i d' q
      obtain ⟨a, dx, fs, u, rfl, h1, h2, h3⟩ := fldOf_ok I r q
      exact ⟨dx, fs, u, h1, h2, Fin.now f' I h3⟩
    · exact f'.elim
def putFV (f : Str) (v : Vl) : List (Str × Vl) → List (Str × Vl)
  | [] => [(f, v)]
  | (g, x) :: r => if g = f then (g, v) :: r else (g, x) :: putFV f v r
theorem RepF.put {d : Vl} {v : L2.V} (r : RepV K B φ S H d v) : ∀ {fs : List (Str × Vl)} {vs : List (Str × L2.V)}, RepF K B φ S H fs vs → RepF K B φ S H (putFV f d fs) (putF f v vs)
  | [], vs, h => by cases h; exact ⟨v, [], rfl, r, rfl⟩
  | (g, x) :: fs, vs, ⟨u, ws, e, h1, h2⟩ => by
    subst e
    unfold putFV putF
    split
    · exact ⟨v, ws, rfl, r, h2⟩
    · exact ⟨u, _, rfl, h1, RepF.put r h2⟩
theorem RepF.len : ∀ {fs : List (Str × Vl)} {vs : List (Str × L2.V)}, RepF K B φ S H fs vs → vs.length = fs.length
  | [], vs, h => by cases h; rfl
  | d :: ds, vs, ⟨v, ws, e, _, h2⟩ => by subst e; simp [RepF.len h2]
def setF (S : Sto) (C f : Str) (x d : Vl) : Option Sto := match x with
  | .cel n => (match S[n]? with
    | some (.ins C' fs) => if C' = C ∧ fs.length < 1000 then some (S.set n (.ins C (putFV f d fs))) else none
    | _ => none)
  | _ => none
def mSetF (C f : Str) (o v : FE) : FS := fun ρ S => (v ρ S).toS ρ fun d S1 => (o ρ S1).toS ρ fun x S2 => match setF S2 C f x d with
  | some S3 => .next ρ S3
  | none => .stuck
theorem fs_setF {value : Expr} {mv : FE} (c : Cls X.K (He.ga X.K C)) (na : NoAttr X.K (He.ga X.K C) f) (ho : PE X o (rdE X.K W mo)) (hv : PE X value (rdE X.K W mv)) (hs : swapsWith value (some (.Attribute o f pos')) pos.line X.env = pure false := by rfl) : PS X (.Assign [.Attribute o f pos'] value pos) (rdS X.K W (mSetF C f mo mv)) := PS_imp (s_setF c na ho hv hs) fun D σ H h => by
  obtain ⟨B, φ, S, ρ, I, E, f'⟩ := h
  refine fins_bind I E f' fun φ1 S1 d1 v1 H1 I1 X1 E1 r1 f1 => fins_bind I1 E1 f1 fun φ2 S2 d2 v2 H2 I2 X2 E2 r2 f2 => ?_
  split at f2
  · rename_i S3 q
    unfold setF at q
    split at q
    · rename_i n
      obtain ⟨a, rfl, h1⟩ := r2
      split at q
      · rename_i C' fs q1
        split at q
        · rename_i hc
          obtain ⟨e, hl⟩ := hc
          subst e
          cases q
          obtain ⟨dx, vs, h4, h5⟩ := I2.ok n _ a q1 h1
          have X3 := Ext.put (H := H2) (o := .ins (He.ga X.K C') dx (putF f v1 vs)) (x := .ins C' (putFV f d1 fs)) q1 (by simp) h1 (by simp)
          have r1' := r1.ext X2 I1
          refine ⟨dx, vs, h4, by rw [h5.len]; exact hl, f2 φ2 σ _ (I2.put q1 (by simp) h1 (by simp) ⟨dx, _, upd_same, (h5.put r1').ext X3 I2⟩) X3 (E2.ext X3 I2)⟩
        · cases q
      · cases q
    · cases q
  · exact f2.elim
end
end PH

namespace PH
open PySem PySem.Spec PyProof.Rows L2
section
variable {X : Cx} {W : WX} {e a b c o i : Expr} {es rest : List Expr} {pos p q p2 tpos apos cpos pos' : Pos} {x y z f mn : Str} {K : PySem.W.Frag} {ma mb mc mo mx : FE} {mas : FA} {B : Addr → Prop} {φ φ' : List Addr} {S S' : Sto} {H H' : Hp} {σ : L2.St} {Q : VK} {m n : FS} {D : Ends} {ps : List Str} {md : FD} {j k : Nat}
theorem run_makeS {C fA : Addr} {fd : FuncData} {sp : Sp} {CX : CXT} {E : L2.St → XK} {pins : List (Addr × Obj)} {s : Shared} {us : List Value} {vs : List L2.V} (M : Mk X.K C fA) (F : FnOk X.prog X.w X.K X.mg X.base CX k fA fd ps sp) (hr : Room (k + 1) X.A) (hb : Binds X.K fd ps [])
    (hx : PassesAt CX X σ (E σ)) (I : Inv X pins σ H s) (r : Vals vs us)
    (h : ∀ x dx, H x = none → H dx = none → dx ≠ x → sp (.ref x :: vs) (upd (upd H dx (.own x)) x (.ins C dx [])) (fun v H2 => v = .non ∧ Q (.ref x) H2) (E σ)) :
    wpAny (model X.prog X.w) X.A (call (.ref C) us) (EP X pins σ Q) X.xe s := by
  have hq := h (s.heap.objs.size + 1) s.heap.objs.size (I.hok.fresh (Nat.le_succ _)) (I.hok.fresh (Nat.le_refl _)) (Nat.ne_of_lt (Nat.lt_succ_self _))
  have I2 := Inv.made (C := C) I
  have r2 : Vals (V.ref (s.heap.objs.size + 1) :: vs) (Value.ref (s.heap.objs.size + 1) :: us) := .cons rfl r
  have hl : (Value.ref (s.heap.objs.size + 1) :: us ++ []).length = ps.length := by
    have e := r2.length
    rw [F.len _ _ _ _ hq] at e
    rw [List.append_nil]
    exact e.symm
  have b := hb _ (Value.ref (s.heap.objs.size + 1) :: us) I2.kIn hl
  rw [List.append_nil] at b
  refine wpAny_call (make_map (f := fA) I.kIn M.makes M.init (beq_iff_eq.mp M.fn) (codeAny_mono (F.run _ X.stack _ _ ⟨Value.ref (s.heap.objs.size + 1) :: us, []⟩ (Value.ref (s.heap.objs.size + 1) :: us) _ _ (E σ) (hr.make C us [])
    (I2.env0.make C us []) b r2 hq) fun r s' hq' => ?_))
  cases r with
  | error e => exact hx pins _ _ e s' I2 hq'
  | ok fl =>
    cases fl with
    | ret u =>
      obtain ⟨v, H', I3, rv, ev, q3⟩ := I2.after hq'
      subst ev
      exact ⟨rv, ⟨V.ref (s.heap.objs.size + 1), H', I3, rfl, q3⟩⟩
    | next => exact False.elim hq'
    | brk => exact False.elim hq'
    | cont => exact False.elim hq'
def allDF : List (Str × Vl) → Option (List PH.D)
  | [] => some []
  | (_, .dat d) :: r => match allDF r with
    | some ds => some (d :: ds)
    | none => none
  | _ :: _ => none
theorem allDF_ok : ∀ {fs : List (Str × Vl)} {vs : List (Str × L2.V)} {ds : List PH.D}, allDF fs = some ds → RepF K B φ S H fs vs → ∃ ws, vs = (fs.map (·.1)).zip ws ∧ RepL K (Blk B φ S) H ds ws
  | [], vs, ds, h, r => by cases h; cases r; exact ⟨[], rfl, rfl⟩
  | (g, .dat d) :: fs, vs, ds, h, ⟨v, ws, e, h1, h2⟩ => by
    unfold allDF at h
    cases q : allDF fs with
    | none => rw [q] at h; cases h
    | some es =>
      rw [q] at h
      cases h
      obtain ⟨us, e2, l⟩ := allDF_ok q h2
      subst e e2
      exact ⟨v :: us, rfl, v, us, rfl, h1, l⟩
  | (_, .cel _) :: fs, vs, ds, h, _ => by cases h
  | (_, .cels _) :: fs, vs, ds, h, _ => by cases h
  | (_, .scr _) :: fs, vs, ds, h, _ => by cases h
/-- an instance whose __init__ is done -/
def made (kp : Bool) (n : Nat) (r : Res Vl) : Res Vl := match r with
  | .ok (.dat .non) S => if kp then .ok (.cel n) S else (match S[n]? with
    | some (.ins C fs) => (match allDF fs with
      | some ds => if ((S.take n).all fun c => c.below n) then .ok (.dat (.ins C (fs.map (·.1)) ds)) (S.take n) else .stuck
      | none => .stuck)
    | _ => .stuck)
  | .err e S => if ((S.take n).all fun c => c.below n) then .err e (S.take n) else .stuck
  | _ => .stuck
def mMake (kp : Bool) (C : Str) (md : FD) (as : FA) : FE := fun ρ S => (as ρ S).bind fun ds S1 => made kp S1.length (md (.cel S1.length :: ds) (S1 ++ [.ins C []]))
theorem alive_taken {n : Nat} {c : Cell} {a : Addr} (I : GInv K B φ S H) (hn : S[n]? = some c) (hc : c ≠ .dead) (ha : φ[n]? = some a) : ¬ Blk B (φ.take n) (S.take n) a := fun q => by
  rcases q with q | ⟨m, c', h1, h2, h3⟩
  · exact I.blk a ⟨n, c, hn, hc, ha⟩ q
  · rw [List.getElem?_take] at h1 h3
    by_cases hm : m < n
    · rw [if_pos hm] at h1 h3
      have := I.inj n m c c' a hn hc h1 h2 ha h3
      omega
    · rw [if_neg hm] at h1; cases h1
theorem fin_make {kp : Bool} {C : Str} {ds : List Vl} {vs : List L2.V} (I : GInv K B φ S H) (r : RepVs K B φ S H ds vs) (f : Fin K W σ (RepV K) B φ S H (made kp S.length (md (.cel S.length :: ds) (S ++ [.ins C []]))) Q) :
    ∀ x dx, H x = none → H dx = none → dx ≠ x → spF K md (.ref x :: vs) (upd (upd H dx (.own x)) x (.ins (He.ga K C) dx [])) (fun v H2 => v = .non ∧ Q (.ref x) H2) (WE W σ) := fun x dx nx ndx ne => by
  have I1 := I.new (o := .own x) ndx
  have X1 := Ext.new (o := .own x) I ndx
  have nx1 : upd H dx (.own x) x = none := by rw [upd_ne (Ne.symm ne)]; exact nx
  have X2 := Ext.newC (o := .ins (He.ga K C) dx []) (x := .ins C []) I1 nx1
  have I2 : GInv K B (φ ++ [x]) (S ++ [.ins C []]) (upd (upd H dx (.own x)) x (.ins (He.ga K C) dx [])) := I1.newC nx1 fun _ => ⟨dx, [], upd_same, rfl⟩
  have X12 := X1.trans X2
  refine ⟨B, φ ++ [x], S ++ [.ins C []], .cel S.length :: ds, I2, ⟨_, _, rfl, ⟨x, rfl, by rw [← I.len]; exact getElem_app⟩, RepVs.ext X2 I1 (RepVs.ext X1 I r)⟩, ?_⟩
  have hφ : φ.length ≤ S.length := by rw [I.len]; exact Nat.le_refl _
  cases q : md (.cel S.length :: ds) (S ++ [.ins C []]) with
  | stuck => rw [q] at f; exact f
  | err e S' =>
    rw [q] at f
    unfold made at f
    dsimp only at f
    split at f
    · rename_i h
      intro φ' c y H' I' X' r'
      refine f (φ'.take S.length) c y H' (I'.take h) ((X12.trans X').take hφ) ⟨r'.1, ?_⟩
      rcases r'.2 with h0 | ⟨d, us, e1, e2, e3⟩
      · exact .inl h0
      · refine .inr ⟨d, us, e1, e2, RepL.kp ⟨fun b o h nb => ⟨h, fun q => nb (by
          rcases q with q | q
          · exact .inl q
          · exact .inr (alive_take q))⟩, fun _ _ h => h⟩ _ _ e3⟩
    · exact f.elim
  | ok d S' =>
    rw [q] at f
    intro φ' v H' I' X' r'
    unfold made at f
    split at f
    · rename_i S0 e
      cases e
      cases r'
      refine ⟨rfl, ?_⟩
      have hx' : φ'[S.length]? = some x := X'.ids _ _ (by rw [← I.len]; exact getElem_app)
      split at f
      · exact f φ' _ H' I' (X12.trans X') ⟨x, rfl, hx'⟩
      · split at f
        · rename_i C' fs q1
          split at f
          · rename_i ds' q2
            split at f
            · rename_i h
              obtain ⟨dx', vs', h4, h5⟩ := I'.ok _ _ _ q1 hx'
              obtain ⟨ws, e2, l⟩ := allDF_ok q2 h5
              subst e2
              refine f (φ'.take S.length) _ H' (I'.take h) ((X12.trans X').take hφ) ⟨x, dx', ws, rfl, alive_taken I' q1 (by simp) hx', h4, RepL.kp ⟨fun b o h nb => ⟨h, fun q => nb (by
                rcases q with q | q
                · exact .inl q
                · exact .inr (alive_take q))⟩, fun _ _ h => h⟩ _ _ l⟩
            · exact f.elim
          · exact f.elim
        · exact f.elim
    · rename_i e; cases e
    · exact f.elim
theorem f_make {kp : Bool} {C : Str} (T : ClF X.K X.mg C) (F : OkMX X.prog X.w X.K X.mg X.base j C "__init__" ps (spF X.K md)) (hr : Room k X.A) (tk : Takes X W) (ha : PA X (e :: es) (rdA X.K W mas)) (hjk : j + 1 ≤ k := by decide) (hg : Gl X C := by rfl) (hdb : (C == ("__debug__" : Str)) = false := by decide)
    (he : starEach (e :: es) X.env = (false, eval e X.env) :: starEach es X.env := by rfl) (hpl : (backTo pos (starEach es X.env)).any (·.1) = false := by rfl) : PE X (.Call (.Name C p) (e :: es) [] pos) (rdE X.K W (mMake kp C md mas)) := by
  obtain ⟨⟨fd, F, hb⟩, mt⟩ := F
  refine ⟨fun pins s σ H Q I h => ?_⟩
  refine wpAny_Call_Name_kw (ld_glob I hg T.glo ?_ hdb)
  have h' : rdA X.K W mas σ H fun vs H1 => ∀ x dx, H1 x = none → H1 dx = none → dx ≠ x → spF X.K md (.ref x :: vs) (upd (upd H1 dx (.own x)) x (.ins (He.ga X.K C) dx [])) (fun v H2 => v = .non ∧ Q (.ref x) H2) (WE W σ) :=
    rd_bind (k := fun ds _ S1 => made kp S1.length (md (.cel S1.length :: ds) (S1 ++ [.ins C []]))) h fun B φ S ρ d v H1 I E r f => fin_make I r f
  refine PySem.W.callWith_K (h₀ := X.base) I.ok.mod.kin T.mak.kp (thn (ha.run pos pins s σ H _ I h') fun us s1 ⟨vs, H1, I1, r, q⟩ => ⟨I1.kIn, ?_⟩) he hpl
  exact run_makeS (E := WE W) T.mak F (hr.mono hjk) hb (passAt tk σ) I1 r q
def mRaise (cls : Str) : FS := fun ρ S => .err ⟨cls, [], []⟩ ρ S
end
/-- what must be known of the class x, whose fields are ns (the last one stored first) -/
def spX1 (C : Addr) (f : Str) : Sp := fun vs H Q _ => ∃ a y, vs = [.ref a, y] ∧ H a = some (exo a C none) ∧ ∀ dx, H dx = none → dx ≠ a → Q .non (upd (upd H dx (exd dx [(f, y)])) a (exo a C (some dx)))
structure XcA (P : Program) (w : World) (K : PySem.W.Frag) (mg : Str → Option Value) (base : Heap) (k : Nat) (x : Str) (ps : List Str) (sp : Sp) : Prop where
  cls : OexC K (He.ga K x)
  ini : PySem.W.findIn K (.ref (He.ga K x)) "__init__" = some (some (.ref (He.ma K (He.ga K x) "__init__")))
  ty : PySem.W.typeIn K (.ref (He.ma K (He.ga K x) "__init__")) = some (.type "function")
  fn : ∃ fd, FnOk P w K mg base CX0 k (He.ma K (He.ga K x) "__init__") fd ps sp ∧ Binds K fd ps []
  glo : mg x = some (.ref (He.ga K x))
section
variable {X : Cx} {W : WX} {e : Expr} {es : List Expr} {pos p pos' : Pos} {x f g : Str} {K : PySem.W.Frag} {mas : FA} {B : Addr → Prop} {φ φ' : List Addr} {S S' : Sto} {H H' : Hp} {σ : L2.St} {ps : List Str} {j k : Nat}
/-- raise x(e, ..): ns the fields, last first -/
def mRaiseA (cls : Str) (ns : List Str) (as : FA) : FS := fun ρ S => (as ρ S).toS ρ fun xs S1 => match allD xs with
  | some ds => if ds.length = ns.length then .err ⟨cls, ns, ds.reverse⟩ ρ S1 else .stuck
  | none => .stuck
theorem fs_raise1 (F : XcA X.prog X.w X.K X.mg X.base j x ps (spX1 (He.ga X.K x) f)) (hr : Room k X.A) (tk : Takes X W) (ha : PA X (e :: es) (rdA X.K W mas)) (hjk : j + 1 ≤ k := by decide) (hc : X.calm = true := by rfl) (hg : Gl X x := by rfl) (hdb : (x == ("__debug__" : Str)) = false := by decide)
    (he : starEach (e :: es) X.env = (false, eval e X.env) :: starEach es X.env := by rfl) (hpl : (backTo pos (starEach es X.env)).any (·.1) = false := by rfl) : PS X (.Raise (some (.Call (.Name x p) (e :: es) [] pos)) none pos') (rdS X.K W (mRaiseA x [f] mas)) := by
  obtain ⟨fd, F1, hb⟩ := F.fn
  refine PS_imp (ps_raise hc tk (pmk_oex F.cls F.ini F.ty F1 (hr.mono hjk) hb .nil (fun _ _ _ _ _ _ _ h => h.elim) hg F.glo ha hdb he hpl)) fun D σ H h => ?_
  obtain ⟨B, φ, S, ρ, I, E, f'⟩ := h
  refine fins_bind I E f' fun φ1 S1 ds vs H1 I1 X1 E1 r f1 => ?_
  split at f1
  · rename_i xs q
    have l := allD_ok q r
    split at f1
    · rename_i hl
      match xs, hl with
      | [d], _ =>
        obtain ⟨v, ws, rfl, h1, h2⟩ := l
        cases h2
        refine ⟨by simp, fun a na => ⟨a, v, rfl, upd_same, fun dx ndx ne => ⟨rfl, dx, [(f, v)], upd_same, ?_, ?_, ?_⟩⟩⟩
        · rw [upd_ne ne, upd_same]
        · rw [upd_ne ne] at ndx; exact ndx
        · have n1 : H1 dx = none := by rw [upd_ne ne] at ndx; exact ndx
          have eH : (upd (del (upd (upd (upd H1 a (exo a (He.ga X.K x) none)) dx (exd dx [(f, v)])) a (exo a (He.ga X.K x) (some dx))) a) dx (.xd [(f, v)])) = upd H1 dx (.xd [(f, v)]) := by
            funext b
            unfold upd del
            by_cases hb : b = dx
            · rw [if_pos hb, if_pos hb]
            · rw [if_neg hb, if_neg hb]
              by_cases hba : b = a
              · rw [if_pos hba, hba]; exact na.symm
              · rw [if_neg hba]; simp only [if_neg hba, if_neg hb]
          rw [eH]
          have X2 := Ext.new (o := .xd [(f, v)]) I1 n1
          exact f1 φ1 σ _ _ _ (I1.new n1) X2 (E1.ext X2 I1) ⟨rfl, .inr ⟨dx, [v], rfl, upd_same, v, [], rfl, Rep.kp (X2.kp I1) _ _ h1, rfl⟩⟩
    · exact f1.elim
  · exact f1.elim
end
end PH

namespace PH
open PySem PySem.Spec PyProof.Rows L2
section
variable {X : Cx} {W : WX} {e a b c o i : Expr} {es rest : List Expr} {pos p q p2 tpos apos cpos pos' np : Pos} {x y z f mn : Str} {K : PySem.W.Frag} {ma mb mc mo mx : FE} {mas : FA} {B : Addr → Prop} {φ φ' : List Addr} {S S' : Sto} {H H' : Hp} {σ : L2.St} {Q : VK} {m n : FS} {D : Ends} {cs : List Str}
theorem FinS.wNo {o : Out} (f : FinS K W D B φ S H (match o with | .err _ _ _ => .stuck | o => o)) : FinS K PH.wNo D B φ S H o := by
  cases o with
  | err e ρ S' => exact f.elim
  | next ρ S' => exact f
  | ret d S' => exact f
  | brk ρ S' => exact f
  | cnt ρ S' => exact f
  | stuck => exact f
inductive XIt where
  | c (v : L2.V) (d : PH.D) | f (n : Str)
def itF (e : Er) : List XIt → Option (List PH.D)
  | [] => some []
  | .c _ d :: r => match itF e r with
    | some ds => some (d :: ds)
    | none => none
  | .f n :: r => match (e.ns.zip e.xs).lookup n, itF e r with
    | some d, some ds => some (d :: ds)
    | _, _ => none
def mTryA (cs : List Str) (m : FS) (c : Str) (k : Nat) (its : List XIt) : FS := fun ρ S => match m ρ S with
  | .err e ρ' S' => if (e.cls ∈ cs ∧ c ∈ cs) ∧ k < ρ'.length then (if e.cls = c then (match itF e its with
      | some ds => if ds.length ≤ sizeLine then .ret (.dat (.tup ds)) S' else .stuck
      | none => .stuck) else .err e ρ' S') else .stuck
  | o => o
end
end PH

namespace PH
open PySem PySem.Spec PyProof.Rows L2
def limits : List (Str × Nat × Int × Int) := [("go", 1, -9, 9), ("turn", 1, 1, 3), ("mirror", 0, 0, 0), ("scale", 1, -3, 3), ("aim", 2, -9, 9), ("place", 2, -9, 9), ("mark", 0, 0, 0), ("return", 0, 0, 0), ("exchange", 0, 0, 0)]
section
variable {X : Cx} {W : WX} {e a b c o i : Expr} {es rest : List Expr} {pos p q p2 tpos apos cpos pos' np : Pos} {x y z f mn C : Str} {K : PySem.W.Frag} {ma mb mc mo mx : FE} {mas : FA} {B : Addr → Prop} {φ φ' : List Addr} {S S' : Sto} {H H' : Hp} {σ : L2.St} {Q : VK} {m n : FS} {D : Ends} {ps : List Str} {md : FD} {j k : Nat}
def fInLim (neg : Bool) (x : Vl) (S : Sto) : Res Vl := match x with
  | .dat (.str z) => .ok (.dat (.bl (if neg then (limits.lookup z).isNone else (limits.lookup z).isSome))) S
  | _ => .stuck
def fLim (x : Vl) (S : Sto) : Res Vl := match x with
  | .dat (.str z) => (match limits.lookup z with
    | some (m, lo, hi) => .ok (.dat (.tup [.int (m : Nat), .int lo, .int hi])) S
    | none => .stuck)
  | _ => .stuck
theorem call_lenX {sp : Sp} (F : OkMX X.prog X.w X.K X.mg X.base j C "__len__" ps sp) (hr : Room (j + 1) X.A) : CallR X (.builtin "len") (c1 (rLenO (He.ga X.K C) sp E0)) := by
  intro pins s σ H xs us Q I r h
  obtain ⟨⟨fd, F, hb⟩, mt⟩ := F
  match xs, h with
  | [x], h =>
    cases x with
    | ref a =>
      obtain ⟨dx, fs, ha, h⟩ := h
      cases r with
      | cons r1 r2 =>
        cases r1
        cases r2
        obtain ⟨mA, J, _⟩ := ins_get I.hok ha
        obtain ⟨od, J, _⟩ := J.look
        obtain ⟨fm, hF⟩ := I.fr
        refine PySem.W.len_K hF I.ok.mod.kin J mt.at_ mt.fn ?_
        have e := I.env0
        have hl := F.len _ _ _ _ h
        have b := hb s [.ref a] I.kIn (by simpa using hl)
        have run := F.run X.A.in1 X.stack s H ⟨[.ref a], []⟩ [.ref a] [.ref a] _ E0 hr.in1 ⟨e.frames, e.mod, e.bs, e.bsz, e.funs, e.frf, e.hok, e.bare⟩ (by simpa using b) (.cons rfl .nil) h
        refine wpAny_call (codeAny_mono run fun q s' hq => ?_)
        cases q with
        | error e => obtain ⟨_, _, _, _, _, _, _, _, _, _, _, _, z⟩ := hq; exact z.elim
        | ok fl =>
          cases fl with
          | ret w =>
            obtain ⟨z, H', I', rz, hz⟩ := I.after hq
            cases z with
            | int n =>
              obtain ⟨tk, rfl⟩ := rz
              exact ⟨⟨hz.1.1, by have := hz.1.2; omega⟩, .int n, H', I'.tok _, ⟨_, rfl⟩, hz.2⟩
            | _ => exact hz.elim
          | next => exact False.elim hq
          | brk => exact False.elim hq
          | cont => exact False.elim hq
    | _ => exact h.elim
theorem op_eqX {sp : Sp} (F : OkMX X.prog X.w X.K X.mg X.base j C "__eq__" ps sp) (hr : Room k X.A) (hjk : j ≤ k := by decide) : OpR X (compareOp .Eq) (rEqO (He.ga X.K C) sp) := by
  intro pins s σ H x y v u Q I rx ry h
  obtain ⟨⟨fd, F, hb⟩, mt⟩ := F
  replace hr := hr.mono hjk
  cases x with
  | ref a =>
    cases y with
    | ref b =>
      obtain ⟨dx, fs, dy, gs, ha, hb', h⟩ := h
      cases rx
      cases ry
      show wpAny (model X.prog X.w) X.A (richCompare .Eq (.ref a) (.ref b)) (EP X pins σ Q) X.xe s
      obtain ⟨mA, J, _⟩ := ins_get I.hok ha
      obtain ⟨mB, J', _⟩ := ins_get I.hok hb'
      obtain ⟨od, J, _⟩ := J.look
      obtain ⟨od', J', _⟩ := J'.look
      obtain ⟨fm, hF⟩ := I.fr
      refine PySem.W.cmp_K (op := .Eq) (tb := .ref (He.ga X.K C)) hr.units0 hF I.ok.mod.kin J J'.type (by simp [PySem.W.notFirst]) mt.at_ mt.fn ?_
      have e := I.env0
      have hl := F.len _ _ _ _ h
      have b1 := hb s [.ref a, .ref b] I.kIn (by simpa using hl)
      have run := F.run X.A X.stack s H ⟨[.ref a, .ref b], []⟩ [.ref a, .ref b] [.ref a, .ref b] _ E0 hr e (by simpa using b1) (.cons rfl (.cons rfl .nil)) h
      refine wpAny_call (codeAny_mono run fun q s' hq => ?_)
      cases q with
      | error e => obtain ⟨_, _, _, _, _, _, _, _, _, _, _, _, z⟩ := hq; exact z.elim
      | ok fl =>
        cases fl with
        | ret w =>
          obtain ⟨z, H', I', rz, hz⟩ := I.after hq
          cases z with
          | bl r =>
            cases rz
            exact ⟨.bl r, H', I', rfl, hz⟩
          | _ => exact hz.elim
        | next => exact False.elim hq
        | brk => exact False.elim hq
        | cont => exact False.elim hq
    | _ => exact h.elim
  | _ => cases y <;> exact h.elim
/-- no error, an int -/
def lenR (r : Res Vl) : Res Vl := match r with
  | .ok (.dat (.int n)) S => if 0 ≤ n ∧ n < 2 ^ 62 then .ok (.dat (.int n)) S else .stuck
  | _ => .stuck
def fLenO (C : Str) (md : FD) (x : Vl) (S : Sto) : Res Vl := if isIns S C "__len__" x = true then lenR (md [x] S) else .stuck
theorem f_lenO (hm : X.mg "len" = none) (F : OkMX X.prog X.w X.K X.mg X.base j C "__len__" ps (spF X.K md)) (hr : Room k X.A) (ha : PE X a (rdE X.K W ma)) (hjk : j + 1 ≤ k := by decide) (hg : Gl X "len" := by rfl) (hs : starEach [a] X.env = [(false, eval a X.env)] := by rfl) : PE X (.Call (.Name "len" p) [a] [] pos) (rdE X.K W (m1 (fLenO C md) ma)) :=
  PE_imp (pe_callB (call_lenX F (hr.mono hjk)) hg hm boot_len (pa_cons ha pa_nil hs) (he := hs)) fun σ H Q h => rd_bind (k := fun x _ S => fLenO C md x S) h fun B φ S ρ d v H1 I E r f => by
    unfold fLenO at f
    split at f
    · rename_i hi
      obtain ⟨a, dx, fs, rfl, h1, h2⟩ := ins_ok I r hi
      refine ⟨dx, fs, h1, B, φ, S, [d], I, ⟨_, _, rfl, r, rfl⟩, ?_⟩
      unfold lenR at f
      split at f
      · rename_i n S' q
        rw [q]
        split at f
        · rename_i hn
          intro φ' v H' I' X' r'
          cases r'
          exact ⟨hn, f φ' _ H' I' X' rfl⟩
        · exact f.elim
      · exact f.elim
    · exact f.elim
def boolR (r : Res Vl) : Res Vl := match r with
  | .ok (.dat (.bl n)) S => .ok (.dat (.bl n)) S
  | _ => .stuck
def fEqO (C : Str) (md : FD) (x y : Vl) (S : Sto) : Res Vl := if isIns S C "" x = true ∧ isIns S C "" y = true then boolR (md [x, y] S) else .stuck
theorem s_eqO : SimOp K (rEqO (He.ga K C) (spF K md)) (fEqO C md) := fun {W σ B φ S H x y d e Q} I r1 r2 f => by
  unfold fEqO at f
  split at f
  · rename_i hi
    obtain ⟨a, dx, fs, rfl, h1, h2⟩ := ins_ok I r1 hi.1
    obtain ⟨b, dy, gs, rfl, h3, h4⟩ := ins_ok I r2 hi.2
    refine ⟨dx, fs, dy, gs, h1, h3, B, φ, S, [d, e], I, ⟨_, _, rfl, r1, _, _, rfl, r2, rfl⟩, ?_⟩
    unfold boolR at f
    split at f
    · rename_i n S' q
      rw [q]
      intro φ' v H' I' X' r'
      cases r'
      exact f φ' _ H' I' X' rfl
    · exact f.elim
  · exact f.elim
def fIsC (C : Str) (x : Vl) (S : Sto) : Res Vl := if isIns S C "" x = true then .ok (.dat (.bl true)) S else .stuck
theorem f_isC {q : Pos} (T : IsF X.K C) (hm : X.mg "isinstance" = none) (g : X.mg C = some (.ref (He.ga X.K C))) (ha : PE X a (rdE X.K W ma)) (hg : Gl X "isinstance" := by rfl) (hgC : Gl X C := by rfl) (hdb : (C == ("__debug__" : Str)) = false := by decide)
    (hs : starEach [a, .Name C q] X.env = (false, eval a X.env) :: starEach [.Name C q] X.env := by rfl) : PE X (.Call (.Name "isinstance" p) [a, .Name C q] [] pos) (rdE X.K W (m1 (fIsC C) ma)) := PE_imp (e_isC T hm g ha hg hgC hdb hs) fun σ H Q h => rd_bind (k := fun x _ S => fIsC C x S) h fun B φ S ρ d v H1 I E r f => by
  unfold fIsC at f
  split at f
  · rename_i hi
    obtain ⟨a, dx, fs, rfl, h1, h2⟩ := ins_ok I r hi
    exact ⟨rfl, dx, fs, h1, Fin.now f I rfl⟩
  · exact f.elim
end
section
variable {P : Program} {w : World} {K : PySem.W.Frag} {mg : Str → Option Value} {base : Heap}
end
end PH

namespace PH
open PySem PySem.Spec PyProof.Rows L2
theorem law_endF {P : Program} {w : World} {K : PySem.W.Frag} {mg : Str → Option Value} {x : Str} {st : Stmt} {N ps : List Str} {k : Nat} {md : FD} {mb : FS} (F : FnP K x st) (S : FnScope N ps (defScope st)) (R : Runs md N.length ps.length mb)
    (bnd : ∀ (kV doc pm : Value) (an : Option Addr) (cdv ct : Value) (us : List Value), us.length = ps.length → bindArgs (PySem.W.fnOf x x (defArgs st) (defBody st) (defScope st) .none kV doc pm an cdv ct) ⟨us, []⟩ = pure (ps.zip us))
    (hbody : ∀ (base : Heap) (cdv : Value) (A : Around) (outer : List Env) (s : Shared) (H : Hp) (E : XK), Room k (A.deeper (envOfC x (defScope st) s.heap.objs.size (He.ga K x) cdv)) →
      PSs (cxOf (L2.CX P w) P w K mg base N x (defScope st) (He.ga K x) cdv A outer s H E) (defBody st) (rdS K (fun c x _ H => E c x H) mb)) :
    ∃ fd, (∀ (s : Shared) (us : List Value), us.length = ps.length → BindsTo s fd ⟨us, []⟩ (ps.zip us)) ∧ ∀ base, FnOk P w K mg base (L2.CX P w) (k + 1) (He.ga K x) fd ps (spF K md) := by
  obtain ⟨fd, F⟩ := F
  refine ⟨fd, fun s us hl => F.bindsA bnd s us hl, fun base => ?_⟩
  obtain ⟨oc, od, dV, kV, doc, pm, an, cdv, ct, osl, e, lk, hc⟩ := F.ex
  subst e
  exact fn_of lk hc.1 S (spF_len R) fun A outer s H vs Q E hr hsp => ⟨_, hbody base cdv A outer s H E hr, spF_body R hsp⟩
/-- the law's promise at the start -/
theorem law_start {K : PySem.W.Frag} {md : FD} {n : Nat} (h : ∀ ns : List Int, ns.length ≤ n → ∃ S, md [.scr ns] [] = .ok (.dat (.bl true)) S) (H : Hp) (a : Addr) (ns : List Int) (hl : ns.length ≤ n) (hO : Only H) (hS : SqL K H a (ns.map V.int)) : spF K md [.ref a] H (fun v _ => v = .bl true) fun _ _ _ => False := by
  obtain ⟨S, e⟩ := h ns hl
  refine ⟨fun _ => False, [], [], [.scr ns], ⟨rfl, fun n c a h => by simp at h, fun n m c c' a h => by simp at h, fun a ⟨n, c, h, _⟩ => by simp at h, fun a h => h.elim⟩, ⟨_, _, rfl, ⟨a, rfl, ?_⟩, rfl⟩, ?_⟩
  · rcases hS with (h | ⟨o, h⟩) | h
    · rcases hO a with q | ⟨o, xs, q⟩
      · rw [h] at q; cases q
      · rw [h] at q; cases q
    · exact .inl ⟨o, h⟩
    · exact .inr (.inr h)
  · rw [e]
    exact fun φ' v H' _ _ r => r
end PH

namespace PH
open PySem PySem.Spec PyProof.Rows L2
def oexB (K : PySem.W.Frag) (C : Addr) : Bool := match K.lookup C with
  | some ⟨.type "type", _, .cls cd, sl⟩ => (match cd.mro, sl.toList with
    | .ref C' :: bm, [_, _, _, _, some (.builtin n), _] => C' == C && n == "ValueError.__new__" && !cd.hasDel && cd.hasDict && PySem.HandSPX.refsVE bm
    | _, _ => false)
  | _ => false
theorem oexB_ok {K : PySem.W.Frag} {C : Addr} (q : oexB K C = true) : ∃ nm q N bs bm sn sub ab col dd k0 k1 k2 k3 k5, K.lookup C = some (excClassObj nm q C N bs bm true sn sub ab col dd k0 k1 k2 k3 k5 "ValueError.__new__") ∧ PySem.HandSPX.refsVE bm = true := by
  unfold oexB at q
  split at q
  · rename_i dd cd sl ho
    split at q
    · rename_i C' bm k0 k1 k2 k3 n k5 hm hs
      simp only [Bool.and_eq_true, beq_iff_eq, Bool.not_eq_true'] at q
      obtain ⟨⟨⟨⟨rfl, rfl⟩, hdel⟩, hdi⟩, hbm⟩ := q
      obtain ⟨nm, bs, mro, ns, qn, hd, sn, sub, ab, col, del⟩ := cd
      dsimp only at hm hdel hdi
      subst hm hdel hdi
      have hsl : sl = #[k0, k1, k2, k3, some (.builtin "ValueError.__new__"), k5] := by
        obtain ⟨l⟩ := sl
        simp only at hs
        rw [hs]
      subst hsl
      exact ⟨nm, qn, ns, bs, bm, sn, sub, ab, col, dd, k0, k1, k2, k3, k5, ho, hbm⟩
    · cases q
  · cases q
structure XaF (K : PySem.W.Frag) (mg : Str → Option Value) (x : Str) (fs : List Str) : Prop where
  cls : OexC K (He.ga K x)
  ini : PySem.W.findIn K (.ref (He.ga K x)) "__init__" = some (some (.ref (He.ma K (He.ga K x) "__init__")))
  ty : PySem.W.typeIn K (.ref (He.ma K (He.ga K x) "__init__")) = some (.type "function")
  glo : mg x = some (.ref (He.ga K x))
  rd : XfC K (He.ga K x)
  no : ∀ f ∈ fs, PySem.W.findIn K (.ref (He.ga K x)) f = some none
def xaB (K : PySem.W.Frag) (x : Str) (fs : List Str) : Bool := oexB K (He.ga K x) && (decide (PySem.W.findIn K (.ref (He.ga K x)) "__setattr__" = some (some (.builtin "object.__setattr__"))) && (decide (PySem.W.subIn K (.ref (He.ga K x)) (.type "BaseException") = some true) && (decide (PySem.W.typeIn K (.ref (He.ga K x)) = some (.type "type")) && (PySem.W.keepIn K (.ref (He.ga K x)) && (decide (PySem.W.findIn K (.ref (He.ga K x)) "__init__" = some (some (.ref (He.ma K (He.ga K x) "__init__")))) && (decide (PySem.W.typeIn K (.ref (He.ma K (He.ga K x) "__init__")) = some (.type "function")) && (xfB K (He.ga K x) && fs.all fun f => decide (PySem.W.findIn K (.ref (He.ga K x)) f = some none))))))))
theorem xaB_ok {K : PySem.W.Frag} {mg : Str → Option Value} {x : Str} {fs : List Str} (h : xaB K x fs = true) (g : mg x = some (.ref (He.ga K x))) : XaF K mg x fs := by
  obtain ⟨h1, h⟩ := He.ba h
  obtain ⟨h2, h⟩ := He.ba h
  obtain ⟨h3, h⟩ := He.ba h
  obtain ⟨h4, h⟩ := He.ba h
  obtain ⟨h5, h⟩ := He.ba h
  obtain ⟨h6, h⟩ := He.ba h
  obtain ⟨h7, h⟩ := He.ba h
  obtain ⟨h8, h9⟩ := He.ba h
  exact ⟨⟨oexB_ok h1, of_decide_eq_true h2, of_decide_eq_true h3, of_decide_eq_true h4, h5⟩, of_decide_eq_true h6, of_decide_eq_true h7, g, xfB_ok h8, fun f hf => of_decide_eq_true (List.all_eq_true.mp h9 f hf)⟩
section
variable {P : Program} {w : World} {K : PySem.W.Frag} {mg : Str → Option Value} {base : Heap}
theorem spX1_len {C : Addr} {f a b : Str} : ∀ vs H Q E, spX1 C f vs H Q E → vs.length = [a, b].length := fun vs H Q E ⟨_, _, e, _⟩ => by rw [e]; rfl
/-- the __init__ of an exception class, walked -/
theorem okInit {x m q : Str} {fs : List Str} {st : Stmt} {N ps : List Str} {k : Nat} {sp : Sp} (T : XaF K mg x fs) (F : FnM K x "__init__" q st) (S : FnScope N ps (defScope st)) (len : ∀ vs H Q E, sp vs H Q E → vs.length = ps.length)
    (bnd : ∀ (kV doc pm : Value) (an : Option Addr) (cdv ct : Value) (us : List Value), us.length = ps.length → bindArgs (PySem.W.fnOf "__init__" q (defArgs st) (defBody st) (defScope st) .none kV doc pm an cdv ct) ⟨us, []⟩ = pure (ps.zip us))
    (hbody : ∀ (cdv : Value) (A : Around) (outer : List Env) (s : Shared) (H : Hp) (vs : List V) (Q : VK) (E : XK), Room k (A.deeper (envOfC q (defScope st) s.heap.objs.size (He.ma K (He.ga K x) "__init__") cdv)) → sp vs H Q E →
      ∃ t, PSs (cxOf CX0 P w K mg base N q (defScope st) (He.ma K (He.ga K x) "__init__") cdv A outer s H E).nox (defBody st) t ∧ t { nx := fun _ H' => Q .non H', rt := Q } (start N vs) H) : XcA P w K mg base (k + 1) x ps sp := by
  obtain ⟨fd, F⟩ := F
  refine ⟨T.cls, T.ini, T.ty, ⟨fd, FunD.ok F S len fun cdv A outer s H vs Q E hr hsp => ?_, F.bindsN bnd⟩, T.glo⟩
  obtain ⟨t, h, q⟩ := hbody cdv A outer s H vs Q E hr hsp
  exact ⟨t, h.nox, q⟩
end
section
variable {X : Cx} {W : WX} {e a b c o i : Expr} {es rest : List Expr} {pos p q p2 tpos apos cpos pos' np : Pos} {x y z f mn C : Str} {K : PySem.W.Frag} {ma mb mc mo mx : FE} {mas : FA} {B : Addr → Prop} {φ φ' : List Addr} {S S' : Sto} {H H' : Hp} {σ : L2.St} {Q : VK} {m n : FS} {D : Ends} {ps : List Str} {md : FD} {j k : Nat}
theorem fs_par {i j : Nat} {px py pt : Pos} {kt k2 pt2} (hc : X.calm = true) (hN : X.N.Nodup) (hi : X.N[i]? = some x) (hj : X.N[j]? = some y) (hij : i ≠ j)
    (hx : X.env.scope.names.lookup x = some .local) (hy : X.env.scope.names.lookup y = some .local) (ha : PE X a (rdE X.K W ma)) (hb : PE X b (rdE X.K W mb))
    (hw : swappedStores [.Tuple [.Name x px, .Name y py] kt pt] (.Tuple [a, b] k2 pt2) X.env = pure (some [x, y]))
    (hs : swapsWithSole [.Tuple [.Name x px, .Name y py] kt pt] (.Tuple [a, b] k2 pt2) pos.line X.env = pure false := by rfl) (h1 : starEach [a, b] X.env = (false, eval a X.env) :: starEach [b] X.env := by rfl) (h2 : starEach [b] X.env = (false, eval b X.env) :: starEach [] X.env := by rfl) :
    PS X (.Assign [.Tuple [.Name x px, .Name y py] kt pt] (.Tuple [a, b] k2 pt2) pos) (rdS X.K W (mPar i j ma mb)) := PS_imp (ps_par hc hN hi hj hij hx hy (pa_cons ha (pa_cons hb pa_nil h2) h1) hw hs) fun D σ H h => by
  obtain ⟨B, φ, S, ρ, I, E, f⟩ := h
  exact fins_bind I E f fun φ1 S1 d1 v1 H1 I1 X1 E1 r1 f1 => fins_bind I1 E1 f1 fun φ2 S2 d2 v2 H2 I2 X2 E2 r2 f2 => ⟨_, _, rfl, f2 φ2 _ H2 I2 Ext.refl ((E2.set (r1.ext X2 I1) i).set r2 j)⟩
def rrngD (n : Nat) : List PH.D := (List.range n).map fun (k : Nat) => PH.D.int (((n : Nat) : Int) - 1 - (k : Int))
def mRevR1 (a : FE) : FI := fun ρ S => (a ρ S).bind fun x S1 => match x with
  | .dat (.int j) => if -(2 ^ 62) ≤ j ∧ j < 2 ^ 62 then .ok (rrngD j.toNat) S1 else .stuck
  | _ => .stuck
end
end PH

namespace PH
open PySem PySem.Spec PyProof.Rows L2
theorem rd_X1 {K : PySem.W.Frag} {mg : Str → Option Value} {x f : Str} {fs : List Str} {a : Addr} {y : V} {H : Hp} {Q : VK} {D : Ends} (T : XaF K mg x fs) (hf : f ∈ fs) (ha : H a = some (exo a (He.ga K x) none)) (hD : ∀ σ H, D.nx σ H = Q .non H) (h : ∀ dx, H dx = none → dx ≠ a → Q .non (upd (upd H dx (exd dx [(f, y)])) a (exo a (He.ga K x) (some dx)))) :
    tOst K f (cVar 0) (cVar 1) D [some (.ref a), some y] H := ⟨a, He.ga K x, rfl, T.cls, T.no f hf, .inl ⟨ha, fun dx n ne => by rw [hD]; exact h dx n ne⟩⟩
/-- what the head must tell for isinstance(x, C) -/
def isB (K : PySem.W.Frag) (C : Str) : Bool := decide (PySem.W.findIn K (.ref (He.ga K C)) "__class__" = some (some (.builtin "object.__class__"))) && (decide (PySem.W.specialIn K (.builtin "object.__class__") "__get__" = some (some (.builtin "getset_descriptor.__get__"))) && (decide (PySem.W.takesIn K (.builtin "object.__class__") = some true) && decide (PySem.W.mroIn K (He.ga K C) (.type "object") = some true)))
theorem isB_ok {K : PySem.W.Frag} {C : Str} (h : isB K C = true) (c : Cls K (He.ga K C)) : IsF K C := by
  obtain ⟨h1, h⟩ := He.ba h
  obtain ⟨h2, h⟩ := He.ba h
  obtain ⟨h3, h4⟩ := He.ba h
  exact ⟨c, of_decide_eq_true h1, of_decide_eq_true h2, of_decide_eq_true h3, of_decide_eq_true h4⟩
end PH

namespace PH
open PySem PySem.Spec PyProof.Rows L2
section
variable {α β : Type} {a b c o i e : FE} {r : FA} {t u : FT} {m n : FS} {ρ : Ev} {S : Sto} {x y z : Vl} {f g : Vl → Vl → Sto → Res Vl} {h : Vl → Sto → Res Vl} {md : FD}
theorem g_bind_ok {d : α} {k : α → Sto → Res β} : (Res.ok d S).bind k = k d S := rfl
theorem g_bind_err {x : Er} {k : α → Sto → Res β} : (Res.err x S : Res α).bind k = .err x S := rfl
theorem g_toS_ok {d : α} {k : α → Sto → Out} : (Res.ok d S).toS ρ k = k d S := rfl
theorem g_toS_err {x : Er} {k : α → Sto → Out} : (Res.err x S : Res α).toS ρ k = .err x ρ S := rfl
theorem g_var {k : Nat} : mVar k ρ S = (match lk ρ k with | some d => .ok d S | none => .stuck) := rfl
theorem g_c {d : D} : mC d ρ S = .ok (.dat d) S := rfl
def kOp1 (f : Vl → Vl → Sto → Res Vl) (b : FE) (ρ : Ev) (x : Vl) (S : Sto) : Res Vl := (b ρ S).bind (f x)
theorem g_op : mOp f a b ρ S = (a ρ S).bind (kOp1 f b ρ) := rfl
theorem g_op1 : kOp1 f b ρ x S = (b ρ S).bind (f x) := rfl
theorem g_1 : m1 h a ρ S = (a ρ S).bind h := rfl
theorem g_B : mB a ρ S = (a ρ S).bind unB := rfl
theorem g_unB {k : Bool} : unB (.dat (.bl k)) S = .ok k S := rfl
theorem g_test : mTest a ρ S = (a ρ S).bind tru := rfl
def kAnd (u : FT) (ρ : Ev) (c : Bool) (S : Sto) : Res Bool := if c = true then u ρ S else .ok false S
def kOr (u : FT) (ρ : Ev) (c : Bool) (S : Sto) : Res Bool := if c = true then .ok true S else u ρ S
def kNot (c : Bool) (S : Sto) : Res Bool := .ok (!c) S
theorem g_and : mAnd t u ρ S = (t ρ S).bind (kAnd u ρ) := rfl
theorem g_or : mOr t u ρ S = (t ρ S).bind (kOr u ρ) := rfl
theorem g_not : mNot t ρ S = (t ρ S).bind kNot := rfl
theorem g_kand_t : kAnd u ρ true S = u ρ S := rfl
theorem g_kand_f : kAnd u ρ false S = .ok false S := rfl
theorem g_kor_t : kOr u ρ true S = .ok true S := rfl
theorem g_kor_f : kOr u ρ false S = u ρ S := rfl
theorem g_knot {c : Bool} : kNot c S = .ok (!c) S := rfl
def kAndV (b : FE) (ρ : Ev) (x : Vl) (S : Sto) : Res Vl := match x with
  | .dat (.bl c) => if c = true then b ρ S else .ok (.dat (.bl false)) S
  | _ => .stuck
def kOrV (b : FE) (ρ : Ev) (x : Vl) (S : Sto) : Res Vl := match x with
  | .dat (.bl c) => if c = true then .ok (.dat (.bl true)) S else b ρ S
  | _ => .stuck
theorem g_andV : mAndV a b ρ S = (a ρ S).bind (kAndV b ρ) := rfl
theorem g_orV : mOrV a b ρ S = (a ρ S).bind (kOrV b ρ) := rfl
theorem g_kandV_t : kAndV b ρ (.dat (.bl true)) S = b ρ S := rfl
theorem g_kandV_f : kAndV b ρ (.dat (.bl false)) S = .ok (.dat (.bl false)) S := rfl
theorem g_korV_t : kOrV b ρ (.dat (.bl true)) S = .ok (.dat (.bl true)) S := rfl
theorem g_korV_f : kOrV b ρ (.dat (.bl false)) S = b ρ S := rfl
def kNV (k : Bool) (S : Sto) : Res Vl := .ok (.dat (.bl (!k))) S
def kNotV (x : Vl) (S : Sto) : Res Vl := (tru x S).bind kNV
theorem g_notV : mNotV a ρ S = (a ρ S).bind kNotV := rfl
theorem g_kNotV : kNotV x S = (tru x S).bind kNV := rfl
theorem g_kNV {k : Bool} : kNV k S = .ok (.dat (.bl (!k))) S := rfl
def kOrT2 (b : FE) (ρ : Ev) (x : Vl) (k : Bool) (S : Sto) : Res Vl := if k = true then .ok x S else b ρ S
def kOrT (b : FE) (ρ : Ev) (x : Vl) (S : Sto) : Res Vl := (tru x S).bind (kOrT2 b ρ x)
theorem g_orT : mOrT a b ρ S = (a ρ S).bind (kOrT b ρ) := rfl
theorem g_kOrT : kOrT b ρ x S = (tru x S).bind (kOrT2 b ρ x) := rfl
theorem g_kOrT_t : kOrT2 b ρ x true S = .ok x S := rfl
theorem g_kOrT_f : kOrT2 b ρ x false S = b ρ S := rfl
theorem g_tru_bl {k : Bool} : tru (.dat (.bl k)) S = .ok k S := rfl
def kCh3 (g : Vl → Vl → Sto → Res Vl) (c : FE) (ρ : Ev) (y z : Vl) (S : Sto) : Res Vl := match z with
  | .dat (.bl k) => if k = true then (c ρ S).bind (g y) else .ok (.dat (.bl false)) S
  | _ => .stuck
def kCh2 (f g : Vl → Vl → Sto → Res Vl) (c : FE) (ρ : Ev) (x y : Vl) (S : Sto) : Res Vl := (f x y S).bind (kCh3 g c ρ y)
def kCh1 (f g : Vl → Vl → Sto → Res Vl) (b c : FE) (ρ : Ev) (x : Vl) (S : Sto) : Res Vl := (b ρ S).bind (kCh2 f g c ρ x)
theorem g_chain : mChain f g a b c ρ S = (a ρ S).bind (kCh1 f g b c ρ) := rfl
theorem g_ch1 : kCh1 f g b c ρ x S = (b ρ S).bind (kCh2 f g c ρ x) := rfl
theorem g_ch2 : kCh2 f g c ρ x y S = (f x y S).bind (kCh3 g c ρ y) := rfl
theorem g_ch3_t : kCh3 g c ρ y (.dat (.bl true)) S = (c ρ S).bind (g y) := rfl
theorem g_ch3_f : kCh3 g c ρ y (.dat (.bl false)) S = .ok (.dat (.bl false)) S := rfl
def kIf (a b : FE) (ρ : Ev) (c : Bool) (S : Sto) : Res Vl := if c = true then a ρ S else b ρ S
theorem g_if : mIf t a b ρ S = (t ρ S).bind (kIf a b ρ) := rfl
theorem g_kif_t : kIf a b ρ true S = a ρ S := rfl
theorem g_kif_f : kIf a b ρ false S = b ρ S := rfl
theorem g_nil : mNil ρ S = .ok [] S := rfl
def kCons2 (x : Vl) (xs : List Vl) (S : Sto) : Res (List Vl) := .ok (x :: xs) S
def kCons1 (r : FA) (ρ : Ev) (x : Vl) (S : Sto) : Res (List Vl) := (r ρ S).bind (kCons2 x)
theorem g_cons : mCons a r ρ S = (a ρ S).bind (kCons1 r ρ) := rfl
theorem g_cons1 : kCons1 r ρ x S = (r ρ S).bind (kCons2 x) := rfl
theorem g_cons2 {xs : List Vl} : kCons2 x xs S = .ok (x :: xs) S := rfl
def kLst (cl : Bool) (xs : List Vl) (S : Sto) : Res Vl := match allD xs with
  | some ds => if ds.length ≤ sizeLine then newL cl ds S else .stuck
  | none => .stuck
def kTup (xs : List Vl) (S : Sto) : Res Vl := match allD xs with
  | some ds => if ds.length ≤ sizeLine then .ok (.dat (.tup ds)) S else .stuck
  | none => .stuck
theorem g_lst {cl : Bool} : mLst cl r ρ S = (r ρ S).bind (kLst cl) := rfl
theorem g_tup : mTup r ρ S = (r ρ S).bind kTup := rfl
theorem g_allD_nil : allD [] = some [] := rfl
theorem g_allD_cons {d : D} {xs : List Vl} : allD (.dat d :: xs) = (match allD xs with | some ds => some (d :: ds) | none => none) := rfl
theorem kTup0 : kTup [] S = .ok (.dat (.tup [])) S := rfl
theorem kTup1 {d : D} : kTup [.dat d] S = .ok (.dat (.tup [d])) S := rfl
theorem kTup2 {d e : D} : kTup [.dat d, .dat e] S = .ok (.dat (.tup [d, e])) S := rfl
theorem kTup3 {d e f : D} : kTup [.dat d, .dat e, .dat f] S = .ok (.dat (.tup [d, e, f])) S := rfl
theorem kTup4 {d e f g : D} : kTup [.dat d, .dat e, .dat f, .dat g] S = .ok (.dat (.tup [d, e, f, g])) S := rfl
theorem kLst0 {cl : Bool} : kLst cl [] S = newL cl [] S := rfl
theorem kLst1 {cl : Bool} {d : D} : kLst cl [.dat d] S = newL cl [d] S := rfl
theorem kLst2 {cl : Bool} {d e : D} : kLst cl [.dat d, .dat e] S = newL cl [d, e] S := rfl
theorem kLst3 {cl : Bool} {d e f : D} : kLst cl [.dat d, .dat e, .dat f] S = newL cl [d, e, f] S := rfl
theorem g_newF {ds : List D} : newL false ds S = .ok (.dat (.lst ds)) S := rfl
theorem g_newT {ds : List D} : newL true ds S = .ok (.cel S.length) (S ++ [.lst ds]) := rfl
theorem g_call : mCall md r ρ S = (r ρ S).bind md := rfl
def kSl2 (cl : Bool) (x : Vl) (lo : Option Int) (hi : Option Int) (S : Sto) : Res Vl := fSl cl x lo hi S
def kSl1 (cl : Bool) (h : FO) (ρ : Ev) (x : Vl) (lo : Option Int) (S : Sto) : Res Vl := (h ρ S).bind (kSl2 cl x lo)
def kSl0 (cl : Bool) (l h : FO) (ρ : Ev) (x : Vl) (S : Sto) : Res Vl := (l ρ S).bind (kSl1 cl h ρ x)
theorem g_sl {cl : Bool} {l h : FO} : mSl cl a l h ρ S = (a ρ S).bind (kSl0 cl l h ρ) := rfl
theorem g_sl0 {cl : Bool} {l h : FO} : kSl0 cl l h ρ x S = (l ρ S).bind (kSl1 cl h ρ x) := rfl
theorem g_sl1 {cl : Bool} {h : FO} {lo : Option Int} : kSl1 cl h ρ x lo S = (h ρ S).bind (kSl2 cl x lo) := rfl
theorem g_sl2 {cl : Bool} {lo hi : Option Int} : kSl2 cl x lo hi S = fSl cl x lo hi S := rfl
theorem g_noP : mNoP ρ S = .ok none S := rfl
def kPart (x : Vl) (S : Sto) : Res (Option Int) := match x with
  | .dat (.int i) => .ok (some i) S
  | _ => .stuck
theorem g_part : mPart a ρ S = (a ρ S).bind kPart := rfl
theorem g_kPart {i : Int} : kPart (.dat (.int i)) S = .ok (some i) S := rfl
def kFrz (x : Vl) (S : Sto) : Res Vl := match x with
  | .cel n => (match S[n]? with
    | some (.lst ds) => .ok (.dat (.lst ds)) (S.set n .dead)
    | _ => .stuck)
  | _ => .stuck
theorem g_frz : mFrz a ρ S = (a ρ S).bind kFrz := rfl
theorem g_kFrz {n : Nat} {ds : List D} (h : S[n]? = some (.lst ds)) : kFrz (.cel n) S = .ok (.dat (.lst ds)) (S.set n .dead) := by simp only [kFrz, h]
def kApp (b : FE) (ρ : Ev) (x : Vl) (S : Sto) : Res Vl := match seqL S x with
  | some _ => (b ρ S).bind (fApp x)
  | none => .stuck
theorem g_app : mApp a b ρ S = (a ρ S).bind (kApp b ρ) := rfl
theorem g_kApp {n : Nat} {ds : List D} (h : S[n]? = some (.lst ds)) : kApp b ρ (.cel n) S = (b ρ S).bind (fApp (.cel n)) := by simp only [kApp, seqL, h]
theorem g_fApp {n : Nat} {ds : List D} {d : D} (h : S[n]? = some (.lst ds)) (hl : ds.length < sizeLine) : fApp (.cel n) (.dat d) S = .ok (.dat .non) (S.set n (.lst (ds ++ [d]))) := by simp only [fApp, h, hl, if_true]
def Out.seq (o : Out) (n : FS) : Out := match o with
  | .next ρ S => n ρ S
  | o => o
theorem g_seq : mSeq m n ρ S = (m ρ S).seq n := rfl
theorem g_seq_next : (Out.next ρ S).seq n = n ρ S := rfl
theorem g_seq_ret {d : Vl} : (Out.ret d S).seq n = .ret d S := rfl
theorem g_seq_err {x : Er} : (Out.err x ρ S).seq n = .err x ρ S := rfl
theorem g_seq_brk : (Out.brk ρ S).seq n = .brk ρ S := rfl
theorem g_seq_cnt : (Out.cnt ρ S).seq n = .cnt ρ S := rfl
theorem g_skip : mSkip ρ S = .next ρ S := rfl
def kRet (d : Vl) (S : Sto) : Out := .ret d S
theorem g_ret : mRet a ρ S = (a ρ S).toS ρ kRet := rfl
theorem g_kRet {d : Vl} : kRet d S = .ret d S := rfl
def kDrop (ρ : Ev) (d : Vl) (S : Sto) : Out := .next ρ S
theorem g_drop : mDrop a ρ S = (a ρ S).toS ρ (kDrop ρ) := rfl
theorem g_kDrop {d : Vl} : kDrop ρ d S = .next ρ S := rfl
def kIfS (m n : FS) (ρ : Ev) (c : Bool) (S : Sto) : Out := if c = true then m ρ S else n ρ S
theorem g_ifS : mIfS t m n ρ S = (t ρ S).toS ρ (kIfS m n ρ) := rfl
theorem g_kIfS_t : kIfS m n ρ true S = m ρ S := rfl
theorem g_kIfS_f : kIfS m n ρ false S = n ρ S := rfl
def kAsg (t : Tg) (ρ : Ev) (d : Vl) (S : Sto) : Out := match tgF t d ρ with
  | some ρ' => .next ρ' S
  | none => .stuck
theorem g_asg {t : Tg} : mAsg a t ρ S = (a ρ S).toS ρ (kAsg t ρ) := rfl
theorem g_kAsg {k : Nat} {d : Vl} : kAsg (.nm k) ρ d S = .next (ρ.set k (some d)) S := rfl
theorem g_kAsg2 {i j : Nat} {d e : D} : kAsg (.tp [i, j]) ρ (.dat (.tup [d, e])) S = .next ((ρ.set i (some (.dat d))).set j (some (.dat e))) S := rfl
theorem g_kAsg3 {i j k : Nat} {d e f : D} : kAsg (.tp [i, j, k]) ρ (.dat (.tup [d, e, f])) S = .next (((ρ.set i (some (.dat d))).set j (some (.dat e))).set k (some (.dat f))) S := rfl
def kFor (t : Tg) (m : FS) (ρ : Ev) (ds : List D) (S : Sto) : Out := loop t m ds ρ S
theorem g_for {mi : FI} {t : Tg} : mFor mi t m ρ S = (mi ρ S).toS ρ (kFor t m ρ) := rfl
theorem g_kFor {t : Tg} {ds : List D} : kFor t m ρ ds S = loop t m ds ρ S := rfl
def kLc (cl : Bool) (t : Tg) (u : FT) (e : FE) (ρ : Ev) (vs : List Nat) (ds : List D) (S : Sto) : Res Vl := if ds.length ≤ sizeLine then (match lcGo t u e (wipeE ρ vs) ds S with
  | .ok es S2 => newL cl es S2
  | _ => .stuck) else .stuck
theorem g_lc {cl : Bool} {mi : FI} {t : Tg} {vs : List Nat} : mLc cl mi t u e vs ρ S = (mi ρ S).bind (kLc cl t u e ρ vs) := rfl
theorem g_seqI : mSeqI a ρ S = (a ρ S).bind itemsOf := rfl
theorem g_itemsL {ds : List D} : itemsOf (.dat (.lst ds)) S = .ok ds S := rfl
theorem g_itemsT {ds : List D} : itemsOf (.dat (.tup ds)) S = .ok ds S := rfl
def kRng1 (x : Vl) (S : Sto) : Res (List D) := match x with
  | .dat (.int j) => if -(2 ^ 62) ≤ j ∧ j < 2 ^ 62 then .ok (rngD 0 j.toNat) S else .stuck
  | _ => .stuck
theorem g_rng1 : mRng1 a ρ S = (a ρ S).bind kRng1 := rfl
theorem g_kRng1 {j : Int} (h1 : -(2 ^ 62) ≤ j) (h2 : j < 2 ^ 62) : kRng1 (.dat (.int j)) S = .ok (rngD 0 j.toNat) S := by unfold kRng1; exact if_pos ⟨h1, h2⟩
def kRev1 (x : Vl) (S : Sto) : Res (List D) := match x with
  | .dat (.int j) => if -(2 ^ 62) ≤ j ∧ j < 2 ^ 62 then .ok (rrngD j.toNat) S else .stuck
  | _ => .stuck
theorem g_revR1 : mRevR1 a ρ S = (a ρ S).bind kRev1 := rfl
def kEnum (x : Vl) (S : Sto) : Res (List D) := match x with
  | .dat (.lst ds) => .ok (enumD 0 ds) S
  | _ => .stuck
theorem g_enum : mEnum a ρ S = (a ρ S).bind kEnum := rfl
theorem g_kEnum {ds : List D} : kEnum (.dat (.lst ds)) S = .ok (enumD 0 ds) S := rfl
def Out.wipe (o : Out) (is : List Nat) : Out := match o with
  | .next ρ S => .next (wipeE ρ is) S
  | .cnt ρ S => .cnt (wipeE ρ is) S
  | .brk ρ S => .brk (wipeE ρ is) S
  | o => o
theorem g_wipe {is : List Nat} : mWipe is m ρ S = (m ρ S).wipe is := by unfold mWipe Out.wipe; cases m ρ S <;> rfl
theorem g_wipe_next {is : List Nat} : (Out.next ρ S).wipe is = .next (wipeE ρ is) S := rfl
theorem g_wipe_ret {is : List Nat} {d : Vl} : (Out.ret d S).wipe is = .ret d S := rfl
theorem g_wipe_err {is : List Nat} {x : Er} : (Out.err x ρ S).wipe is = .err x ρ S := rfl
theorem g_addI {cl : Bool} {i j : Int} : fAdd cl (.dat (.int i)) (.dat (.int j)) S = .ok (.dat (.int (i + j))) S := rfl
theorem g_subI {i j : Int} : fSub (.dat (.int i)) (.dat (.int j)) S = .ok (.dat (.int (i - j))) S := rfl
theorem g_modI {i j : Int} (h : 0 < j) : fMod (.dat (.int i)) (.dat (.int j)) S = .ok (.dat (.int (i % j))) S := if_pos h
theorem g_mulI {i j : Int} (h : IntMulOk i j) : fMul (.dat (.int i)) (.dat (.int j)) S = .ok (.dat (.int (i * j))) S := if_pos h
theorem g_fdivI {i j : Int} (h : CDiv i j) : fFdiv (.dat (.int i)) (.dat (.int j)) S = .ok (.dat (.int (i / j))) S := if_pos h
theorem g_ltI {i j : Int} : fLt (.dat (.int i)) (.dat (.int j)) S = .ok (.dat (.bl (decide (i < j)))) S := rfl
theorem g_leI {i j : Int} : fLe (.dat (.int i)) (.dat (.int j)) S = .ok (.dat (.bl (decide (i ≤ j)))) S := rfl
theorem g_gtI {i j : Int} : fGt (.dat (.int i)) (.dat (.int j)) S = .ok (.dat (.bl (decide (j < i)))) S := rfl
theorem g_geI {i j : Int} : fGe (.dat (.int i)) (.dat (.int j)) S = .ok (.dat (.bl (decide (j ≤ i)))) S := rfl
theorem g_eqI {i j : Int} : fEq (.dat (.int i)) (.dat (.int j)) S = .ok (.dat (.bl (decide (i = j)))) S := rfl
theorem g_neI {i j : Int} : fNe (.dat (.int i)) (.dat (.int j)) S = .ok (.dat (.bl (!decide (i = j)))) S := rfl
theorem g_eqS {i j : Str} : fEq (.dat (.str i)) (.dat (.str j)) S = .ok (.dat (.bl (decide (i = j)))) S := rfl
theorem g_neS {i j : Str} : fNe (.dat (.str i)) (.dat (.str j)) S = .ok (.dat (.bl (!decide (i = j)))) S := rfl
theorem g_eqB {i j : Bool} : fEq (.dat (.bl i)) (.dat (.bl j)) S = .ok (.dat (.bl (i == j))) S := by cases i <;> cases j <;> rfl
theorem g_neB {i j : Bool} : fNe (.dat (.bl i)) (.dat (.bl j)) S = .ok (.dat (.bl (!(i == j)))) S := by cases i <;> cases j <;> rfl
theorem g_neg {i : Int} : fNeg (.dat (.int i)) S = .ok (.dat (.int (-i))) S := rfl
theorem g_intI {i : Int} : fInt (.dat (.int i)) S = .ok (.dat (.int i)) S := rfl
theorem g_intB {k : Bool} : fInt (.dat (.bl k)) S = .ok (.dat (.int (if k then 1 else 0))) S := rfl
theorem g_lenT {xs : List D} : fLen (.dat (.tup xs)) S = .ok (.dat (.int xs.length)) S := rfl
theorem g_lenL {xs : List D} : fLen (.dat (.lst xs)) S = .ok (.dat (.int xs.length)) S := rfl
theorem g_lenC {n : Nat} {xs : List D} (h : S[n]? = some (.lst xs)) : fLen (.cel n) S = .ok (.dat (.int xs.length)) S := by simp only [fLen, seqL, h]
theorem g_ixT {xs : List D} {k : Int} {d : D} (h : atI xs k = some d) : fIx (.dat (.tup xs)) (.dat (.int k)) S = .ok (.dat d) S := by simp only [fIx, h]
theorem g_ixL {xs : List D} {k : Int} {d : D} (h : atI xs k = some d) : fIx (.dat (.lst xs)) (.dat (.int k)) S = .ok (.dat d) S := by simp only [fIx, seqL, h]
theorem g_ixC {n : Nat} {xs : List D} {k : Int} {d : D} (h : S[n]? = some (.lst xs)) (h2 : atI xs k = some d) : fIx (.cel n) (.dat (.int k)) S = .ok (.dat d) S := by simp only [fIx, seqL, h, h2]
theorem g_addT {cl : Bool} {xs ys : List D} (h : xs.length + ys.length ≤ sizeLine) : fAdd cl (.dat (.tup xs)) (.dat (.tup ys)) S = .ok (.dat (.tup (xs ++ ys))) S := if_pos h
theorem g_addL {cl : Bool} {xs ys : List D} (h : xs.length + ys.length ≤ sizeLine) : fAdd cl (.dat (.lst xs)) (.dat (.lst ys)) S = newL cl (xs ++ ys) S := by simp only [fAdd, seqL, h, if_true]
theorem g_isN {neg : Bool} : fIsN neg x (.dat .non) S = .ok (.dat (.bl (if neg then !(isNon x) else isNon x))) S := rfl
theorem atI_nat' {α : Type} {xs : List α} {k : Int} {n : Nat} (h : k = (n : Int)) : atI xs k = xs[n]? := by
  subst h
  unfold atI ixN
  by_cases hl : n < xs.length
  · rw [if_pos (by omega), if_pos (by omega)]; simp
  · rw [if_pos (by omega), if_neg (by omega)]
    simp [Nat.le_of_not_lt hl]
theorem g_yes : mYes ρ S = .ok true S := rfl
theorem g_truL {xs : List D} : tru (.dat (.lst xs)) S = .ok (!xs.isEmpty) S := rfl
theorem g_truI {i : Int} : tru (.dat (.int i)) S = .ok (i != 0) S := rfl
theorem g_isNon_tup {xs : List D} : isNon (.dat (.tup xs)) = false := rfl
theorem g_isNon_non : isNon (.dat .non) = true := rfl
theorem g_slT {cl : Bool} {xs : List D} {lo hi : Option Int} : fSl cl (.dat (.tup xs)) lo hi S = .ok (.dat (.tup (cutD xs lo hi))) S := rfl
theorem g_slL {cl : Bool} {xs : List D} {lo hi : Option Int} : fSl cl (.dat (.lst xs)) lo hi S = newL cl (cutD xs lo hi) S := rfl
theorem g_slS {cl : Bool} {ns : List Int} {lo hi : Option Int} : fSl cl (.scr ns) lo hi S = newL cl (cutD (ns.map D.int) lo hi) S := rfl
theorem g_listL {cl : Bool} {xs : List D} : fList cl (.dat (.lst xs)) S = newL cl xs S := rfl
theorem g_listT {cl : Bool} {xs : List D} : fList cl (.dat (.tup xs)) S = newL cl xs S := rfl
theorem g_tupleL {xs : List D} : fTuple (.dat (.lst xs)) S = .ok (.dat (.tup xs)) S := rfl
end
section
variable {a b o : FE} {r : FA} {m n : FS} {ρ : Ev} {S : Sto} {x y : Vl} {md : FD} {C f : Str} {ns : List Str}
theorem g_raise : mRaise C ρ S = .err ⟨C, [], []⟩ ρ S := rfl
def kRaiseA (C : Str) (ns : List Str) (ρ : Ev) (xs : List Vl) (S : Sto) : Out := match allD xs with
  | some ds => if ds.length = ns.length then .err ⟨C, ns, ds.reverse⟩ ρ S else .stuck
  | none => .stuck
theorem g_raiseA : mRaiseA C ns r ρ S = (r ρ S).toS ρ (kRaiseA C ns ρ) := rfl
theorem g_kRaise1 {f : Str} {d : D} : kRaiseA C [f] ρ [.dat d] S = .err ⟨C, [f], [d]⟩ ρ S := rfl
theorem g_kRaise2 {f g : Str} {d e : D} : kRaiseA C [f, g] ρ [.dat d, .dat e] S = .err ⟨C, [f, g], [e, d]⟩ ρ S := rfl
def kSetF2 (C f : Str) (ρ : Ev) (d x : Vl) (S : Sto) : Out := match setF S C f x d with
  | some S3 => .next ρ S3
  | none => .stuck
def kSetF (C f : Str) (o : FE) (ρ : Ev) (d : Vl) (S : Sto) : Out := (o ρ S).toS ρ (kSetF2 C f ρ d)
theorem g_setF : mSetF C f o a ρ S = (a ρ S).toS ρ (kSetF C f o ρ) := rfl
theorem g_kSetF {d : Vl} : kSetF C f o ρ d S = (o ρ S).toS ρ (kSetF2 C f ρ d) := rfl
theorem g_kSetF2 {n : Nat} {d : Vl} {fs : List (Str × Vl)} (h : S[n]? = some (.ins C fs)) (hl : fs.length < 1000) : kSetF2 C f ρ d (.cel n) S = .next ρ (S.set n (.ins C (putFV f d fs))) := by simp only [kSetF2, setF, h, true_and, hl, if_true]
def kMake (kp : Bool) (C : Str) (md : FD) (ds : List Vl) (S : Sto) : Res Vl := made kp S.length (md (.cel S.length :: ds) (S ++ [.ins C []]))
theorem g_make {kp : Bool} : mMake kp C md r ρ S = (r ρ S).bind (kMake kp C md) := rfl
def kMeth2 (md : FD) (x : Vl) (ds : List Vl) (S : Sto) : Res Vl := md (x :: ds) S
def kMeth (C f : Str) (md : FD) (r : FA) (ρ : Ev) (x : Vl) (S : Sto) : Res Vl := if isIns S C f x = true then (r ρ S).bind (kMeth2 md x) else .stuck
theorem g_meth : mMeth C f md o r ρ S = (o ρ S).bind (kMeth C f md r ρ) := rfl
theorem g_kMeth (h : isIns S C f x = true) : kMeth C f md r ρ x S = (r ρ S).bind (kMeth2 md x) := if_pos h
theorem g_kMeth2 {ds : List Vl} : kMeth2 md x ds S = md (x :: ds) S := rfl
def kFld (C f : Str) (x : Vl) (S : Sto) : Res Vl := match fldOf S C f x with
  | some d => .ok d S
  | none => .stuck
theorem g_fld : mFld C f o ρ S = (o ρ S).bind (kFld C f) := rfl
theorem g_kFldD {ns : List Str} {xs : List D} : kFld C f (.dat (.ins C ns xs)) S = (match (ns.zip xs).lookup f with | some d => .ok (.dat d) S | none => .stuck) := by
  simp only [kFld, fldOf, if_true]
  cases (ns.zip xs).lookup f <;> rfl
/-- a try -/
def Out.tryA (o : Out) (cs : List Str) (c : Str) (k : Nat) (its : List XIt) : Out := match o with
  | .err e ρ' S' => if (e.cls ∈ cs ∧ c ∈ cs) ∧ k < ρ'.length then (if e.cls = c then (match itF e its with
      | some ds => if ds.length ≤ sizeLine then .ret (.dat (.tup ds)) S' else .stuck
      | none => .stuck) else .err e ρ' S') else .stuck
  | o => o
theorem g_tryA {cs : List Str} {c : Str} {k : Nat} {its : List XIt} : mTryA cs m c k its ρ S = (m ρ S).tryA cs c k its := by unfold mTryA Out.tryA; cases m ρ S <;> rfl
theorem g_tryA_next {cs : List Str} {c : Str} {k : Nat} {its : List XIt} : (Out.next ρ S).tryA cs c k its = .next ρ S := rfl
theorem g_tryA_ret {cs : List Str} {c : Str} {k : Nat} {its : List XIt} {d : Vl} : (Out.ret d S).tryA cs c k its = .ret d S := rfl
end
theorem g_cast0 : ((0 : Nat) : Int) = 0 := rfl
theorem g_cast1 : ((1 : Nat) : Int) = 1 := rfl
theorem g_cast2 : ((2 : Nat) : Int) = 2 := rfl
theorem g_cast3 : ((3 : Nat) : Int) = 3 := rfl
theorem g_cast4 : ((4 : Nat) : Int) = 4 := rfl
theorem g_cast5 : ((5 : Nat) : Int) = 5 := rfl
theorem g_cast6 : ((6 : Nat) : Int) = 6 := rfl
theorem g_cast7 : ((7 : Nat) : Int) = 7 := rfl
theorem g_cast8 : ((8 : Nat) : Int) = 8 := rfl
theorem g_cast9 : ((9 : Nat) : Int) = 9 := rfl
theorem g_cast10 : ((10 : Nat) : Int) = 10 := rfl
theorem g_cast11 : ((11 : Nat) : Int) = 11 := rfl
theorem g_cast12 : ((12 : Nat) : Int) = 12 := rfl
theorem g_cast13 : ((13 : Nat) : Int) = 13 := rfl
theorem str_inj {a b : String} (h : Str.ofString a = Str.ofString b) : a = b := by
  rw [Str.ofString_eq_toList, Str.ofString_eq_toList] at h
  injection h with h
  have h2 := congrArg Array.toList h
  simp only at h2
  have : ∀ {l m : List Char}, l.map Char.toNat = m.map Char.toNat → l = m := fun {l} => by
    induction l with
    | nil => intro m h; cases m <;> simp at h ⊢
    | cons c l ih =>
      intro m h
      cases m with
      | nil => simp at h
      | cons d m =>
        simp only [List.map_cons, List.cons.injEq] at h
        rw [ih h.2]
        have : c = d := by
          have := congrArg Char.ofNat h.1
          simpa using this
        rw [this]
  exact String.toList_inj.mp (this h2)
theorem str_eq {a b : String} : (Str.ofString a = Str.ofString b) = (a = b) := propext ⟨str_inj, fun h => by rw [h]⟩
end PH

namespace PH
open PySem PySem.Spec PyProof.Rows L2
/-- a law's end; its defs may let exceptions out -/
theorem walk_x {l : PySem.W.OpenLaw} {n k : Nat} {q : Program} {loose : List Str} {XP : (Str → Option Value) → Heap → Prop} {YP : World → Heap → Prop} {d : DefRec} {x : Str} (e1 : l.most = some n) (e2 : n ≤ sizeLine) (e3 : d.params.defaults = []) (e4 : Room k callerA)
    (e5 : ∀ (w : World) (mg : Str → Option Value) (fa : Addr) (h : Heap), YP w h → h.Ns mainGlobals mg → mg d.name = some (.ref fa) → ∃ (K : PySem.W.Frag) (fd : FuncData) (sp : Sp), K.In h ∧ (∀ (s : Shared) (u : Value), BindsTo s fd ⟨[u], []⟩ [(x, u)]) ∧
      (∀ (H : Hp) (a : Addr) (ns : List Int), ns.length ≤ n → Only H → SqL K H a (ns.map V.int) → sp [.ref a] H (fun v _ => v = .bl true) fun _ _ _ => False) ∧ ∀ base : Heap, K.In base → base.Ns mainGlobals mg → FnOk l.prog w K mg base (L2.CX l.prog w) k fa fd [x] sp) :
    PySem.W.WalkO q loose XP YP l.row.toRowW d [] (fun f vs => PySem.call f vs) :=
  Att.attach_call e1 e3 fun w s0 s1 mg mb fa o pm cd doc a vs ns G Y _ _ _ m1 m2 m3 m4 m5 => by
    obtain ⟨K, fd, sp, KX, hb, hs, hF⟩ := e5 w mg fa _ Y G.T.g m1
    refine law_call KX G.T.g G.T.b G.T.builtins G.T.nolimit m5 m2 m3 (Nat.le_trans m4 e2) e4 hF hb (fun H h1 h2 => hs H a ns m4 h1 h2) fun H e s' z => ?_
    obtain ⟨_, _, _, _, _, _, _, _, _, _, _, _, h⟩ := z
    exact h
end PH

namespace PH
open PySem PySem.Spec PyProof.Rows L2
section
variable {X : Cx} {W : WX} {C : Str} {md : FD} {o i a b : Expr} {mo mi ma mb : FE} {pos p : Pos} {j k : Nat} {ps : List Str} {K : PySem.W.Frag}
def fGetO (C : Str) (md : FD) (x y : Vl) (S : Sto) : Res Vl := if isIns S C "" x = true then md [x, y] S else .stuck
def fInO (C : Str) (md : FD) (y x : Vl) (S : Sto) : Res Vl := if isIns S C "" x = true then boolR (md [x, y] S) else .stuck
theorem boot_sorted : bootBuiltins "sorted" = some (.builtin "sorted") := by decide +kernel
def kRevL (x : Vl) (S : Sto) : Res (List PH.D) := match x with
  | .dat (.lst ds) => .ok ds.reverse S
  | _ => .stuck
def mRevL (a : FE) : FI := fun ρ S => (a ρ S).bind kRevL
def fMin2 (x y : Vl) (S : Sto) : Res Vl := match x, y with
  | .dat (.int i), .dat (.int j) => .ok (.dat (.int (if j < i then j else i))) S
  | _, _ => .stuck
theorem boot_min : bootBuiltins "min" = some (.builtin "min") := by decide +kernel
theorem g_revL {ρ : Ev} {S : Sto} : mRevL ma ρ S = (ma ρ S).bind kRevL := rfl
theorem g_kRevL {S : Sto} {ds : List PH.D} : kRevL (.dat (.lst ds)) S = .ok ds.reverse S := rfl
theorem g_min2 {S : Sto} {x y : Int} : fMin2 (.dat (.int x)) (.dat (.int y)) S = .ok (.dat (.int (if y < x then y else x))) S := rfl
theorem g_getO {S : Sto} {x y : Vl} (h : isIns S C "" x = true) : fGetO C md x y S = md [x, y] S := if_pos h
theorem g_inO {S : Sto} {x y : Vl} (h : isIns S C "" x = true) : fInO C md y x S = boolR (md [x, y] S) := if_pos h
theorem g_boolR {S : Sto} {b : Bool} : boolR (.ok (.dat (.bl b)) S) = .ok (.dat (.bl b)) S := rfl
def mFrzV (k : Nat) : FS := fun ρ S => match lk ρ k with
  | some (.cel n) => (match S[n]? with
    | some (.lst ds) => .next (ρ.set k (some (.dat (.lst ds)))) (S.set n .dead)
    | _ => .stuck)
  | _ => .stuck
theorem set_self {σ : L2.St} {k : Nat} {v : Option L2.V} (h : σ[k]? = some v) : σ.set k v = σ := by
  apply List.ext_getElem?
  intro i
  rw [List.getElem?_set]
  by_cases e : k = i
  · subst e; rw [if_pos rfl, if_pos (List.getElem?_eq_some_iff.mp h).1, h]
  · rw [if_neg e]
theorem g_frzV {k n : Nat} {ρ : Ev} {S : Sto} {ds : List PH.D} (h : lk ρ k = some (.cel n)) (h2 : S[n]? = some (.lst ds)) : mFrzV k ρ S = .next (ρ.set k (some (.dat (.lst ds)))) (S.set n .dead) := by simp only [mFrzV, h, h2]
end
end PH

namespace PH
open PySem PySem.Spec PyProof.Rows L2
open AutoSeq1 (wpAny_loadPart')
section
variable {X : Cx} {W : WX} {a : Expr} {ma : FE} {pos p : Pos}
def mEnumT (a : FE) : FI := fun ρ S => (a ρ S).bind fun x S1 => match x with
  | .dat (.tup ds) => .ok (enumD 0 ds) S1
  | _ => .stuck
def kEnumT (x : Vl) (S : Sto) : Res (List PH.D) := match x with
  | .dat (.tup ds) => .ok (enumD 0 ds) S
  | _ => .stuck
theorem g_enumT {ρ : Ev} {S : Sto} : mEnumT ma ρ S = (ma ρ S).bind kEnumT := rfl
theorem g_kEnumT {S : Sto} {ds : List PH.D} : kEnumT (.dat (.tup ds)) S = .ok (enumD 0 ds) S := rfl
end
end PH

namespace PH
open PySem PySem.Spec PyProof.Rows L2
section
variable {X : Cx} {W : WX} {e a b c o : Expr} {es rest : List Expr} {pos p q p2 tpos apos cpos : Pos} {x y z C f : Str} {K : PySem.W.Frag} {ma mb mc mo me : FE} {mt mu : FT} {mas : FA} {mi mj : FI} {B : Addr → Prop} {φ φ' : List Addr} {S S' : Sto} {H H' : Hp} {σ : L2.St} {Q : VK} {m n : FS} {st : Stmt} {sts : List Stmt} {D : Ends} {t t1 : Tg}
def mLcC (mi : FI) (t : Tg) (vs : List Nat) : FE := fun ρ S => (mi ρ S).bind fun ds S1 => if ds.length ≤ sizeLine ∧ (∀ d ∈ ds, (tgF t (.dat d) (wipeE ρ vs)).isSome = true) then .ok (.cels (List.range' S1.length ds.length)) (S1 ++ List.replicate ds.length (.lst [])) else .stuck
def kLcC (t : Tg) (ρ : Ev) (vs : List Nat) (ds : List PH.D) (S : Sto) : Res Vl := if ds.length ≤ sizeLine ∧ (∀ d ∈ ds, (tgF t (.dat d) (wipeE ρ vs)).isSome = true) then .ok (.cels (List.range' S.length ds.length)) (S ++ List.replicate ds.length (.lst [])) else .stuck
theorem g_lcC {ρ : Ev} {S : Sto} {vs : List Nat} : mLcC mi t vs ρ S = (mi ρ S).bind (kLcC t ρ vs) := rfl
theorem g_kLcC {ρ : Ev} {S : Sto} {vs : List Nat} {k : Nat} {ds : List PH.D} (h : ds.length ≤ sizeLine) : kLcC (.nm k) ρ vs ds S = .ok (.cels (List.range' S.length ds.length)) (S ++ List.replicate ds.length (.lst [])) := if_pos ⟨h, fun _ _ => rfl⟩
def mCallD (md : FD) (dd : PH.D) (as : FA) : FE := fun ρ S => (as ρ S).bind fun ds S1 => md (ds ++ [.dat dd]) S1
theorem RepVs.snoc {B : Addr → Prop} {φ : List Addr} {S : Sto} {H : Hp} : ∀ {ds : List Vl} {vs : List L2.V} {d : Vl} {v : L2.V}, RepVs K B φ S H ds vs → RepV K B φ S H d v → RepVs K B φ S H (ds ++ [d]) (vs ++ [v])
  | [], vs, d, v, h, r => by cases h; exact ⟨v, [], rfl, r, rfl⟩
  | d' :: ds, vs, d, v, ⟨v', ws, e, h1, h2⟩, r => by subst e; exact ⟨v', ws ++ [v], rfl, h1, RepVs.snoc h2 r⟩
def kCallD (md : FD) (dd : PH.D) (ds : List Vl) (S : Sto) : Res Vl := md (ds ++ [.dat dd]) S
theorem g_callD {md : FD} {dd : PH.D} {ρ : Ev} {S : Sto} : mCallD md dd mas ρ S = (mas ρ S).bind (kCallD md dd) := rfl
theorem g_kCallD {md : FD} {dd : PH.D} {ds : List Vl} {S : Sto} : kCallD md dd ds S = md (ds ++ [.dat dd]) S := rfl
def mCallK (n : Nat) (md : FD) (as : FA) (a : FE) : FE := fun ρ S => (as ρ S).bind fun ds S1 => if ds.length = n then (a ρ S1).bind fun d S2 => md (ds ++ [d]) S2 else .stuck
def kCallK2 (md : FD) (ds : List Vl) (d : Vl) (S : Sto) : Res Vl := md (ds ++ [d]) S
def kCallK (n : Nat) (md : FD) (a : FE) (ρ : Ev) (ds : List Vl) (S : Sto) : Res Vl := if ds.length = n then (a ρ S).bind (kCallK2 md ds) else .stuck
theorem g_callK {md : FD} {n : Nat} {ρ : Ev} {S : Sto} : mCallK n md mas ma ρ S = (mas ρ S).bind (kCallK n md ma ρ) := rfl
theorem g_kCallK3 {md : FD} {ρ : Ev} {S : Sto} {x y z : Vl} : kCallK 3 md ma ρ [x, y, z] S = (ma ρ S).bind (kCallK2 md [x, y, z]) := rfl
theorem g_kCallK2 {md : FD} {ds : List Vl} {d : Vl} {S : Sto} : kCallK2 md ds d S = md (ds ++ [d]) S := rfl
end
section
variable {P : Program} {w : World} {K : PySem.W.Frag} {mg : Str → Option Value} {base : Heap}
end
end PH

namespace PH
open PySem PySem.Spec PyProof.Rows L2
def EV0 := And.intro @g_bind_ok (And.intro @g_bind_err (And.intro @g_toS_ok (And.intro @g_toS_err (And.intro @g_var (And.intro @g_c (And.intro @g_op (And.intro @g_op1 (And.intro @g_1 (And.intro @g_B (And.intro @g_unB (And.intro @g_test (And.intro @g_and (And.intro @g_or (And.intro @g_not (And.intro @g_kand_t (And.intro @g_kand_f (And.intro @g_kor_t (And.intro @g_kor_f (And.intro @g_knot (And.intro @g_andV (And.intro @g_orV (And.intro @g_kandV_t (And.intro @g_kandV_f (And.intro @g_korV_t (And.intro @g_korV_f (And.intro @g_notV (And.intro @g_kNotV (And.intro @g_kNV (And.intro @g_orT (And.intro @g_kOrT (And.intro @g_kOrT_t (And.intro @g_kOrT_f (And.intro @g_tru_bl (And.intro @g_chain (And.intro @g_ch1 (And.intro @g_ch2 (And.intro @g_ch3_t (And.intro @g_ch3_f (And.intro @g_if (And.intro @g_kif_t (And.intro @g_kif_f (And.intro @g_nil (And.intro @g_cons (And.intro @g_cons1 (And.intro @g_cons2 (And.intro @g_lst (And.intro @g_tup (And.intro @g_allD_nil (And.intro @g_allD_cons (And.intro @kTup0 (And.intro @kTup1 (And.intro @kTup2 (And.intro @kTup3 (And.intro @kTup4 (And.intro @kLst0 (And.intro @kLst1 (And.intro @kLst2 (And.intro @kLst3 (@g_newF)))))))))))))))))))))))))))))))))))))))))))))))))))))))))))
def EV1 := And.intro @g_newT (And.intro @g_call (And.intro @g_sl (And.intro @g_sl0 (And.intro @g_sl1 (And.intro @g_sl2 (And.intro @g_noP (And.intro @g_part (And.intro @g_kPart (And.intro @g_frz (And.intro @g_app (And.intro @g_seq (And.intro @g_seq_next (And.intro @g_seq_ret (And.intro @g_seq_err (And.intro @g_seq_brk (And.intro @g_seq_cnt (And.intro @g_skip (And.intro @g_ret (And.intro @g_kRet (And.intro @g_drop (And.intro @g_kDrop (And.intro @g_ifS (And.intro @g_kIfS_t (And.intro @g_kIfS_f (And.intro @g_asg (And.intro @g_kAsg (And.intro @g_kAsg2 (And.intro @g_kAsg3 (And.intro @g_for (And.intro @g_kFor (And.intro @g_lc (And.intro @g_seqI (And.intro @g_itemsL (And.intro @g_itemsT (And.intro @g_rng1 (And.intro @g_revR1 (And.intro @g_enum (And.intro @g_kEnum (And.intro @g_wipe (And.intro @g_wipe_next (And.intro @g_wipe_ret (And.intro @g_wipe_err (And.intro @g_addI (And.intro @g_subI (And.intro @g_ltI (And.intro @g_leI (And.intro @g_gtI (And.intro @g_geI (And.intro @g_eqI (And.intro @g_neI (And.intro @g_eqS (And.intro @g_neS (And.intro @g_eqB (And.intro @g_neB (And.intro @g_neg (And.intro @g_intI (And.intro @g_intB (And.intro @g_lenT (@g_lenL)))))))))))))))))))))))))))))))))))))))))))))))))))))))))))
def EV2 := And.intro @g_isN (And.intro @g_yes (And.intro @g_truL (And.intro @g_truI (And.intro @g_isNon_tup (And.intro @g_isNon_non (And.intro @g_slT (And.intro @g_slL (And.intro @g_slS (And.intro @g_listL (And.intro @g_listT (And.intro @g_tupleL (And.intro @g_raise (And.intro @g_raiseA (And.intro @g_kRaise1 (And.intro @g_kRaise2 (And.intro @g_setF (And.intro @g_kSetF (And.intro @g_make (And.intro @g_meth (And.intro @g_kMeth2 (And.intro @g_fld (And.intro @g_kFldD (And.intro @g_tryA (And.intro @g_tryA_next (And.intro @g_tryA_ret (And.intro @g_cast0 (And.intro @g_cast1 (And.intro @g_cast2 (And.intro @g_cast3 (And.intro @g_cast4 (And.intro @g_cast5 (And.intro @g_cast6 (And.intro @g_cast7 (And.intro @g_cast8 (And.intro @g_cast9 (And.intro @g_cast10 (And.intro @g_cast11 (And.intro @g_cast12 (And.intro @g_cast13 (And.intro @g_revL (And.intro @g_kRevL (And.intro @g_min2 (And.intro @g_getO (And.intro @g_inO (And.intro @g_boolR (And.intro @g_frzV (And.intro @g_enumT (And.intro @g_kEnumT (And.intro @g_lcC (And.intro @g_kLcC (And.intro @g_callD (And.intro @g_kCallD (And.intro @g_callK (And.intro @g_kCallK3 (And.intro @g_kCallK2 (@str_eq))))))))))))))))))))))))))))))))))))))))))))))))))))))))
end PH

namespace PH
open PySem PySem.Spec PyProof.Rows L2
/-- a promise that holds where no repr is under way -/
structure FnG (P : Program) (w : World) (K : PySem.W.Frag) (mg : Str → Option Value) (base : Heap) (CX : CXT) (k : Nat) (f : Addr) (fd : FuncData) (ps : List Str) (sp : Sp) : Prop where
  len : ∀ vs H Q E, sp vs H Q E → vs.length = ps.length
  run : ∀ (A : Around) (outer : List Env) (s : Shared) (H : Hp) (args : Args) (us : List Value) (vs : List V) (Q : VK) (E : XK), Room k A → A.guards = some [] → Env0 P w K mg base A outer s H → BindsTo s fd args (ps.zip us) → Vals vs us → sp vs H Q E →
    codeAny (model P w) A (.call (.ref f) args) (CR CX outer P w H s Q E) s
section
variable {P : Program} {w : World} {K : PySem.W.Frag} {mg mb : Str → Option Value} {base : Heap} {CX : CXT} {k j : Nat} {f : Addr} {fd : FuncData} {ps : List Str} {sp : Sp}
theorem FnG.mono (F : FnG P w K mg base CX j f fd ps sp) (h : j ≤ k) : FnG P w K mg base CX k f fd ps sp := ⟨F.len, fun A outer s H args us vs Q E hr => F.run A outer s H args us vs Q E (hr.mono h)⟩
end
section
variable {X : Cx} {W : WX} {e : Expr} {es : List Expr} {pos p : Pos} {x : Str} {mas : FA} {ps : List Str} {md : FD} {j k : Nat} {fd : FuncData} {f : Addr} {sp : Sp}
end
section
variable {P : Program} {w : World} {K : PySem.W.Frag} {mg : Str → Option Value} {base : Heap}
end
end PH

namespace PH
open PySem PySem.Spec PyProof.Rows L2
section
variable {X : Cx} {W : WX} {e a b c o i : Expr} {es rest : List Expr} {pos pos' p q p2 tpos apos cpos : Pos} {x y z C f : Str} {K : PySem.W.Frag} {ma mb mc mo me mi mv : FE} {mt mu : FT} {mas : FA} {B : Addr → Prop} {φ φ' : List Addr} {S S' : Sto} {H H' : Hp} {σ : L2.St} {Q : VK} {m n : FS} {st : Stmt} {sts : List Stmt} {D : Ends} {t t1 : Tg}
end
end PH

namespace PH
open PySem PySem.Spec PyProof.Rows L2
section
variable {X : Cx} {W : WX} {e a b c o i : Expr} {es rest : List Expr} {pos pos' p q p2 tpos apos cpos : Pos} {x y z C f : Str} {K : PySem.W.Frag} {ma mb mc mo me mi mv : FE} {mt mu : FT} {mas : FA} {B : Addr → Prop} {φ φ' : List Addr} {S S' : Sto} {H H' : Hp} {σ : L2.St} {Q : VK} {m n : FS} {st : Stmt} {sts : List Stmt} {D : Ends} {t t1 : Tg}
section
variable {x : Cell} {p : Addr}
end
end
end PH

namespace PH
open PySem PySem.Spec PyProof.Rows L2
theorem st_hu {k : Nat} {A : Around} (r : Room k A) : A.units + 100 < cLine := by have := r.un; omega
section
variable {o i v a b : FE} {ρ : Ev} {S : Sto} {x y d u w : Vl} {g : Vl → Vl → Sto → Res Vl}
end
end PH

namespace PH
open PySem PySem.Spec PyProof.Rows L2
section
variable {X : Cx} {W : WX} {e a b c o i : Expr} {es rest : List Expr} {pos pos' p q p2 tpos apos cpos : Pos} {x y z C f : Str} {K : PySem.W.Frag} {ma mb mc mo me mi mv : FE} {mt mu : FT} {mas : FA} {B : Addr → Prop} {φ φ' : List Addr} {S S' : Sto} {H H' : Hp} {σ : L2.St} {Q : VK} {m n : FS} {st : Stmt} {sts : List Stmt} {D : Ends} {t t1 : Tg}
def fInL (x y z : Vl) (S : Sto) : Res Vl := match x, y, z with
  | .cel n, .dat (.int k), .dat d => (match S[n]? with
    | some (.lst ds) => if ds.length < sizeLine ∧ 0 ≤ k ∧ k < 2 ^ 63 then .ok (.dat .non) (S.set n (.lst (ds.take k.toNat ++ [d] ++ ds.drop k.toNat))) else .stuck
    | _ => .stuck)
  | _, _, _ => .stuck
def mIns (a i b : FE) : FE := fun ρ S => (a ρ S).bind fun x S1 => match seqL S1 x with
  | some _ => (i ρ S1).bind fun y S2 => (b ρ S2).bind fun z S3 => fInL x y z S3
  | none => .stuck
theorem f_ins (ha : PE X a (rdE X.K W ma)) (hi : PE X i (rdE X.K W mi)) (hb : PE X b (rdE X.K W mb)) (hs : starEach [i, b] X.env = (false, eval i X.env) :: starEach [b] X.env := by rfl) (hs2 : starEach [b] X.env = (false, eval b X.env) :: starEach [] X.env := by rfl) (hbase : attributeBase a "insert" X.env (eval a X.env) = eval a X.env := by rfl) (hline : (apos.endLine == cpos.line) = true := by rfl)
    (hfew : ((backTo cpos (starEach [i, b] X.env)).all (fun x => !x.1) && (backToKw cpos (keywordEach [] X.env)).all (fun x => x.1.isSome)
      && decide ([i, b].length + ([] : List Keyword).length + (if ([] : List Keyword).isEmpty then 0 else 1) < 30)) = true := by rfl)
    (hpl : (backTo cpos (starEach [b] X.env)).any (·.1) = false := by rfl) : PE X (.Call (.Attribute a "insert" apos) [i, b] [] cpos) (rdE X.K W (mIns ma mi mb)) :=
  PE_imp (pe_bm PySem.F.plainAttrs_list PySem.F.slot_list_insert PySem.F.type_list_insert mt_insert ha (pa_cons hi (pa_cons hb pa_nil hs2) hs) hbase hfew hline hs hpl) fun σ H Q h =>
    rd_bind (k := fun x ρ S1 => match seqL S1 x with | some _ => (mi ρ S1).bind fun y S2 => (mb ρ S2).bind fun z S3 => fInL x y z S3 | none => .stuck) h fun B φ S ρ d v H1 I E r f => by
      split at f
      · rename_i ds q
        refine ⟨app_ty (e := d) I r ⟨ds, q⟩, fin_bind (k := fun y S2 => (mb ρ S2).bind fun z S3 => fInL d y z S3) I E f fun φ' S' d2 v2 H2 I2 X2 E2 r2 f2 => fin_bind (k := fun z S3 => fInL d d2 z S3) I2 E2 f2 fun φ3 S3 d3 v3 H3 I3 X3 E3 r3 f3 => ?_⟩
        have r' := (r.ext X2 I).ext X3 I2
        have r2' := r2.ext X3 I2
        unfold fInL at f3
        split at f3
        · rename_i n k d
          obtain ⟨a, rfl, h1⟩ := r'
          obtain rfl : v2 = .int k := r2'
          split at f3
          · rename_i ds q
            obtain ⟨vs, h2, l⟩ := I3.ok n _ a q h1
            split at f3
            · rename_i hc
              exact ⟨a, vs, k, v3, rfl, rfl, h2, by rw [l.len]; exact hc.1, hc.2.1, hc.2.2, cell_put (v := .non) (v' := .non) (d' := .dat .non) (vs := vs) I3 q h1 (((l.take _).snoc r3).append (l.drop _)) rfl f3⟩
            · exact f3.elim
          · exact f3.elim
        · exact f3.elim
      · exact f.elim
end
def kIns2 (b : FE) (ρ : Ev) (x y : Vl) (S : Sto) : Res Vl := (b ρ S).bind (fInL x y)
def kIns1 (i b : FE) (ρ : Ev) (x : Vl) (S : Sto) : Res Vl := match seqL S x with
  | some _ => (i ρ S).bind (kIns2 b ρ x)
  | none => .stuck
theorem g_ins {a i b : FE} {ρ : Ev} {S : Sto} : mIns a i b ρ S = (a ρ S).bind (kIns1 i b ρ) := rfl
theorem g_kIns1 {i b : FE} {ρ : Ev} {S : Sto} {n : Nat} {ds : List D} (h : S[n]? = some (.lst ds)) : kIns1 i b ρ (.cel n) S = (i ρ S).bind (kIns2 b ρ (.cel n)) := by
  unfold kIns1 seqL
  simp only [h]
theorem g_kIns2 {b : FE} {ρ : Ev} {S : Sto} {x y : Vl} : kIns2 b ρ x y S = (b ρ S).bind (fInL x y) := rfl
theorem g_fInL {S : Sto} {n k : Nat} {ds : List D} {d : D} (h : S[n]? = some (.lst ds)) (hl : ds.length < sizeLine) (hk : k ≤ 1000000) : fInL (.cel n) (.dat (.int (k : Int))) (.dat d) S = .ok (.dat .non) (S.set n (.lst (ds.take k ++ [d] ++ ds.drop k))) := by
  unfold fInL
  simp only [h]
  rw [if_pos ⟨hl, by omega, by omega⟩, Int.toNat_natCast]
end PH

namespace PH
open PySem PySem.Spec PyProof.Rows L2
section
variable {X : Cx} {W : WX} {e a b c o i : Expr} {es rest : List Expr} {pos pos' p q p2 tpos apos cpos : Pos} {x y z C f : Str} {K : PySem.W.Frag} {ma mb mc mo me mi mv : FE} {mt mu : FT} {mas : FA} {B : Addr → Prop} {φ φ' : List Addr} {S S' : Sto} {H H' : Hp} {σ : L2.St} {Q : VK} {m n : FS} {st : Stmt} {sts : List Stmt} {D : Ends} {t t1 : Tg}
end
section
variable {ma mb : FE} {ρ : Ev} {S : Sto} {x : Vl}
end
end PH

namespace PH
open PySem PySem.Spec PyProof.Rows L2
section
variable {X : Cx} {W : WX} {e a b c o i : Expr} {es rest : List Expr} {pos pos' p q p2 tpos apos cpos : Pos} {x y z C f : Str} {K : PySem.W.Frag} {ma mb mc mo me mi mv : FE} {mt mu : FT} {mas : FA} {B : Addr → Prop} {φ φ' : List Addr} {S S' : Sto} {H H' : Hp} {σ : L2.St} {Q : VK} {m n : FS} {st : Stmt} {sts : List Stmt} {D : Ends} {t t1 : Tg}
end
section
variable {ma mb : FE} {ρ : Ev} {S : Sto} {g : Str → Vl → Sto → Res Vl}
end
section
variable {X : Cx} {W : WX} {a : Expr} {pos py : Pos} {nm : Str} {K : PySem.W.Frag} {ma : FE} {B : Addr → Prop} {φ : List Addr} {S : Sto} {H : Hp} {σ : L2.St} {Q : VK} {tab : List (Str × Int)}
end
section
variable {P : Program} {w : World} {K : PySem.W.Frag} {mg : Str → Option Value} {base : Heap}
end
end PH

namespace PH
open PySem PySem.Spec PyProof.Rows L2
section
variable {X : Cx} {W : WX} {e a b c o i : Expr} {es rest : List Expr} {pos pos' p q p2 tpos apos cpos : Pos} {x y z C f : Str} {K : PySem.W.Frag} {ma mb mc mo me mi mv : FE} {mt mu : FT} {mas : FA} {B : Addr → Prop} {φ φ' : List Addr} {S S' : Sto} {H H' : Hp} {σ : L2.St} {Q : VK} {m n : FS} {st : Stmt} {sts : List Stmt} {D : Ends} {t t1 : Tg}
end
section
variable {X : Cx} {W : WX} {a : Expr} {pos p : Pos} {K : PySem.W.Frag} {ma : FE}
end
end PH

namespace PH
open PySem PySem.Spec PyProof.Rows L2
section
variable {prog : Program} {w : World} {A : Around} {E : Value → Shared → Prop} {s : Shared} {K : PySem.W.Frag} {x y C f : Addr} {ox : Obj} {od : Option Obj}
open PySem.W in
theorem objNe_K (X : K.In s.heap) (I : InstAt s.heap x ox C od) (hs : findIn K (.ref C) "__eq__" = some (some (.ref f))) (hf : isFn K (.ref f) = true) (hu : A.units < cLine) {Q : PySem.Fin → Shared → Prop}
    (hcall : wpAny (model prog w) A (call (.ref f) [.ref x, .ref y]) (fun v s' => ∃ b, v = .bool b ∧ Q (.done (.ret (.bool (!b)))) s') E s) :
    wpAny (model prog w) A (Builtin.«object.__ne__» ⟨[.ref x, .ref y], []⟩) Q E s := by
  unfold Builtin.«object.__ne__»
  repeat (first
    | with_reducible refine wpAny_cRoomFor hu ?_
    | (refine wpAny_bind (m := callSpecialIfBound? (.ref x) (Str.ofString "__eq__") [.ref y])
        (ifBound_K X I hs hf (wpAny_mono hcall (fun r s' hr => by
          obtain ⟨b, rfl, hq⟩ := hr
          repeat (first | exact hq | exact wpAny_pure hq | exact wpAny_truthy_bool hq | (refine wpAny_bind (m := truthy (.bool _)) (wpAny_truthy_bool ?_)) | wp_step)) fun _ _ e => e)))
    | wp_step)
open PySem.W in
theorem ifBound_bi {M : Model} {name : Str} {id : String} {args : List Value} {Q : Option Value → Shared → Prop} (X : K.In s.heap) (I : InstAt s.heap x ox C od) (hs : findIn K (.ref C) name = some (some (.builtin id))) (S : Slot "object" name id)
    (h : wpAny M A (call (.builtin id) (.ref x :: args)) (fun v => Q (some v)) E s) : wpAny M A (callSpecialIfBound? (.ref x) name args) Q E s := by
  simp only [callSpecialIfBound?, bindSpecialIfBound?]
  refine wpAny_holding (wpAny_bind (wpAny_bind (wpAny_bind (I.type.here ((looks_findIn X hs).here ?_)))))
  refine wpAny_bind (wpAny_askSetting (wpAny_ite ?_))
  have fin : wpAny M A (call (.builtin id) ([.ref x] ++ args) >>= fun v => pure (some v)) Q E s := wpAny_bind (wpAny_mono h (fun v s' h' => wpAny_pure h') fun _ _ h' => h')
  simp only [S.bind]
  split
  · exact wpAny_bind (wpAny_pure (wpAny_pure fin))
  · exact wpAny_tryCatch (wpAny_bind (wpAny_pure (wpAny_pure fin)))
open PySem.W in
theorem ne_K {L : Addr} {h₀ : Heap} {m : Str → Option Value} {Q : Value → Shared → Prop} (hu : A.units + 1 < cLine) (F : Fr h₀ L s.heap m) (X₀ : K.In h₀) (I : InstAt s.heap x ox C od) (hb : Looks (model prog w) s.heap (typeOf (.ref y)) (.ref C)) (hp : plainOver K C = true)
    (hn : findIn K (.ref C) "__ne__" = some (some (.builtin "object.__ne__"))) (hs : findIn K (.ref C) "__eq__" = some (some (.ref f))) (hf : isFn K (.ref f) = true)
    (h : wpAny (model prog w) A.in1 (call (.ref f) [.ref x, .ref y]) (fun v s' => ∃ b, v = .bool b ∧ Q (.bool (!b)) s') E s) : wpAny (model prog w) A (richCompare .NotEq (.ref x) (.ref y)) Q E s := by
  have X := X₀.keeps F.keep
  obtain ⟨cd, hc, ho⟩ := any_some hp
  have ne : cd.mro.isEmpty = false := by cases q : cd.mro with | nil => rw [q] at ho; cases ho | cons _ _ => rfl
  have sub : Looks (model prog w) s.heap (isInstance (.ref x) (.type "object")) true := I.type.andThen (looks_mroIn X (by unfold mroIn; rw [hc, Option.bind_some, if_neg (by rw [ne]; decide), only_has ho]))
  have one : wpAny (model prog w) A (tryCompare (.ref x) "__ne__" (.ref y)) (fun r s' => ∃ v, r = some v ∧ Q v s') E s := by
    unfold tryCompare
    refine wpAny_bind (ifBound_bi X I hn PySem.F.cmp_object.ne (wpAny_call (codeAny_call_builtin PySem.F.cmp_object.ne.plain PySem.F.cmpEntry_ne (PySem.W.check_slot PySem.F.cmpKind_ne PySem.F.cmpSplit_ne sub (PySem.F.cmpArgs_ne _ _) (objNe_K (A := A.in1) X I hs hf hu (wpAny_mono h (fun v s' hv => ?_) fun _ _ e => e))))))
    obtain ⟨b, rfl, hq⟩ := hv
    exact ⟨b, rfl, wpAny_pure ⟨_, rfl, hq⟩⟩
  unfold richCompare
  simp only [oneThing_ref]
  refine wpAny_holding (wpAny_bind (wpAny_cRoomFor (Nat.lt_of_succ_lt hu) ?_))
  rw [cmpInfo_NotEq]
  dsimp only
  refine wpAny_bind (I.type.here (wpAny_bind (hb.here ?_)))
  rw [show (Value.ref C != Value.ref C) = false from by simp]
  simp only [Bool.false_eq_true, if_false]
  refine wpAny_bind (wpAny_pure ?_)
  simp only [Bool.false_eq_true, if_false]
  refine wpAny_bind (wpAny_mono one (fun r s' z => ?_) fun _ _ e => e)
  obtain ⟨v, rfl, hq⟩ := z
  exact wpAny_pure hq
end
def rNeO (C : Addr) (sp : Sp) : R2 := fun x y H Q => match x, y with
  | .ref a, .ref b => ∃ dx fs dy gs, H a = some (.ins C dx fs) ∧ H b = some (.ins C dy gs) ∧ sp [.ref a, .ref b] H (fun v H' => match v with | .bl r => Q (.bl (!r)) H' | _ => False) E0
  | _, _ => False
def neB (K : PySem.W.Frag) (C : Str) : Bool := He.eqO (PySem.W.findIn K (.ref (He.ga K C)) "__ne__") (some (some (.builtin "object.__ne__")))
structure NeF (K : PySem.W.Frag) (C : Str) : Prop where
  cls : Cls K (He.ga K C)
  ne : PySem.W.findIn K (.ref (He.ga K C)) "__ne__" = some (some (.builtin "object.__ne__"))
theorem neB_ok {K : PySem.W.Frag} {C : Str} (c : Cls K (He.ga K C)) (h : neB K C = true) : NeF K C := ⟨c, He.eqO_ok h⟩
section
variable {X : Cx} {j k : Nat} {C : Str} {ps : List Str} {K : PySem.W.Frag} {md : FD}
theorem op_neX {sp : Sp} (N : NeF X.K C) (F : OkMX X.prog X.w X.K X.mg X.base j C "__eq__" ps sp) (hr : Room k X.A) (hjk : j + 1 ≤ k := by decide) : OpR X (compareOp .NotEq) (rNeO (He.ga X.K C) sp) := by
  intro pins s σ H x y v u Q I rx ry h
  obtain ⟨⟨fd, F, hb⟩, mt⟩ := F
  have hu := st_hu hr
  have hr1 : Room (j + 1) X.A := hr.mono hjk
  cases x with
  | ref a =>
    cases y with
    | ref b =>
      obtain ⟨dx, fs, dy, gs, ha, hb', h⟩ := h
      cases rx
      cases ry
      show wpAny (model X.prog X.w) X.A (richCompare .NotEq (.ref a) (.ref b)) (EP X pins σ Q) X.xe s
      obtain ⟨mA, J, _⟩ := ins_get I.hok ha
      obtain ⟨mB, J', _⟩ := ins_get I.hok hb'
      obtain ⟨od, J, _⟩ := J.look
      obtain ⟨od', J', _⟩ := J'.look
      obtain ⟨fm, hF⟩ := I.fr
      refine ne_K (by omega) hF I.ok.mod.kin J J'.type N.cls.po N.ne mt.at_ mt.fn ?_
      have e := I.env0
      have hl := F.len _ _ _ _ h
      have b1 := hb s [.ref a, .ref b] I.kIn (by simpa using hl)
      have run := F.run X.A.in1 X.stack s H ⟨[.ref a, .ref b], []⟩ [.ref a, .ref b] [.ref a, .ref b] _ E0 hr1.in1 ⟨e.frames, e.mod, e.bs, e.bsz, e.funs, e.frf, e.hok, e.bare⟩ (by simpa using b1) (.cons rfl (.cons rfl .nil)) h
      refine wpAny_call (codeAny_mono run fun q s' hq => ?_)
      cases q with
      | error e => obtain ⟨_, _, _, _, _, _, _, _, _, _, _, _, z⟩ := hq; exact z.elim
      | ok fl =>
        cases fl with
        | ret w =>
          obtain ⟨z, H', I', rz, hz⟩ := I.after hq
          cases z with
          | bl r =>
            cases rz
            exact ⟨r, rfl, .bl (!r), H', I', rfl, hz⟩
          | _ => exact hz.elim
        | next => exact False.elim hq
        | brk => exact False.elim hq
        | cont => exact False.elim hq
    | _ => exact h.elim
  | _ => cases y <;> exact h.elim
def notR (r : Res Vl) : Res Vl := match r with
  | .ok (.dat (.bl b)) S => .ok (.dat (.bl (!b))) S
  | _ => .stuck
def fNeO (C : Str) (md : FD) (x y : Vl) (S : Sto) : Res Vl := if isIns S C "" x = true ∧ isIns S C "" y = true then notR (md [x, y] S) else .stuck
theorem s_neO : SimOp K (rNeO (He.ga K C) (spF K md)) (fNeO C md) := fun {W σ B φ S H x y d e Q} I r1 r2 f => by
  unfold fNeO at f
  split at f
  · rename_i hi
    obtain ⟨a, dx, fs, rfl, h1, h2⟩ := ins_ok I r1 hi.1
    obtain ⟨b, dy, gs, rfl, h3, h4⟩ := ins_ok I r2 hi.2
    refine ⟨dx, fs, dy, gs, h1, h3, B, φ, S, [d, e], I, ⟨_, _, rfl, r1, _, _, rfl, r2, rfl⟩, ?_⟩
    unfold notR at f
    split at f
    · rename_i n S' q
      rw [q]
      intro φ' v H' I' X' r'
      cases r'
      exact f φ' _ H' I' X' rfl
    · exact f.elim
  · exact f.elim
end
end PH

namespace PH
open PySem PySem.Spec PyProof.Rows L2
section
variable {X : Cx} {W : WX} {e a b c o i : Expr} {es rest : List Expr} {pos pos' p q p2 tpos apos cpos : Pos} {x y z C f : Str} {K : PySem.W.Frag} {ma mb mc mo me mi mv : FE} {mt mu : FT} {mas : FA} {B : Addr → Prop} {φ φ' : List Addr} {S S' : Sto} {H H' : Hp} {σ : L2.St} {Q : VK} {m n : FS} {st : Stmt} {sts : List Stmt} {D : Ends} {t t1 : Tg}
end
section
variable {S : Sto}
end
end PH

namespace PH
open PySem PySem.Spec PyProof.Rows L2
section
variable {X : Cx} {W : WX} {e a b c o i : Expr} {es rest : List Expr} {pos pos' p q p2 tpos apos cpos : Pos} {x y z C f : Str} {K : PySem.W.Frag} {ma mb mc mo me mi mv : FE} {mt mu : FT} {mas : FA} {B : Addr → Prop} {φ φ' : List Addr} {S S' : Sto} {H H' : Hp} {σ : L2.St} {Q : VK} {m n : FS} {st : Stmt} {sts : List Stmt} {D : Ends} {t t1 : Tg}
theorem RepVs.getV : ∀ {ds : List Vl} {vs : List L2.V} {i : Nat} {d : Vl}, RepVs K B φ S H ds vs → ds[i]? = some d → ∃ v, vs[i]? = some v ∧ RepV K B φ S H d v
  | [], vs, i, d, h, q => by simp at q
  | d :: ds, vs, 0, d', ⟨v, ws, e, h1, h2⟩, q => by simp at q; subst q e; exact ⟨v, rfl, h1⟩
  | d :: ds, vs, i + 1, d', ⟨v, ws, e, h1, h2⟩, q => by
    subst e
    obtain ⟨v', h3, h4⟩ := RepVs.getV (i := i) (d := d') h2 (by simpa using q)
    exact ⟨v', by simpa using h3, h4⟩
theorem RepVs.app : ∀ {ds es : List Vl} {vs ws : List L2.V}, RepVs K B φ S H ds vs → RepVs K B φ S H es ws → RepVs K B φ S H (ds ++ es) (vs ++ ws)
  | [], es, vs, ws, h, h' => by cases h; exact h'
  | d :: ds, es, vs, ws, ⟨v, us, e, h1, h2⟩, h' => by subst e; exact ⟨v, us ++ ws, rfl, h1, RepVs.app h2 h'⟩
theorem RepVs.takeV : ∀ {ds : List Vl} {vs : List L2.V} (n : Nat), RepVs K B φ S H ds vs → RepVs K B φ S H (ds.take n) (vs.take n)
  | ds, vs, 0, h => by simp [RepVs]
  | [], vs, n + 1, h => by cases h; rfl
  | d :: ds, vs, n + 1, ⟨v, us, e, h1, h2⟩ => by subst e; exact ⟨v, us.take n, rfl, h1, RepVs.takeV n h2⟩
theorem RepVs.dropV : ∀ {ds : List Vl} {vs : List L2.V} (n : Nat), RepVs K B φ S H ds vs → RepVs K B φ S H (ds.drop n) (vs.drop n)
  | ds, vs, 0, h => h
  | [], vs, n + 1, h => by cases h; rfl
  | d :: ds, vs, n + 1, ⟨v, us, e, h1, h2⟩ => by subst e; exact RepVs.dropV n h2
def cutL (xs : List Vl) (lo hi : Option Int) : List Vl := (xs.drop (HT.sIx xs.length 0 lo)).take (HT.sIx xs.length xs.length hi - HT.sIx xs.length 0 lo)
theorem RepVs.cut {ds : List Vl} {vs : List L2.V} {lo hi : Option Int} (h : RepVs K B φ S H ds vs) : RepVs K B φ S H (cutL ds lo hi) (cutV vs lo hi) := by
  unfold cutL cutV
  rw [h.len]
  exact (h.dropV _).takeV _
/-- the list that a cell holds -/
def lvL (S : Sto) : Vl → Option (List Vl)
  | .cel n => match S[n]? with
    | some (.lv xs) => some xs
    | _ => none
  | _ => none
theorem lvL_ok {d : Vl} {v : L2.V} {xs : List Vl} (I : GInv K B φ S H) (h : lvL S d = some xs) (r : RepV K B φ S H d v) : ∃ n a vs, d = .cel n ∧ S[n]? = some (.lv xs) ∧ φ[n]? = some a ∧ v = .ref a ∧ H a = some (.lst vs) ∧ RepVs K B φ S H xs vs := by
  unfold lvL at h
  split at h
  · rename_i n
    obtain ⟨a, e, h1⟩ := r
    split at h
    · rename_i ys q
      cases h
      obtain ⟨vs, h2, h3⟩ := I.ok n _ a q h1
      exact ⟨n, a, vs, rfl, q, h1, e, h2, h3⟩
    · cases h
  · cases h
def fIxV (x y : Vl) (S : Sto) : Res Vl := match lvL S x, y with
  | some xs, .dat (.int i) => (match atI xs i with
    | some d => .ok d S
    | none => .stuck)
  | _, _ => .stuck
theorem s_ixV : SimOp K (cIx K) fIxV := fun {W σ B φ S H x y d e Q} I r1 r2 f => by
  unfold fIxV at f
  split at f
  · rename_i xs j q1
    cases r2
    obtain ⟨n, a, vs, rfl, _, _, rfl, h1, l1⟩ := lvL_ok I q1 r1
    split at f
    · rename_i d' q
      have hq : ∃ v, atI vs j = some v ∧ RepV K B φ S H d' v := by
        unfold L2.atI at q ⊢
        rw [l1.len]
        cases e : ixN xs.length j with
        | none => rw [e] at q; cases q
        | some k => rw [e] at q; exact l1.getV (i := k) q
      obtain ⟨v, h2, h3⟩ := hq
      exact ⟨vs, v, .inl (SqL.of h1), h2, Fin.now f I h3⟩
    · exact f.elim
  · exact f.elim
theorem f_ixV (ha : PE X a (rdE X.K W ma)) (hb : PE X b (rdE X.K W mb)) (hs : PlainIx b := by intro _ _; rfl) : PE X (.Subscript a b pos) (rdE X.K W (mOp fIxV ma mb)) := PE_imp (e_ix ha hb hs) fun σ H Q h => sim_op s_ixV h
def fLenV (x : Vl) (S : Sto) : Res Vl := match lvL S x with
  | some xs => .ok (.dat (.int xs.length)) S
  | none => .stuck
theorem s_lenV : Sim1 K (cLen K) fLenV := fun {W σ B φ S H x d Q} I r f => by
  unfold fLenV at f
  split at f
  · rename_i xs q1
    obtain ⟨n, a, vs, rfl, _, _, rfl, h1, l1⟩ := lvL_ok I q1 r
    refine ⟨vs, .inl (SqL.of h1), ?_⟩
    rw [l1.len]
    exact Fin.now f I rfl
  · exact f.elim
theorem f_lenV (hm : X.mg "len" = none) (ha : PE X a (rdE X.K W ma)) (hg : Gl X "len" := by rfl) (hs : starEach [a] X.env = [(false, eval a X.env)] := by rfl) : PE X (.Call (.Name "len" p) [a] [] pos) (rdE X.K W (m1 fLenV ma)) := PE_imp (e_len hm ha hg hs) fun σ H Q h => sim_cb s_lenV h
/-- a new list of values -/
def newV (xs : List Vl) (S : Sto) : Res Vl := .ok (.cel S.length) (S ++ [.lv xs])
theorem Fin.newV {xs : List Vl} {vs : List L2.V} {p : Addr} (f : Fin K W σ (RepV K) B φ S H (PH.newV xs S) Q) (I : GInv K B φ S H) (r : RepVs K B φ S H xs vs) (hp : H p = none) : Q (.ref p) (upd H p (.lst vs)) := by
  unfold PH.newV at f
  have X := Ext.newC (o := .lst vs) (x := .lv xs) I hp
  refine f (φ ++ [p]) _ _ (I.newC hp fun _ => ⟨vs, upd_same, r.ext X I⟩) X ⟨p, rfl, ?_⟩
  rw [← I.len]
  exact getElem_app

def fSlV (x : Vl) (lo hi : Option Int) (S : Sto) : Res Vl := match lvL S x with
  | some xs => newV (cutL xs lo hi) S
  | none => .stuck
def mSlV (a : FE) (l h : FO) : FE := fun ρ S => (a ρ S).bind fun x S1 => (l ρ S1).bind fun lo S2 => (h ρ S2).bind fun hi S3 => fSlV x lo hi S3
def mLstV (r : FA) : FE := fun ρ S => (r ρ S).bind fun xs S1 => if xs.length ≤ sizeLine then newV xs S1 else .stuck
theorem f_lstV (h : PA X es (rdA X.K W mas)) : PE X (.List es pos) (rdE X.K W (mLstV mas)) := PE_imp (pe_lst h) fun σ H Q h =>
  rd_bind (k := fun xs ρ S1 => if xs.length ≤ sizeLine then newV xs S1 else .stuck) h fun B φ S ρ d v H1 I E r f => by
    split at f
    · rename_i hl
      exact ⟨by rw [r.len]; exact hl, fun p hp => Fin.newV f I r hp⟩
    · exact f.elim
theorem RepVs.snocV {ds : List Vl} {vs : List L2.V} {d : Vl} {v : L2.V} (h : RepVs K B φ S H ds vs) (r : RepV K B φ S H d v) : RepVs K B φ S H (ds ++ [d]) (vs ++ [v]) := h.app ⟨v, [], rfl, r, rfl⟩
def fAppV (x y : Vl) (S : Sto) : Res Vl := match x with
  | .cel n => (match S[n]? with
    | some (.lv ds) => if ds.length < sizeLine then .ok (.dat .non) (S.set n (.lv (ds ++ [y]))) else .stuck
    | _ => .stuck)
  | _ => .stuck
def mAppV (a b : FE) : FE := fun ρ S => (a ρ S).bind fun x S1 => match lvL S1 x with
  | some _ => (b ρ S1).bind fun y S2 => fAppV x y S2
  | none => .stuck
def lcGoV (t : Tg) (mt : FT) (me : FE) (ρ : Ev) (n : Nat) : Nat → Nat → Sto → Res (List Vl)
  | 0, _, _ => .stuck
  | k + 1, i, S => match S[n]? with
    | some (.lv xs) => (match xs[i]? with
      | none => .ok [] S
      | some d => (match tgF t d ρ with
        | none => .stuck
        | some ρ1 => (match mt ρ1 S with
          | .ok b S1 => if b = true then (match me ρ1 S1 with
              | .ok e S2 => (match lcGoV t mt me ρ n k (i + 1) S2 with
                | .ok es S3 => .ok (e :: es) S3
                | _ => .stuck)
              | _ => .stuck) else lcGoV t mt me ρ n k (i + 1) S1
          | _ => .stuck)))
    | _ => .stuck
def kLcV (t : Tg) (mt : FT) (me : FE) (vs : List Nat) (ρ : Ev) (x : Vl) (S1 : Sto) : Res Vl := match x with
  | .cel n => (match lcGoV t mt me (wipeE ρ vs) n 100000 0 S1 with
    | .ok es S2 => newV es S2
    | _ => .stuck)
  | _ => .stuck
def mLcV (a : FE) (t : Tg) (mt : FT) (me : FE) (vs : List Nat) : FE := fun ρ S => (a ρ S).bind (kLcV t mt me vs ρ)
theorem Fin.doneV {a : Addr} {ds : List Vl} {vs : List L2.V} {H0 : Hp} {φ0 : List Addr} {S0 : Sto} (f : Fin K W σ (RepV K) B φ0 S0 H0 (PH.newV ds S) Q) (I : GInv K (Bpl B a) φ S H) (X0 : Ext φ0 S0 H0 φ S H) (h0 : H0 a = none) (nB : ¬ B a) (ha : H a = some (.lst vs)) (l : RepVs K (Bpl B a) φ S H ds vs) : Q (.ref a) H := by
  have na : ¬ Alive φ S a := fun q => I.blk a q (.inr rfl)
  unfold PH.newV at f
  have X1 : Ext φ0 S0 H0 (φ ++ [a]) (S ++ [.lv ds]) H := {
    old := fun b o h n => by
      obtain ⟨h1, h2⟩ := X0.old b o h n
      refine ⟨h1, fun q => ?_⟩
      rcases (alive_app I.len).mp q with q | ⟨_, q⟩
      · exact h2 q
      · subst q; rw [h0] at h; cases h
    ids := fun n b h => by
      have := X0.ids n b h
      rw [List.getElem?_append_left (List.getElem?_eq_some_iff.mp this).1]; exact this }
  have hS : ∀ b, Blk B (φ ++ [a]) (S ++ [.lv ds]) b → Blk (Bpl B a) φ S b := fun b q => by
    rcases q with q | q
    · exact .inl (.inl q)
    · rcases (alive_app I.len).mp q with q | ⟨_, q⟩
      · exact .inr q
      · exact .inl (.inr q)
  have k : Kp (Blk (Bpl B a) φ S) H (Blk B (φ ++ [a]) (S ++ [.lv ds])) H := ⟨fun b o h n => ⟨h, fun q => n (hS b q)⟩, fun _ _ h => h⟩
  have hφ : ∀ (n : Nat) (b : Addr), φ[n]? = some b → (φ ++ [a])[n]? = some b := fun n b h => by rw [List.getElem?_append_left (List.getElem?_eq_some_iff.mp h).1]; exact h
  have hV : ∀ {d : Vl} {v : L2.V}, RepV K (Bpl B a) φ S H d v → RepV K B (φ ++ [a]) (S ++ [.lv ds]) H d v := fun {d v} r => by
    cases d with
    | dat d => exact Rep.kp k d v r
    | cel n => obtain ⟨b, e1, e2⟩ := r; exact ⟨b, e1, hφ _ _ e2⟩
    | cels ns => obtain ⟨a', as, e1, e2, e3, e4⟩ := r; exact ⟨a', as, e1, (k.old _ _ e3 e2).2, e3, map_ids hφ ns as e4⟩
    | scr ns => exact r
  have hF : ∀ {fs : List (Str × Vl)} {vs : List (Str × L2.V)}, RepF K (Bpl B a) φ S H fs vs → RepF K B (φ ++ [a]) (S ++ [.lv ds]) H fs vs := fun {fs} => by
    induction fs with
    | nil => intro vs r; exact r
    | cons f fs ih => rintro vs ⟨v, ws, e, h1, h2⟩; exact ⟨v, ws, e, hV h1, ih h2⟩
  refine f (φ ++ [a]) _ H ?_ X1 ⟨a, rfl, by rw [← I.len]; exact getElem_app⟩
  exact {
    len := by simp [I.len]
    ok := fun n c b h1 h2 => by
      by_cases hn : n < S.length
      · rw [List.getElem?_append_left hn] at h1
        rw [List.getElem?_append_left (by rw [I.len]; exact hn)] at h2
        have q := I.ok n c b h1 h2
        cases c with
        | dead => trivial
        | lst es => obtain ⟨us, e, r⟩ := q; exact ⟨us, e, RepL.kp k es us r⟩
        | ins C fs => obtain ⟨dx, us, e, r⟩ := q; exact ⟨dx, us, e, hF r⟩
        | dct fs => obtain ⟨us, e, r⟩ := q; exact ⟨us, e, hF r⟩
        | lv xs => obtain ⟨us, e, r⟩ := q; exact ⟨us, e, repVs_map hV r⟩
      · have e : n = S.length := by
          have := (List.getElem?_eq_some_iff.mp h1).1
          simp at this
          omega
        subst e
        rw [List.getElem?_append_right (Nat.le_refl _)] at h1
        rw [← I.len, List.getElem?_append_right (Nat.le_refl _)] at h2
        simp at h1 h2
        subst h1 h2
        exact ⟨vs, ha, repVs_map hV l⟩
    inj := fun n m c c' b h1 h2 h3 h4 h5 h6 => by
      have key : ∀ (n : Nat) (c : Cell), (S ++ [.lv ds])[n]? = some c → (n < S.length ∧ S[n]? = some c) ∨ n = S.length := fun n c h => by
        by_cases hn : n < S.length
        · rw [List.getElem?_append_left hn] at h; exact .inl ⟨hn, h⟩
        · have := (List.getElem?_eq_some_iff.mp h).1
          simp at this
          exact .inr (by omega)
      have kφ : ∀ n : Nat, n < S.length → (φ ++ [a])[n]? = φ[n]? := fun n hn => List.getElem?_append_left (by rw [I.len]; exact hn)
      have kp : (φ ++ [a])[S.length]? = some a := by rw [← I.len]; simp
      rcases key n c h1 with ⟨hn, e1⟩ | e1 <;> rcases key m c' h3 with ⟨hm, e2⟩ | e2
      · rw [kφ n hn] at h5
        rw [kφ m hm] at h6
        exact I.inj n m c c' b e1 h2 e2 h4 h5 h6
      · subst e2
        rw [kp] at h6
        cases h6
        rw [kφ n hn] at h5
        exact absurd ⟨n, c, e1, h2, h5⟩ na
      · subst e1
        rw [kp] at h5
        cases h5
        rw [kφ m hm] at h6
        exact absurd ⟨m, c', e2, h4, h6⟩ na
      · omega
    blk := fun b h => by
      rcases (alive_app I.len).mp h with h | ⟨_, h⟩
      · exact fun q => I.blk b h (.inl q)
      · subst h; exact nB
    btr := fun b h => I.btr b (.inl h) }
end
section
variable {S : Sto} {a b : FE} {ρ : Ev} {n m : Nat} {xs ys : List Vl} {x : Vl}
def kSlV2 (x : Vl) (lo hi : Option Int) (S : Sto) : Res Vl := fSlV x lo hi S
theorem g_lcV {t : Tg} {mt : FT} {me : FE} {vs : List Nat} : mLcV a t mt me vs ρ S = (a ρ S).bind (kLcV t mt me vs ρ) := rfl
theorem g_ixV {k : Int} {d : Vl} (h : S[n]? = some (.lv xs)) (h2 : atI xs k = some d) : fIxV (.cel n) (.dat (.int k)) S = .ok d S := by simp only [fIxV, lvL, h, h2]
theorem g_lenV (h : S[n]? = some (.lv xs)) : fLenV (.cel n) S = .ok (.dat (.int xs.length)) S := by simp only [fLenV, lvL, h]
def kLstV (xs : List Vl) (S1 : Sto) : Res Vl := if xs.length ≤ sizeLine then newV xs S1 else .stuck
theorem g_lstV {r : FA} : mLstV r ρ S = (r ρ S).bind kLstV := rfl
theorem g_kLstV0 : kLstV [] S = .ok (.cel S.length) (S ++ [.lv []]) := rfl
theorem g_kLstV1 : kLstV [x] S = .ok (.cel S.length) (S ++ [.lv [x]]) := rfl
def kAppV (b : FE) (ρ : Ev) (x : Vl) (S1 : Sto) : Res Vl := match lvL S1 x with
  | some _ => (b ρ S1).bind (fAppV x)
  | none => .stuck
theorem g_appV : mAppV a b ρ S = (a ρ S).bind (kAppV b ρ) := rfl
def kSlVb (h : FO) (ρ : Ev) (x : Vl) (lo : Option Int) (S2 : Sto) : Res Vl := (h ρ S2).bind (kSlV2 x lo)
def kSlVa (l h : FO) (ρ : Ev) (x : Vl) (S1 : Sto) : Res Vl := (l ρ S1).bind (kSlVb h ρ x)
theorem g_mSlV {l h : FO} : mSlV a l h ρ S = (a ρ S).bind (kSlVa l h ρ) := rfl
theorem g_kSlVa {l h : FO} : kSlVa l h ρ x S = (l ρ S).bind (kSlVb h ρ x) := rfl
theorem g_kSlVb {h : FO} {lo : Option Int} : kSlVb h ρ x lo S = (h ρ S).bind (kSlV2 x lo) := rfl
theorem g_kSlV2 {lo hi : Option Int} : kSlV2 x lo hi S = fSlV x lo hi S := rfl
def kAugI3 (g : Int → Int → Int) (ρ : Ev) (x : Vl) (k u : Int) (w : Vl) (S : Sto) : Out := match w with
  | .dat (.int w) => (match setC x k (.int (g u w)) S with
    | some S4 => .next ρ S4
    | none => .stuck)
  | _ => .stuck
def kAugI2 (g : Int → Int → Int) (e : FE) (ρ : Ev) (x k : Vl) (S : Sto) : Out := match k with
  | .dat (.int k) => (match getC x k S with
    | some (.int u) => (e ρ S).toS ρ (kAugI3 g ρ x k u)
    | _ => .stuck)
  | _ => .stuck
def kAugI1 (g : Int → Int → Int) (i e : FE) (ρ : Ev) (x : Vl) (S : Sto) : Out := (i ρ S).toS ρ (kAugI2 g e ρ x)
theorem g_augI {g : Int → Int → Int} {i e : FE} : mAugI g a i e ρ S = (a ρ S).toS ρ (kAugI1 g i e ρ) := rfl
theorem g_kAugI1 {g : Int → Int → Int} {i e : FE} : kAugI1 g i e ρ x S = (i ρ S).toS ρ (kAugI2 g e ρ x) := rfl
end
def EVV := And.intro @g_mSlV (And.intro @g_kSlVa (And.intro @g_kSlVb (And.intro @g_kSlV2 (And.intro @g_augI (And.intro @g_kAugI1 (And.intro @g_lcV (And.intro @g_lstV (And.intro @g_kLstV0 (And.intro @g_kLstV1 @g_appV)))))))))
end PH

namespace PH
open PySem PySem.Spec PyProof.Rows L2
section
variable {X : Cx} {W : WX} {pins : List (Addr × Obj)} {σ : L2.St}
theorem un_keep {fs : List Addr} {H H' : Hp} {h h1 h2 : Heap} (u : Un fs [] H H' h h1) (hs : ∀ b o, b < h.objs.size → h1.get? b = some o → h2.get? b = some o) : Un fs [] H H' h h2 := by
  refine ⟨fun b o e n f x => ?_, fun b o e n f x => ?_, u.free, fun b o e x => ?_, u.tups, u.frzs, u.tbls⟩
  · exact hs b o (Heap.lt_size e) (u.keep b o e n f x)
  · obtain ⟨sl, z⟩ := u.slot b o e n f x
    exact ⟨sl, hs b _ (Heap.lt_size e) z⟩
  · obtain ⟨o', z⟩ := u.there b o e x
    exact ⟨o', hs b _ (Heap.lt_size e) z⟩
theorem un_new {P : Program} {w : World} {fs : List Addr} {H H' : Hp} {h h1 : Heap} {a : Addr} {o : HO} (ok : HOk P w H h) (u : Un fs [] H H' h h1) (ha : h.objs.size ≤ a) : Un fs [] H (upd H' a o) h h1 := by
  have ne : ∀ {b : Addr} {o : Obj}, h.get? b = some o → b ≠ a := fun {b o} e z => absurd (Heap.lt_size e) (by rw [z]; exact Nat.not_lt.mpr ha)
  have ne2 : ∀ {b : Addr} {o : HO}, H b = some o → b ≠ a := fun {b o} e z => absurd (ok.lt e) (by rw [z]; exact Nat.not_lt.mpr ha)
  refine ⟨u.keep, u.slot, fun b o e n x => ?_, u.there, fun b xs e => ?_, fun b o v e => ?_, fun b ps e => ?_⟩
  · rw [upd_ne (ne e)]; exact u.free b o e n x
  · rw [upd_ne (ne2 e)]; exact u.tups b xs e
  · rw [upd_ne (ne2 e)]; exact u.frzs b o v e
  · rw [upd_ne (ne2 e)]; exact u.tbls b ps e
/-- the sorted items: by their keys, stably -/
def byKey {α : Type} (l : List (α × Int)) : List α := (l.mergeSort fun p q => decide (p.2 ≤ q.2)).map (·.1)
def rSortKey (K : PySem.W.Frag) (fA : Addr) (sp : Sp) : List L2.V → List L2.V → Hp → VK → Prop := fun vs zs H Q => ∃ (a : Addr) (xs : List L2.V) (ks : List Int) (J : Nat → Hp → Prop), vs = [.ref a] ∧ zs = [.ref fA] ∧ SqL K H a xs ∧ ks.length = xs.length ∧ J 0 H ∧
  (∀ i x k H1, xs[i]? = some x → ks[i]? = some k → J i H1 → sp [x] H1 (fun z H2 => z = .int k ∧ J (i + 1) H2) E0) ∧
  ∀ p H1, J xs.length H1 → H1 p = none → H p = none → Q (.ref p) (upd H1 p (.lst (byKey (xs.zip ks))))
/-- how the state stands while the keys are made -/
structure KSt (X : Cx) (pins : List (Addr × Obj)) (σ : L2.St) (H0 : Hp) (s0 : Shared) (a kS : Addr) (e1 : Nat) (H : Hp) (s : Shared) (keys : Array Value) : Prop where
  os : s.os = s0.os
  bare : AllBare s.gens
  un : Un (frs X.stack) [] H0 H s0.heap s.heap
  hok : HOk X.prog X.w H s.heap
  na : H a = none
  nk : H kS = none
  ha : s.heap.get? a = some (PyProof.Rows.seqObj "list" #[] e1)
  hk : ∃ e, s.heap.get? kS = some (PyProof.Rows.seqObj "list" keys e)
theorem KSt.inv {H0 H : Hp} {s0 s : Shared} {a kS : Addr} {e1 : Nat} {keys : Array Value} (K : KSt X pins σ H0 s0 a kS e1 H s keys) (I0 : Inv X pins σ H0 s0) : Inv X pins σ H s :=
  I0.call' K.os K.un K.hok K.bare fun b hb => absurd hb (by simp)
theorem nostk {H0 : Hp} {s0 : Shared} (I0 : Inv X pins σ H0 s0) {c : Addr} (hc : s0.heap.objs.size ≤ c) : c ∉ frs X.stack := fun hb => by
  rcases List.mem_cons.mp (I0.stkSub c hb) with z | z
  · exact absurd I0.lt (by rw [← z]; exact Nat.not_lt.mpr hc)
  · exact I0.nofs hc z
/-- a call of the key's def -/
theorem KSt.call {fA : Addr} {fd : FuncData} {ps : List Str} {sp : Sp} {j : Nat} {H0 H : Hp} {s0 s : Shared} {a kS : Addr} {e1 : Nat} {keys : Array Value} (K : KSt X pins σ H0 s0 a kS e1 H s keys) (I0 : Inv X pins σ H0 s0)
    (F : FnOk X.prog X.w X.K X.mg X.base (L2.CX X.prog X.w) j fA fd ps sp) (hb : Binds X.K fd ps []) (hr : Room j X.A.in1.in1) (hac : s0.heap.objs.size ≤ a) (hkc : s0.heap.objs.size ≤ kS)
    {x : L2.V} {u : Value} {i : Int} {P : Hp → Prop} (r : RelV x u) (h : sp [x] H (fun z H2 => z = .int i ∧ P H2) E0) {G : Value → Shared → Prop} {Q : Value → Shared → Prop}
    (q : ∀ v s' H', (∃ t, v = .int i t) → KSt X pins σ H0 s0 a kS e1 H' s' keys → P H' → Q v s') : wpAny (model X.prog X.w) X.A.in1.in1 (call (.ref fA) [u]) Q G s := by
  have I := K.inv I0
  have e := I.env0
  have hl := F.len _ _ _ _ h
  have b1 := hb s [u] I.kIn (by simpa using hl)
  have run := F.run X.A.in1.in1 X.stack s H ⟨[u], []⟩ [u] [x] _ E0 hr ⟨e.frames, e.mod, e.bs, e.bsz, e.funs, e.frf, e.hok, e.bare⟩ (by simpa using b1) (.cons r .nil) h
  refine wpAny_call (codeAny_mono run fun r s' hq => ?_)
  cases r with
  | error e => obtain ⟨_, _, _, _, _, _, _, _, _, _, _, _, z⟩ := hq; exact z.elim
  | ok fl =>
    cases fl with
    | next => exact False.elim hq
    | brk => exact False.elim hq
    | cont => exact False.elim hq
    | ret v =>
      obtain ⟨z, H', os, bare, un, hok, rz, rfl, hp⟩ := hq
      obtain ⟨ek, hk⟩ := K.hk
      exact q v s' H' rz ⟨os.trans K.os, bare, K.un.trans un, hok, un.free a _ K.ha K.na (by simp), un.free kS _ hk K.nk (by simp), un.keep a _ K.ha K.na (nostk I0 hac) (by simp), ek, un.keep kS _ hk K.nk (nostk I0 hkc) (by simp)⟩ hp
/-- an object of ours is changed -/
theorem KSt.turn {H0 H : Hp} {s0 s : Shared} {a kS : Addr} {e1 : Nat} {keys : Array Value} (K : KSt X pins σ H0 s0 a kS e1 H s keys) (I0 : Inv X pins σ H0 s0) (hac : s0.heap.objs.size ≤ a) (hkc : s0.heap.objs.size ≤ kS)
    {h' : Heap} {tk : Nat} (k : ∀ b o, b ≠ a → b ≠ kS → s.heap.get? b = some o → h'.get? b = some o) : Un (frs X.stack) [] H0 H s0.heap h' ∧ HOk X.prog X.w H h' := by
  refine ⟨un_keep K.un fun b o hb e => k b o (fun z => absurd hb (by rw [z]; exact Nat.not_lt.mpr hac)) (fun z => absurd hb (by rw [z]; exact Nat.not_lt.mpr hkc)) e, ?_⟩
  have I := (K.inv I0).turnedL (h' := h') (t' := tk) (ch := [a, kS]) (fun b o hb e => k b o (fun z => hb (by rw [z]; simp)) (fun z => hb (by rw [z]; simp)) e) fun b hb => by
    rcases List.mem_cons.mp hb with rfl | hb
    · exact I0.fpOk hac K.na
    · obtain rfl := List.mem_singleton.mp hb
      exact I0.fpOk hkc K.nk
  exact I.hok
def KR (v : Value) (p : L2.V × Int) : Prop := RelV p.1 v
theorem each_of_vals {us : List Value} : ∀ {xs : List L2.V} {ks : List Int}, Vals xs us → ks.length = xs.length → PySem.W.EachIs KR us (xs.zip ks)
  | [], [], .nil, _ => .nil
  | x :: xs, k :: ks, .cons r1 r2, h => .cons r1 (each_of_vals r2 (by simpa using h))
  | _ :: _, [], _, h => by simp at h
theorem vals_of_each {us : List Value} : ∀ {ps : List (L2.V × Int)}, PySem.W.EachIs KR us ps → Vals (ps.map (·.1)) us
  | _, .nil => .nil
  | _, .cons r1 r2 => .cons r1 (vals_of_each r2)
theorem each_ints (h : Heap) : ∀ {l : List Value} {ks : List Int}, PySem.W.EachIs (fun v (k : Int) => ∃ t, v = Value.int k t) l ks → PySem.W.EachIs (fun v d => ∃ as, Reads h v d as) l (ks.map PyData.int)
  | _, _, .nil => .nil
  | _, _, .cons ⟨t, e⟩ r => .cons ⟨[], by subst e; exact Reads.int _ _⟩ (each_ints h r)
theorem sortKey_rest {fA : Addr} {fd : FuncData} {ps : List Str} {sp : Sp} {j : Nat} {H0 H : Hp} {s0 s : Shared} {a kS : Addr} {e1 : Nat} (K : KSt X pins σ H0 s0 a kS e1 H s #[]) (I0 : Inv X pins σ H0 s0)
    (F : FnOk X.prog X.w X.K X.mg X.base (L2.CX X.prog X.w) j fA fd ps sp) (hb : Binds X.K fd ps []) (hr : Room j X.A.in1.in1) (hac : s0.heap.objs.size ≤ a) (hkc : s0.heap.objs.size ≤ kS) (hka : kS ≠ a)
    {us : List Value} {xs : List L2.V} {ks : List Int} {J : Nat → Hp → Prop} (rv : Vals xs us) (hl : ks.length = xs.length) (hz : xs.length ≤ sizeLine) (j0 : J 0 H)
    (turn : ∀ i x k H1, xs[i]? = some x → ks[i]? = some k → J i H1 → sp [x] H1 (fun z H2 => z = .int k ∧ J (i + 1) H2) E0)
    {G : Value → Shared → Prop} {P : PySem.Fin → Shared → Prop} (h : ∀ s' H' out c, s'.os = s0.os → AllBare s'.gens → Un (frs X.stack) [] H0 H' s0.heap s'.heap → HOk X.prog X.w H' s'.heap → H' a = none → s'.heap.get? a = some (PyProof.Rows.seqObj "list" (List.toArray out) c) →
      Vals (byKey (xs.zip ks)) out → J xs.length H' → P (.done (.ret .none)) s') : wpAny (model X.prog X.w) X.A.in1.in1 (PyProof.Rows.ksk_rest a (.ref fA) false us.toArray e1 (.ref kS)) P G s := by
  have hu : us.length = xs.length := rv.length.symm
  unfold PyProof.Rows.ksk_rest
  refine wpAny_bind (wpAny_rule ?_)
  first
    | rw [List.forIn_toArray]
    | (rw [← Array.forIn_toList]; simp only [List.toList_toArray])
    | rw [← Array.forIn_toList]
  refine wpAny_bind (PyProof.Rows.ksk_fold (fun i s' => ∃ H' kA, KSt X pins σ H0 s0 a kS e1 H' s' kA ∧ J i H' ∧ PySem.W.EachIs (fun v (k : Int) => ∃ t, v = Value.int k t) kA.toList (ks.take i)) us 0 s
    ⟨H, #[], K, j0, by rw [List.take_zero]; exact .nil⟩ ?step ?done)
  case step =>
    rintro i x s' hx ⟨H', kA, K', hj, hk⟩
    simp only [Nat.zero_add] at hj hk ⊢
    have hi : i < us.length := (List.getElem?_eq_some_iff.mp hx).1
    obtain ⟨y, hy⟩ : ∃ y, xs[i]? = some y := ⟨_, List.getElem?_eq_getElem (by omega)⟩
    obtain ⟨k, hki⟩ : ∃ k, ks[i]? = some k := ⟨_, List.getElem?_eq_getElem (by omega)⟩
    have hxy : RelV y x := by
      obtain ⟨x', q1, q2⟩ := rv.get hy
      rw [hx] at q1; cases q1
      exact q2
    have hkz : kA.size ≤ us.length := by
      have h1 := hk.length
      rw [Array.length_toList, List.length_take] at h1
      omega
    refine wpAny_bind (wpAny_attempt (K'.call I0 F hb hr hac hkc hxy (turn i y k H' hy hki hj) fun v s2 H2 hv K2 hj2 => ?_))
    try dsimp only
    obtain ⟨e, nk2⟩ := K2.hk
    have s1 := Heap.SameBut.update s2.heap kS (Obj.mapSeq (·.push v))
    obtain ⟨c2, hc2⟩ : ∃ c2, (s2.heap.update kS (Obj.mapSeq (·.push v))).get? kS = some (PyProof.Rows.seqObj "list" (kA.push v) c2) := ⟨_, PyProof.Rows.get?_update_seq nk2 (·.push v)⟩
    have ek : ks.take (i + 1) = ks.take i ++ [k] := by rw [List.take_add_one, hki]; simp
    have ea : (kA.push v).toList = kA.toList ++ [v] := by simp
    refine wpAny_bind (PyProof.Rows.listUpdate_at nk2 rfl ?_ (by rw [← hu] at hz; omega) (by rw [Array.size_push]; omega))
    obtain ⟨u2, ok2⟩ := K2.turn I0 hac hkc (h' := s2.heap.update kS (Obj.mapSeq (·.push v))) (tk := s2.toks) fun b o _ hb e => (s1.2 b hb).trans e
    refine wpAny_pure ⟨rfl, H2, kA.push v, ⟨K2.os, K2.bare, u2, ok2, K2.na, K2.nk, (s1.2 a hka.symm).trans K2.ha, c2, hc2⟩, hj2, ?_⟩
    rw [ea, ek]
    exact PySem.W.each_snoc hv hk
  case done =>
    rintro s' ⟨H', kA, K', hj, hk⟩
    have e3 : ks.take (0 + us.length) = ks := List.take_of_length_le (by omega)
    rw [e3] at hk
    rw [Nat.zero_add, hu] at hj
    obtain ⟨e, nk⟩ := K'.hk
    have hsz : kA.size = us.length := by
      have h1 := hk.length
      rw [Array.length_toList] at h1
      omega
    try dsimp only
    refine wpAny_bind (PyProof.Rows.listItems_at nk rfl ?_)
    have hk' := each_ints s'.heap hk
    have hal : PySem.W.AllAlike (ks.map PyData.int) := PySem.W.AllAlike.of fun _ _ => by simp [PySem.W.alike]
    refine PySem.W.keyH_end (prog := X.prog) (w := X.w) (b := false) (κ := PySem.W.dataKind s'.heap (ks.map PyData.int)) (h₁ := PySem.W.hideAll s'.heap [kS]) (fun b o hb e => PySem.W.of_hideAll _ e) (PySem.W.hideAll_none _ (by simp)) nk K'.ha hka
      (PySem.W.SortsAt.data hk' hal (PySem.W.Sortable.others fun _ => ⟨by simp, fun _ => by simp⟩) fun d hd => ?_) hsz (by omega) fun h3 tk3 c k3 n3 => ?_
    · obtain ⟨k, _, rfl⟩ := List.mem_map.mp hd
      have := hr.un
      show X.A.in1.in1.units + 0 < cLine
      omega
    · have e : (xs.zip ks).map (fun p => PyData.int p.2) = ks.map PyData.int := by
        rw [show (fun p : L2.V × Int => PyData.int p.2) = PyData.int ∘ Prod.snd from rfl, ← List.map_map, List.map_snd_zip (by omega)]
      have ko : PySem.W.KeyedOut false ((xs.zip ks).map fun p => PyData.int p.2) us (PySem.W.sortVals (PySem.W.dataKind s'.heap (ks.map PyData.int)) false kA.toList us) := by
        rw [e]
        exact ⟨s'.heap, kA.toList, hal, rfl, hk'⟩
      have he := PySem.W.keyedOut_each (fun p : L2.V × Int => PyData.int p.2) ko (each_of_vals rv hl)
      rw [PySem.W.dataLe_int fun p : L2.V × Int => p.2] at he
      obtain ⟨u2, ok2⟩ := K'.turn I0 hac hkc (h' := h3) (tk := tk3) fun b o h1 h2 e => k3 b o h1 (PySem.W.hideAll_get _ e (by simpa using h2))
      exact h _ H' _ c K'.os K'.bare u2 ok2 K'.na n3 (vals_of_each he) hj
theorem sortKey_run {fA : Addr} {fd : FuncData} {ps : List Str} {sp : Sp} {j : Nat} {H0 : Hp} {s0 : Shared} {l : Addr} {Q : VK} (I0 : Inv X pins σ H0 s0)
    (F : FnOk X.prog X.w X.K X.mg X.base (L2.CX X.prog X.w) j fA fd ps sp) (hb : Binds X.K fd ps []) (hr : Room (j + 2) X.A)
    {xs : List L2.V} {ks : List Int} {J : Nat → Hp → Prop} (hs : SqL X.K H0 l xs) (hl : ks.length = xs.length) (j0 : J 0 H0)
    (turn : ∀ i x k H1, xs[i]? = some x → ks[i]? = some k → J i H1 → sp [x] H1 (fun z H2 => z = .int k ∧ J (i + 1) H2) E0)
    (q : ∀ p H1, J xs.length H1 → H1 p = none → H0 p = none → Q (.ref p) (upd H1 p (.lst (byKey (xs.zip ks))))) : wpAny (model X.prog X.w) X.A (call (.builtin "sorted") [.ref l] [(Str.ofString "key", .ref fA)]) (EP X pins σ Q) X.xe s0 := by
  obtain ⟨us, rv, hl0, hz⟩ := I0.list hs
  have hu : xs.length = us.length := rv.length
  have ha0 : s0.heap.get? (s0.heap.objs.size + 1) = none := Heap.get?_none_of_le (Nat.le_succ _)
  refine PySem.W.sorted_of_sort hl0.isList (by omega) (PyProof.Rows.ksk_s1 _ _) (fun _ => PyProof.Rows.ksk_l1 _ _) fun E' => ?_
  rw [PyProof.Rows.ksk_t1]
  have ho := PySem.W.copyHeap_at s0.heap us
  have hsz : (PySem.W.copyHeap s0.heap us).objs.size = s0.heap.objs.size + 2 := by
    unfold PySem.W.copyHeap
    rw [PyProof.Rows.size_push', Heap.size_update, PyProof.Rows.size_push']
  generalize hg : PySem.W.copyHeap s0.heap us = h1 at ho hsz
  obtain ⟨e1, ho1⟩ : ∃ e1, (h1.update (s0.heap.objs.size + 1) (Obj.mapSeq fun _ => (#[] : Array Value))).get? (s0.heap.objs.size + 1) = some (PyProof.Rows.seqObj "list" #[] e1) := ⟨_, PyProof.Rows.get?_update_seq ho fun _ => #[]⟩
  have hkS : ((h1.update (s0.heap.objs.size + 1) (Obj.mapSeq fun _ => (#[] : Array Value))).push (PyProof.Rows.seqObj "tuple" us.toArray 0)).objs.size = s0.heap.objs.size + 3 := by rw [PyProof.Rows.size_push', Heap.size_update, hsz]
  unfold PyProof.Rows.ksk_tree
  refine wpAny_bind (PyProof.Rows.listItems_at ho rfl ?_)
  refine wpAny_bind (PyProof.Rows.listUpdate_at ho rfl ?_ (by rw [List.size_toArray]; omega) (Nat.zero_le _))
  refine wpAny_bind (PyProof.Rows.seqEpoch_at ho1 rfl ?_)
  refine wpAny_bind (wpAny_newTuple ?_ (by show us.length ≤ _; omega))
  refine wpAny_bind (wpAny_newList ?_ (Nat.zero_le _))
  refine wpAny_holding ?_
  have old : ∀ b o, s0.heap.get? b = some o → (PySem.W.sortingHeap h1 (s0.heap.objs.size + 1) us).get? b = some o := fun b o e =>
    PySem.W.sortingHeap_old (Nat.ne_of_lt (Nat.lt_succ_of_lt (Heap.lt_size e))) (by rw [← hg]; exact PySem.W.copyHeap_old e)
  have K : KSt X pins σ H0 s0 (s0.heap.objs.size + 1) (s0.heap.objs.size + 3) e1 H0 { s0 with heap := PySem.W.sortingHeap h1 (s0.heap.objs.size + 1) us } #[] := by
    refine ⟨rfl, I0.bare, Un.kept old, I0.hok.kept old, I0.hok.fresh (Nat.le_succ _), I0.hok.fresh (by omega), ?_, 0, ?_⟩
    · exact Heap.get?_push_of_some _ (Heap.get?_push_of_some _ ho1)
    · rw [← hkS]; exact Heap.get?_push_size _ rfl
  have e0 : (Value.ref ((h1.update (s0.heap.objs.size + 1) (Obj.mapSeq fun _ => (#[] : Array Value))).push (PyProof.Rows.seqObj "tuple" us.toArray 0)).objs.size) = .ref (s0.heap.objs.size + 3) := by rw [hkS]
  refine (show wpAny (model X.prog X.w) X.A.in1.in1 (PyProof.Rows.ksk_rest (s0.heap.objs.size + 1) (.ref fA) false us.toArray e1 (.ref ((h1.update (s0.heap.objs.size + 1) (Obj.mapSeq fun _ => (#[] : Array Value))).push (PyProof.Rows.seqObj "tuple" us.toArray 0)).objs.size)) _ E' { s0 with heap := PySem.W.sortingHeap h1 (s0.heap.objs.size + 1) us } from ?_)
  rw [e0]
  refine sortKey_rest K I0 F hb hr.in1.in1 (Nat.le_succ _) (Nat.le_add_right _ 3) (show s0.heap.objs.size + 3 ≠ s0.heap.objs.size + 1 from by omega) rv hl hz j0 turn fun s' H' out c os bare un hok na ha hv hj => ⟨rfl, ?_⟩
  have hlen : (byKey (xs.zip ks)).length ≤ sizeLine := by
    unfold byKey
    rw [List.length_map, List.length_mergeSort, List.length_zip]
    omega
  have new : ObjOk X.prog X.w (upd H' (s0.heap.objs.size + 1) (.lst (byKey (xs.zip ks)))) s'.heap (s0.heap.objs.size + 1) (.lst (byKey (xs.zip ks))) := ⟨hlen, _, c, hv, ha⟩
  exact ⟨.ref _, _, I0.call' os (un_new I0.hok un (Nat.le_succ _)) (HOk.laidN hok (fun _ _ e => e) na new) bare fun b hb => absurd hb (by simp), rfl, q _ H' hj na (I0.hok.fresh (Nat.le_succ _))⟩
end
section
variable {X : Cx} {W : WX} {K : PySem.W.Frag} {a b e : Expr} {ma mb : FE} {md : FD} {pos p kpos : Pos} {x : Str} {ps : List Str} {j k : Nat}
theorem cr_sortKey {sp : Sp} (F : OkX X.prog X.w X.K X.mg X.base j x ps sp) (hr : Room k X.A) (hjk : j + 2 ≤ k := by decide) : CallRK X (.builtin "sorted") [Str.ofString "key"] (rSortKey X.K (He.ga X.K x) sp) := by
  intro pins s σ H vs zs us ws Q I r rz h
  obtain ⟨l, xs, ks, J, rfl, rfl, hs, hl, j0, turn, q⟩ := h
  obtain rfl := Vals.ref1 r
  obtain rfl := Vals.ref1 rz
  obtain ⟨fd, F, hm, hk, hb⟩ := F
  exact sortKey_run I F hb (hr.mono hjk) hs hl j0 turn q
/-- the keys, one by one -/
def kGo (md : FD) : List PH.D → Sto → Option (List Int × Sto)
  | [], S => some ([], S)
  | d :: r, S => match md [.dat d] S with
    | .ok (.dat (.int k)) S1 => (match kGo md r S1 with
      | some (ks, S2) => some (k :: ks, S2)
      | none => none)
    | _ => none
theorem kGo_len : ∀ {ds : List PH.D} {S S' : Sto} {ks : List Int}, kGo md ds S = some (ks, S') → ks.length = ds.length
  | [], S, S', ks, h => by cases h; rfl
  | d :: r, S, S', ks, h => by
    unfold kGo at h
    split at h
    · split at h
      · rename_i q
        cases h
        simp [kGo_len q]
      · cases h
    · cases h
theorem byKey_map {α β : Type} (f : α → β) (l : List (α × Int)) : byKey (l.map fun p => (f p.1, p.2)) = (byKey l).map f := by
  unfold byKey
  rw [← List.map_mergeSort (r := fun p q : α × Int => decide (p.2 ≤ q.2)) (fun a _ b _ => rfl), List.map_map, List.map_map]
  rfl
theorem byKey_mem {α : Type} {l : List (α × Int)} {z : α} (h : z ∈ byKey l) : ∃ k, (z, k) ∈ l := by
  obtain ⟨q, h1, rfl⟩ := List.mem_map.mp h
  exact ⟨q.2, (List.mergeSort_perm l _).mem_iff.mp h1⟩
theorem repL_pairs {Bk : Addr → Prop} {H : Hp} : ∀ {l : List (PH.D × L2.V)}, (∀ p ∈ l, Rep K Bk H p.1 p.2) → RepL K Bk H (l.map (·.1)) (l.map (·.2))
  | [], _ => rfl
  | p :: r, h => ⟨_, _, rfl, h p (List.mem_cons_self ..), repL_pairs fun q hq => h q (List.mem_cons_of_mem _ hq)⟩
theorem repL_zip {Bk : Addr → Prop} {H : Hp} : ∀ {ds : List PH.D} {vs : List L2.V}, RepL K Bk H ds vs → ∀ p ∈ ds.zip vs, Rep K Bk H p.1 p.2
  | [], _, h, p, hp => by simp at hp
  | d :: r, _, ⟨v, vs, rfl, h1, h2⟩, p, hp => by
    rcases List.mem_cons.mp hp with rfl | hp
    · exact h1
    · exact repL_zip h2 p hp
theorem repL_byKey {Bk : Addr → Prop} {H : Hp} {ds : List PH.D} {vs : List L2.V} {ks : List Int} (h : RepL K Bk H ds vs) (hl : ks.length = ds.length) : RepL K Bk H (byKey (ds.zip ks)) (byKey (vs.zip ks)) := by
  have h0 := h.len
  have e1 : ds.zip ks = ((ds.zip vs).zip ks).map fun p => (p.1.1, p.2) := by
    apply List.ext_getElem?
    intro i
    simp only [List.getElem?_map, List.getElem?_zip_eq_some, List.zip, List.getElem?_zipWith]
    cases q1 : ds[i]? with
    | none => rfl
    | some d =>
      obtain ⟨v, q2, _⟩ := h.get q1
      rw [q2]
      cases ks[i]? <;> rfl
  have e2 : vs.zip ks = ((ds.zip vs).zip ks).map fun p => (p.1.2, p.2) := by
    apply List.ext_getElem?
    intro i
    simp only [List.getElem?_map, List.getElem?_zip_eq_some, List.zip, List.getElem?_zipWith]
    cases q1 : ds[i]? with
    | none =>
      have q2 : vs[i]? = none := by
        rw [List.getElem?_eq_none_iff] at q1 ⊢
        omega
      rw [q2]
      rfl
    | some d =>
      obtain ⟨v, q2, _⟩ := h.get q1
      rw [q2]
      cases ks[i]? <;> rfl
  rw [e1, e2, byKey_map (fun p : PH.D × L2.V => p.1), byKey_map (fun p : PH.D × L2.V => p.2)]
  refine repL_pairs fun p hp => ?_
  obtain ⟨k, hk⟩ := byKey_mem hp
  exact repL_zip h p (List.of_mem_zip hk).1
theorem fin_ext {α β : Type} {σ : L2.St} {R : Rl α β} {B : Addr → Prop} {φ φ1 : List Addr} {S S1 : Sto} {H H1 : Hp} {r : Res α} {Q : β → Hp → Prop} (f : Fin K W σ R B φ S H r Q) (X : Ext φ S H φ1 S1 H1) : Fin K W σ R B φ1 S1 H1 r Q := by
  cases r with
  | ok d S' => exact fun φ' v H' I' X' r' => f φ' v H' I' (X.trans X') r'
  | err e S' => exact fun φ' c x H' I' X' r' => f φ' c x H' I' (X.trans X') r'
  | stuck => exact f
def fSortK (cl : Bool) (md : FD) (x : Vl) (S : Sto) : Res Vl := match seqL S x with
  | some ds => (match kGo md ds S with
    | some (ks, S2) => newL cl (byKey (ds.zip ks)) S2
    | none => .stuck)
  | none => .stuck
theorem f_sortK {cl : Bool} {p2 : Pos} (hn : X.mg "sorted" = none) (F : OkX X.prog X.w X.K X.mg X.base j x ps (spF X.K md)) (hr : Room k X.A) (hm : X.mg x = some (.ref (He.ga X.K x))) (ha : PE X a (rdE X.K W ma)) (hjk : j + 2 ≤ k := by decide) (hgx : Gl X x := by rfl) (hdx : (x == ("__debug__" : Str)) = false := by decide) (hg : Gl X "sorted" := by rfl)
    (he : backTo pos (starEach [a] X.env) = (false, eval a X.env) :: backTo pos (starEach [] X.env) := by rfl) (hs : starEach [a] X.env = [(false, eval a X.env)] := by rfl) (hpl : (backTo pos (starEach [a] X.env)).any (·.1) = false := by rfl)
    (hall : (backToKw pos (keywordEach [⟨some (Str.ofString "key"), .Name x p2, kpos⟩] X.env)).all (·.1.isSome) = true := by rfl) (hnone : (backToKw pos (keywordEach [⟨some (Str.ofString "key"), .Name x p2, kpos⟩] X.env)).any (·.1.isNone) = false := by rfl) (hks : (backToKw pos (keywordEach [⟨some (Str.ofString "key"), .Name x p2, kpos⟩] X.env)).filterMap (·.1) = [Str.ofString "key"] := by rfl) :
    PE X (.Call (.Name "sorted" p) [a] [⟨some (Str.ofString "key"), .Name x p2, kpos⟩] pos) (rdE X.K W (m1 (fSortK cl md) ma)) :=
  PE_imp (pe_callBK (cr_sortKey F hr hjk) hg hn boot_sorted (pa_cons ha pa_nil hs) (pk_cons (pe_glob (v := .ref (He.ga X.K x)) hgx hm rfl hdx) pk_nil) (he := he) (hpl := hpl) (hall := hall) (hnone := hnone) (hks := hks)) fun σ H Q h =>
    rd_bind (k := fun x _ S => fSortK cl md x S) h fun B φ S ρ d v H1 I E r f => by
      unfold fSortK at f
      split at f
      case h_2 => exact f.elim
      rename_i ds q
      obtain ⟨a', vs, rfl, h1, l⟩ := seqL_ok I q r
      split at f
      case h_2 => exact f.elim
      rename_i ks S2 q2
      have hl := kGo_len q2
      have hv := l.len
      refine ⟨a', vs, ks, fun i H' => ∃ φ' S', GInv X.K B φ' S' H' ∧ Ext φ S H1 φ' S' H' ∧ kGo md (ds.drop i) S' = some (ks.drop i, S2), rfl, rfl, SqL.of h1, by omega, ⟨φ, S, I, Ext.refl, q2⟩, ?_, ?_⟩
      · rintro i y k H' hy hk ⟨φ', S', I', X', g⟩
        obtain ⟨d', hd, rd'⟩ : ∃ d', ds[i]? = some d' ∧ Rep X.K (Blk B φ S) H1 d' y := by
          have hi : i < ds.length := by have := (List.getElem?_eq_some_iff.mp hy).1; omega
          obtain ⟨v', h3, h4⟩ := l.get (i := i) (d := ds[i]) (List.getElem?_eq_getElem hi)
          rw [hy] at h3
          cases h3
          exact ⟨_, List.getElem?_eq_getElem hi, h4⟩
        have ei : ds.drop i = d' :: ds.drop (i + 1) := by
          obtain ⟨hi, e⟩ := List.getElem?_eq_some_iff.mp hd
          rw [List.drop_eq_getElem_cons hi, e]
        have ek : ks.drop i = k :: ks.drop (i + 1) := by
          obtain ⟨hi, e⟩ := List.getElem?_eq_some_iff.mp hk
          rw [List.drop_eq_getElem_cons hi, e]
        rw [ei, ek] at g
        unfold kGo at g
        split at g
        case h_2 => cases g
        rename_i k' S3 q3
        split at g
        case h_2 => cases g
        rename_i ks' S4 q4
        cases g
        refine ⟨B, φ', S', [.dat d'], I', ⟨_, _, rfl, Rep.kp (X'.kp I) _ _ rd', rfl⟩, ?_⟩
        rw [q3]
        intro φ3 v3 H3 I3 X3 r3
        exact ⟨r3, φ3, S3, I3, X'.trans X3, q4⟩
      · rintro p' H' ⟨φ', S', I', X', g⟩ hp hp1
        rw [List.drop_of_length_le (by omega), List.drop_of_length_le (by omega)] at g
        cases g
        exact Fin.newL (fin_ext f X') I' (repL_byKey (X'.repL I l) hl) hp
end
def minOf (n : Int) (l : List Int) : Int := l.foldl (fun a b => if b < a then b else a) n
theorem minOf_le : ∀ (l : List Int) (n : Int), minOf n l ≤ n ∧ ∀ a ∈ l, minOf n l ≤ a
  | [], n => ⟨Int.le_refl _, fun a h => absurd h (by simp)⟩
  | b :: r, n => by
    obtain ⟨h1, h2⟩ := minOf_le r (if b < n then b else n)
    have e : minOf n (b :: r) = minOf (if b < n then b else n) r := rfl
    rw [e]
    have hc : (if b < n then b else n) ≤ b ∧ (if b < n then b else n) ≤ n := by split <;> omega
    refine ⟨by omega, fun a ha => ?_⟩
    · rcases List.mem_cons.mp ha with rfl | ha
      · omega
      · exact h2 a ha
theorem minOf_mem : ∀ (l : List Int) (n : Int), minOf n l ∈ n :: l
  | [], n => by simp [minOf]
  | b :: r, n => by
    have h := minOf_mem r (if b < n then b else n)
    have e : minOf n (b :: r) = minOf (if b < n then b else n) r := rfl
    rw [e]
    rcases List.mem_cons.mp h with h | h
    · rw [h]
      split <;> simp
    · exact List.mem_cons_of_mem _ (List.mem_cons_of_mem _ h)
section
variable {X : Cx} {W : WX} {K : PySem.W.Frag} {a b e : Expr} {ma mb : FE} {pos p : Pos}
theorem cr_minL (hc : X.calm = true) : CallR X (.builtin "min") (fun vs H Q => ∃ (l : Addr) (n : Int) (ns : List Int), vs = [.ref l] ∧ SqL X.K H l ((n :: ns).map V.int) ∧ Q (.int (minOf n ns)) H) := by
  intro pins s σ H vs us Q I r h
  obtain ⟨l, n, ns, rfl, hs, q⟩ := h
  obtain ⟨its, rv, hl, _⟩ := I.list hs
  rw [Vals.ref1 r]
  have hi := rv.ints
  obtain ⟨xs, e⟩ := hi.allInts.items
  have hns : n :: ns = xs.toList.map (·.1) := by rw [← hi.numsOf, ← nums_intItems, ← e]
  have hsz : 0 < xs.size := by
    have h3 := congrArg List.length hns
    rw [List.length_cons, List.length_map] at h3
    have h4 : xs.toList.length = xs.size := Array.length_toList
    omega
  have hl' := hl.isList
  rw [e] at hl'
  refine min_intList (I.ok.hd hc) hl' hsz fun v h' tk hv hk => ?_
  obtain ⟨t, rfl⟩ := intItems_at hv
  obtain ⟨h1, h2⟩ := argBest_lt (numAt xs) (xs.size - 1)
  have m1 : numAt xs (argBest (fun i j => decide (numAt xs i < numAt xs j)) (xs.size - 1)) ∈ n :: ns := by
    rw [hns, numAt_eq]
    exact getD_mem (by rw [List.length_map, Array.length_toList]; omega)
  have m2 : ∀ a ∈ n :: ns, numAt xs (argBest (fun i j => decide (numAt xs i < numAt xs j)) (xs.size - 1)) ≤ a := fun a ha => by
    rw [hns] at ha
    obtain ⟨j, hj, rfl⟩ := mem_getD ha
    rw [List.length_map, Array.length_toList] at hj
    rw [← numAt_eq]
    exact h2 j (by omega)
  have m3 := minOf_mem ns n
  have m4 := minOf_le ns n
  have em : numAt xs (argBest (fun i j => decide (numAt xs i < numAt xs j)) (xs.size - 1)) = minOf n ns := by
    refine Int.le_antisymm (m2 _ m3) ?_
    rcases List.mem_cons.mp m1 with z | z
    · rw [z]; exact m4.1
    · exact m4.2 _ z
  rw [em]
  exact ⟨.int (minOf n ns), H, I.kept hk, ⟨t, rfl⟩, q⟩
def fMinL (x : Vl) (S : Sto) : Res Vl := match seqL S x with
  | some ds => (match allInt ds with
    | some (n :: ns) => .ok (.dat (.int (minOf n ns))) S
    | _ => .stuck)
  | none => .stuck
theorem f_minL (hm : X.mg "min" = none) (ha : PE X a (rdE X.K W ma)) (hc : X.calm = true := by rfl) (hg : Gl X "min" := by rfl) (hs : starEach [a] X.env = [(false, eval a X.env)] := by rfl) : PE X (.Call (.Name "min" p) [a] [] pos) (rdE X.K W (m1 fMinL ma)) :=
  PE_imp (pe_callB (cr_minL hc) hg hm boot_min (pa_cons ha pa_nil hs) (he := hs)) fun σ H Q h => rd_bind (k := fun x _ S => fMinL x S) h fun B φ S ρ d v H1 I E r f => by
    unfold fMinL at f
    split at f
    · rename_i ds q
      obtain ⟨a, vs, rfl, h1, l⟩ := seqL_ok I q r
      split at f
      · rename_i n ns q2
        have e := allInt_ok q2 l
        subst e
        exact ⟨a, n, ns, rfl, SqL.of h1, Fin.now f I rfl⟩
      · exact f.elim
    · exact f.elim
def rModN : R2 := fun x y H Q => match x, y with
  | .int i, .int j => j ≠ 0 ∧ Q (.int (i.fmod j)) H
  | _, _ => False
def rFdivN : R2 := fun x y H Q => match x, y with
  | .int i, .int j => j ≠ 0 ∧ Q (.int (i.fdiv j)) H
  | _, _ => False
theorem op_modNC : OpR X (binaryOp .Mod) rModN := OpR_imp op_modN fun x y H Q h => cI_to (C := fun _ j => j ≠ 0) (g := fun i j => .int (i.fmod j)) x y H Q h
/-- what a division of long numbers asks of the base -/
def SeerK (K : PySem.W.Frag) (mg : Str → Option Value) : Prop := ∀ base : Heap, Mod K mg base → base.NoSeer
structure Tre (P : Program) : Prop where
  tree : P.given.tree = none
def StkS (l : List Env) : Prop := match l with
  | env :: _ => env.scope.isGenerator = false ∧ env.scope.isCoroutine = false ∧ env.builtins = builtinsNs ∧ env.globals = mainGlobals
  | [] => False
theorem op_fdivN {k : Nat} (sk : SeerK X.K X.mg) (tr : Tre X.prog) (st : StkS X.stack) (hr : Room k X.A) (hk : 32 ≤ k := by decide) : OpR X (binaryOp .FloorDiv) rFdivN := by
  intro pins s σ H x y v u Q I rx ry h
  unfold rFdivN at h
  split at h
  · rename_i i j
    obtain ⟨t, rfl⟩ := rx
    obtain ⟨t', rfl⟩ := ry
    refine floordiv_int h.1 ⟨.int (i.fdiv j), H, I.tok _, ⟨_, rfl⟩, h.2⟩ (.inr ?_)
    cases hst : X.stack with
    | nil => rw [hst] at st; exact st.elim
    | cons env l =>
      rw [hst] at st
      obtain ⟨h1, h2, h3, h4⟩ := st
      refine PylongRoom.of I.nolimit ?_ (SeerAt.of ((sk _ I.ok.mod).keeps I.bk) tr.tree (by rw [I.ok.frames, hst]) h1 h2 h3 h4)
      have := hr.dp
      show X.A.depth + 100 < recursionLimit
      omega
  · exact h.elim
def fModN : Vl → Vl → Sto → Res Vl
  | .dat (.int i), .dat (.int j), S => if j ≠ 0 then .ok (.dat (.int (i.fmod j))) S else .stuck
  | _, _, _ => .stuck
def fFdivN : Vl → Vl → Sto → Res Vl
  | .dat (.int i), .dat (.int j), S => if j ≠ 0 then .ok (.dat (.int (i.fdiv j))) S else .stuck
  | _, _, _ => .stuck
theorem s_modN : SimOp K rModN fModN := fun {W σ B φ S H x y d e Q} I r1 r2 f => by
  unfold fModN at f
  split at f
  · cases r1; cases r2
    split at f
    · rename_i h; exact ⟨h, Fin.now f I rfl⟩
    · exact f.elim
  · exact f.elim
theorem s_fdivN : SimOp K rFdivN fFdivN := fun {W σ B φ S H x y d e Q} I r1 r2 f => by
  unfold fFdivN at f
  split at f
  · cases r1; cases r2
    split at f
    · rename_i h; exact ⟨h, Fin.now f I rfl⟩
    · exact f.elim
  · exact f.elim
end
section
variable {X : Cx} {C : Str} {md : FD} {j k : Nat} {ps : List Str} {K : PySem.W.Frag}
end
theorem stk_of {N P : List Str} {qual : Str} {sc : Scope} {L f : Addr} {cd : Value} {outer : List Env} (S : FnScope N P sc) : StkS (envOfC qual sc L f cd :: outer) := ⟨S.gen, S.co, rfl, rfl⟩
def strKeysB (es : Array DictEntry) : Bool := es.toList.all fun e => match e.key with | .str _ _ => true | _ => false
theorem strKeysB_ok {es : Array DictEntry} (h : strKeysB es = true) : StrKeys es := fun e he => by
  have q := List.all_eq_true.mp h e (Array.mem_toList_iff.mpr he)
  cases k : e.key with
  | str n t => exact ⟨n, t, rfl⟩
  | _ => rw [k] at q; cases q
def dictIn (K : PySem.W.Frag) (a : Addr) : Option (Array DictEntry) := match K.lookup a with
  | some ⟨_, _, .dict es _, _⟩ => some es
  | _ => none
theorem dictIn_ok {K : PySem.W.Frag} {a : Addr} {es : Array DictEntry} (h : dictIn K a = some es) : ∃ o ep, K.lookup a = some o ∧ o.data = .dict es ep := by
  unfold dictIn at h
  split at h
  · rename_i q
    cases h
    exact ⟨_, _, q, rfl⟩
  · cases h
def isNone {α : Type} : Option α → Bool
  | none => true
  | some _ => false
theorem isNone_ok {α : Type} {x : Option α} (h : isNone x = true) : x = none := by
  cases x with
  | none => rfl
  | some _ => cases h
def seerB (K : PySem.W.Frag) : Bool := (match dictIn K cStatics with
    | some es => isNone (nsFind es "sys.audit-hooks") && isNone (nsFind es "sys.dict")
    | none => false) && ((match dictIn K sysModules with
    | some es => strKeysB es && isNone (nsFind es "_pylong")
    | none => false) && (match dictIn K mainGlobals with
    | some es => (match nsFind es "__builtins__" with
      | some (.ref bm) => (match K.lookup bm with
        | some ⟨.type c, some d, _, _⟩ => decide (c = "module") && decide (d = builtinsNs)
        | _ => false)
      | _ => false)
    | none => false))
theorem seerB_ok {K : PySem.W.Frag} {mg : Str → Option Value} (h : seerB K = true) : SeerK K mg := by
  intro base M
  obtain ⟨h1, h2⟩ := He.ba h
  obtain ⟨h2, h3⟩ := He.ba h2
  refine ⟨?_, ?_, M.blt, ?_⟩
  · split at h1
    case h_2 => cases h1
    rename_i es q
    obtain ⟨o, ep, q1, q2⟩ := dictIn_ok q
    obtain ⟨mc, ⟨o', es', ep', e1, e2, e3, e4⟩, _⟩ := M.nolimit
    have e5 := M.kin _ _ q1
    rw [e1] at e5
    cases e5
    rw [q2] at e2
    cases e2
    obtain ⟨k1, k2⟩ := He.ba h1
    exact ⟨mc, ⟨_, es, _, e1, q2, e3, e4⟩, by rw [← e4]; exact isNone_ok k1, by rw [← e4]; exact isNone_ok k2⟩
  · split at h2
    case h_2 => cases h2
    rename_i es q
    obtain ⟨o, ep, q1, q2⟩ := dictIn_ok q
    obtain ⟨k1, k2⟩ := He.ba h2
    exact ⟨nsFind es, ⟨o, es, ep, M.kin _ _ q1, q2, strKeysB_ok k1, fun _ => rfl⟩, isNone_ok k2⟩
  · split at h3
    case h_2 => cases h3
    rename_i es q
    obtain ⟨o, ep, q1, q2⟩ := dictIn_ok q
    split at h3
    case h_2 => cases h3
    rename_i bm qb
    split at h3
    case h_2 => cases h3
    rename_i c d dt sl ql
    obtain ⟨k1, k2⟩ := He.ba h3
    obtain ⟨o', es', ep', e1, e2, e3, e4⟩ := id M.glob
    have e5 := M.kin _ _ q1
    rw [e1] at e5
    cases e5
    rw [q2] at e2
    cases e2
    refine ⟨mg, bm, _, M.glob, by rw [← e4]; exact qb, M.kin _ _ ql, ?_, ?_⟩
    · rw [of_decide_eq_true k1]
    · rw [of_decide_eq_true k2]
def frQ (g : Addr → Option Obj) (n : Nat) : PySem.W.Frag := He.frG g (He.asD g n ++ [sysModules, cStatics])
def obsQ (n : Nat) (fa : List He.Fa) (fn : List He.DefD) (ts : List He.Tab) (ex : PySem.W.Frag → Bool) (g : Addr → Option Obj) : He.AlT × Bool := (He.obsT fa fn ts (frQ g n), ex (frQ g n))
def hookQ (n : Nat) (fa : List He.Fa) (fn : List He.DefD) (ts : List He.Tab) (ex : PySem.W.Frag → Bool) : PySem.W.Hook where
  α := He.AlT × Bool
  obs := fun s => obsQ n fa fn ts ex s.heap.get?
  val := fun w => (He.valT fn ts w, true)
  says := fun w h => ∃ K : PySem.W.Frag, K.In h ∧ He.SaysT fa fn ts w K ∧ ex K = true
  of := fun _ _ e => ⟨_, He.frG_in, congrArg (fun z : He.AlT × Bool => z.1) e, congrArg (fun z : He.AlT × Bool => z.2) e⟩
  keeps := fun _ _ _ ⟨K, hK, c⟩ k => ⟨K, PySem.W.Frag.In.keeps hK k, c⟩
theorem obsQ_eq {n : Nat} {fa : List He.Fa} {fn : List He.DefD} {ts : List He.Tab} {ex : PySem.W.Frag → Bool} {g : Addr → Option Obj} {s : Shared} (h : ∀ a, g a = s.heap.get? a) : obsQ n fa fn ts ex g = (hookQ n fa fn ts ex).obs s := by
  have e : g = s.heap.get? := funext h
  rw [e] <;> rfl
end PH

namespace PH
open PySem PySem.Spec PyProof.Rows L2
def isIntB : PH.D → Bool
  | .int _ => true
  | _ => false
def isLstB : PH.D → Bool
  | .lst _ => true
  | _ => false
def flatC : Cell → Bool
  | .dead => true
  | .lst ds => ds.all isIntB
  | _ => false
section
variable {K : PySem.W.Frag} {B : Addr → Prop} {φ φ' : List Addr} {S S' : Sto} {H H' : Hp}
theorem repL_intB {Bk Bk' : Addr → Prop} : ∀ {ds : List PH.D} {vs : List L2.V}, ds.all isIntB = true → RepL K Bk H ds vs → RepL K Bk' H' ds vs
  | [], vs, _, h => h
  | d :: ds, vs, hi, ⟨v, ws, e, h1, h2⟩ => by
    rw [List.all_cons] at hi
    obtain ⟨a1, a2⟩ := Bool.and_eq_true_iff.mp hi
    refine ⟨v, ws, e, ?_, repL_intB a2 h2⟩
    cases d with
    | int i => exact h1
    | _ => cases a1
structure Back (K : PySem.W.Frag) (B : Addr → Prop) (φ : List Addr) (S : Sto) (H : Hp) (φ' : List Addr) (S' : Sto) (H' : Hp) (n : Nat) (es : List PH.D) : Prop where
  inv : GInv K B φ' (S'.set n (.lst es)) H'
  ext : Ext φ S H φ' (S'.set n (.lst es)) H'
theorem alive_back {n : Nat} {c : Cell} {a b : Addr} (ha : φ'[n]? = some a) (h : Alive φ' (S'.set n c) b) : b = a ∨ Alive φ' S' b := by
  obtain ⟨m, c', h1, h2, h3⟩ := h
  by_cases e : n = m
  · subst e
    rw [ha] at h3
    cases h3
    exact .inl rfl
  · rw [List.getElem?_set, if_neg e] at h1
    exact .inr ⟨m, c', h1, h2, h3⟩
theorem back_ok {n : Nat} {a : Addr} {es : List PH.D} (I : GInv K B φ S H) (hn : S[n]? = some (.lst es)) (ha : φ[n]? = some a) (I' : GInv K B φ' S' H') (X' : Ext φ (S.set n .dead) H φ' S' H') (hn' : n < S'.length) (hf : (S'.set n .dead).all flatC = true) :
    Back K B φ S H φ' S' H' n es ∧ ∃ vs, RepL K (Blk B φ S) H es vs ∧ H' a = some (.lst vs) ∧ (∀ b, Blk B φ' (S'.set n (.lst es)) b → b = a ∨ Blk B φ' S' b) := by
  obtain ⟨vs, h2, l⟩ := I.ok n _ a hn ha
  have al : Alive φ S a := ⟨n, _, hn, by simp, ha⟩
  have nk : ¬ Blk B φ (S.set n .dead) a := I.killed hn (by simp) ha
  have nk' : ¬ Alive φ (S.set n .dead) a := fun q => nk (.inr q)
  obtain ⟨h3, h4⟩ := X'.old a _ h2 nk'
  have ha' := X'.ids n a ha
  have old : ∀ b o, H b = some o → ¬ Alive φ S b → H' b = some o ∧ b ≠ a ∧ ¬ Alive φ' S' b := fun b o e nb => by
    obtain ⟨k1, k2⟩ := X'.old b o e fun q => nb (alive_kill q)
    exact ⟨k1, fun z => nb (by rw [z]; exact al), k2⟩
  have old2 : ∀ b o, H b = some o → ¬ Alive φ S b → ¬ Alive φ' (S'.set n (.lst es)) b := fun b o e nb q => by
    obtain ⟨_, k2, k3⟩ := old b o e nb
    rcases alive_back ha' q with z | z
    · exact k2 z
    · exact k3 z
  have ext : Ext φ S H φ' (S'.set n (.lst es)) H' := ⟨fun b o e nb => ⟨(old b o e nb).1, old2 b o e nb⟩, X'.ids⟩
  have l' : RepL K (Blk B φ' (S'.set n (.lst es))) H' es vs := ext.repL I l
  refine ⟨⟨⟨by simp [I'.len], fun m c b h1 h5 => ?_, fun i j d d' b h1 h5 h6 h7 h8 h9 => ?_, fun b h => ?_, I'.btr⟩, ext⟩, vs, l, h3, fun b hb => ?_⟩
  · by_cases e : n = m
    · subst e
      rw [List.getElem?_set, if_pos rfl, if_pos hn'] at h1
      cases h1
      rw [ha'] at h5
      cases h5
      exact ⟨vs, h3, l'⟩
    · rw [List.getElem?_set, if_neg e] at h1
      have q := I'.ok m c b h1 h5
      have fl : flatC c = true := List.all_eq_true.mp hf c (List.mem_of_getElem? (i := m) (by rw [List.getElem?_set, if_neg e]; exact h1))
      cases c with
      | dead => trivial
      | lst ds => obtain ⟨ws, e1, r⟩ := q; exact ⟨ws, e1, repL_intB fl r⟩
      | _ => cases fl
  · have key : ∀ (i : Nat) (d : Cell), (S'.set n (.lst es))[i]? = some d → i ≠ n → S'[i]? = some d := fun i d h hi => by
      rw [List.getElem?_set, if_neg (Ne.symm hi)] at h
      exact h
    by_cases ei : i = n
    · by_cases ej : j = n
      · rw [ei, ej]
      · subst ei
        rw [ha'] at h8
        cases h8
        exact absurd ⟨j, d', key j d' h6 ej, h7, h9⟩ h4
    · by_cases ej : j = n
      · subst ej
        rw [ha'] at h9
        cases h9
        exact absurd ⟨i, d, key i d h1 ei, h5, h8⟩ h4
      · exact I'.inj i j d d' b (key i d h1 ei) h5 (key j d' h6 ej) h7 h8 h9
  · rcases alive_back ha' h with z | z
    · rw [z]; exact I.blk a al
    · exact I'.blk b z
  · rcases hb with hb | hb
    · exact .inr (.inl hb)
    · rcases alive_back ha' hb with z | z
      · exact .inl z
      · exact .inr (.inr z)
theorem repVs_set {B : Addr → Prop} {x : Vl} : ∀ {ds : List Vl} {vs : List L2.V} {j : Nat} {v : L2.V}, RepVs K B φ S H ds vs → vs[j]? = some v → RepV K B φ S H x v → RepVs K B φ S H (ds.set j x) vs
  | [], vs, j, v, h, hv, _ => by cases h; simp at hv
  | d :: ds, _, 0, v, ⟨w, ws, rfl, h1, h2⟩, hv, hx => by
    cases hv
    exact ⟨_, _, rfl, hx, h2⟩
  | d :: ds, _, j + 1, v, ⟨w, ws, rfl, h1, h2⟩, hv, hx => ⟨_, _, rfl, h1, repVs_set h2 (by simpa using hv) hx⟩
theorem repVs_at {B : Addr → Prop} : ∀ {ds : List Vl} {vs : List L2.V} {j : Nat} {d : Vl}, RepVs K B φ S H ds vs → ds[j]? = some d → ∃ v, vs[j]? = some v ∧ RepV K B φ S H d v
  | [], vs, j, d, h, hd => by simp at hd
  | e :: ds, _, 0, d, ⟨w, ws, rfl, h1, h2⟩, hd => by
    cases hd
    exact ⟨w, rfl, h1⟩
  | e :: ds, _, j + 1, d, ⟨w, ws, rfl, h1, h2⟩, hd => repVs_at (j := j) h2 (by simpa using hd)
end
def borR (n : Nat) (es : List PH.D) (r : Res Vl) : Res Vl := match r with
  | .ok (.dat (.lst (x :: xs))) S2 => if (x :: xs).all isIntB = true ∧ n < S2.length ∧ (S2.set n .dead).all flatC = true then .ok (.dat (.lst (x :: xs))) (S2.set n (.lst es)) else .stuck
  | _ => .stuck
def kBor (j : Nat) (md : FD) (ds : List Vl) (S1 : Sto) : Res Vl := match ds[j]? with
  | some (.cel n) => (match S1[n]? with
    | some (.lst es) => if es.all isLstB = true then borR n es (md (ds.set j (.dat (.lst es))) (S1.set n .dead)) else .stuck
    | _ => .stuck)
  | _ => .stuck
def mBor (j : Nat) (md : FD) (as : FA) : FE := fun ρ S => (as ρ S).bind (kBor j md)
section
variable {X : Cx} {W : WX} {e : Expr} {es : List Expr} {pos p : Pos} {x : Str} {mas : FA} {ps : List Str} {md : FD} {j k jj : Nat}
theorem f_callB (F : OkX X.prog X.w X.K X.mg X.base j x ps (spF X.K md)) (hr : Room k X.A) (tk : Takes X W) (ha : PA X (e :: es) (rdA X.K W mas)) (hjk : j ≤ k := by decide) (hg : Gl X x := by rfl) (hdb : (x == ("__debug__" : Str)) = false := by decide)
    (he : starEach (e :: es) X.env = (false, eval e X.env) :: starEach es X.env := by rfl) (hpl : (backTo pos (starEach es X.env)).any (·.1) = false := by rfl) : PE X (.Call (.Name x p) (e :: es) [] pos) (rdE X.K W (mBor jj md mas)) := by
  obtain ⟨fd, F, hm, hk, hb⟩ := F
  refine PE_imp (pe_callS (E := WE W) F (hr.mono hjk) hg hm hk hb (fun σ => passAt tk σ) ha hdb he hpl) fun σ H Q h => ?_
  refine rd_bind (k := fun ds _ S => kBor jj md ds S) h fun B φ S ρ d v H1 I E r f => ?_
  unfold kBor at f
  split at f
  case h_2 => exact f.elim
  rename_i n qd
  split at f
  case h_2 => exact f.elim
  rename_i es' qn
  split at f
  case isFalse => exact f.elim
  rename_i hes
  obtain ⟨va, hva, a, rfl, ha'⟩ := repVs_at r qd
  obtain ⟨vs, h2, l⟩ := I.ok n _ a qn ha'
  have X1 := Ext.kill (φ := φ) (S := S) (H := H1) (n := n)
  have r1 : RepVs X.K B φ (S.set n .dead) H1 (d.set jj (.dat (.lst es'))) v := repVs_set (r.ext X1 I) hva ⟨a, vs, rfl, I.killed qn (by simp) ha', h2, X1.repL I l⟩
  refine ⟨B, φ, S.set n .dead, _, I.kill, r1, ?_⟩
  unfold borR at f
  split at f
  case h_2 => exact f.elim
  rename_i y ys S2 qm
  rw [qm]
  split at f
  case isFalse => exact f.elim
  rename_i hc
  obtain ⟨c1, c2, c3⟩ := hc
  intro φ' u H' I' X' r'
  obtain ⟨bk, vs', l', h3, bl⟩ := back_ok I qn ha' I' X' c2 c3
  refine f φ' u H' bk.inv bk.ext ?_
  obtain ⟨ra, rvs, e1, nb, h4, rl⟩ := r'
  have ne : ra ≠ a := fun z => by
    rw [z, h3] at h4
    cases h4
    obtain ⟨w, ws, e2, r2, _⟩ := rl
    cases y with
    | int i =>
      obtain rfl : w = .int i := r2
      cases es' with
      | nil =>
        obtain rfl := l'
        cases e2
      | cons d0 es0 =>
        obtain ⟨w0, ws0, e3, r3, _⟩ := l'
        rw [e2] at e3
        cases e3
        cases d0 with
        | lst dd => obtain ⟨b0, _, e4, _⟩ := r3; cases e4
        | _ => rw [List.all_cons] at hes; cases (Bool.and_eq_true_iff.mp hes).1
    | _ => rw [List.all_cons] at c1; cases (Bool.and_eq_true_iff.mp c1).1
  have nb' : ¬ Blk B φ' (S2.set n (.lst es')) ra := fun q => by
    rcases bl ra q with z | z
    · exact ne z
    · exact nb z
  exact ⟨ra, rvs, e1, nb', h4, repL_intB c1 rl⟩
end
section
variable {S : Sto} {ρ : Ev} {mas : FA} {md : FD} {j : Nat}
theorem g_bor : mBor j md mas ρ S = (mas ρ S).bind (kBor j md) := rfl
theorem kBor_ok {n : Nat} {ds : List Vl} {es xs : List PH.D} {x : PH.D} {S2 : Sto} (h1 : ds[j]? = some (.cel n)) (h2 : S[n]? = some (.lst es)) (h3 : es.all isLstB = true) (h4 : md (ds.set j (.dat (.lst es))) (S.set n .dead) = .ok (.dat (.lst (x :: xs))) S2) (h5 : (x :: xs).all isIntB = true) (h6 : n < S2.length) (h7 : (S2.set n .dead).all flatC = true) :
    kBor j md ds S = .ok (.dat (.lst (x :: xs))) (S2.set n (.lst es)) := by
  unfold kBor
  rw [h1]
  dsimp only
  rw [h2]
  dsimp only
  rw [if_pos h3, h4]
  unfold borR
  dsimp only
  rw [if_pos ⟨h5, h6, h7⟩]
end
end PH

namespace PH
open PySem PySem.Spec PyProof.Rows L2
section
variable {X : Cx} {C : Str} {md : FD} {j k : Nat} {ps : List Str} {K : PySem.W.Frag} {mn : Str}
end
end PH

namespace PH
open PySem PySem.Spec PyProof.Rows L2
section
variable {X : Cx} {W : WX} {e a b c o i : Expr} {es rest : List Expr} {pos pos' p q p2 tpos apos cpos : Pos} {x y z C f : Str} {K : PySem.W.Frag} {ma mb mc mo me mv : FE} {mi : FI} {mt mu : FT} {mas : FA} {B : Addr → Prop} {φ φ' : List Addr} {S S' : Sto} {H H' : Hp} {σ : L2.St} {Q : VK} {m n : FS} {st : Stmt} {sts : List Stmt} {D : Ends} {t t1 : Tg}
def cellL (S : Sto) (n : Nat) : Option (List Vl) := match S[n]? with
  | some (.lst ds) => some (ds.map Vl.dat)
  | some (.lv xs) => some xs
  | _ => none
def loopC (t : Tg) (mb : FS) (n : Nat) : Nat → Nat → Ev → Sto → Out
  | 0, _, _, _ => .stuck
  | k + 1, i, ρ, S => match cellL S n with
    | none => .stuck
    | some xs => match xs[i]? with
      | none => .next ρ S
      | some d => match tgF t d ρ with
        | none => .stuck
        | some ρ1 => match mb ρ1 S with
          | .next ρ2 S2 => loopC t mb n k (i + 1) ρ2 S2
          | .cnt ρ2 S2 => loopC t mb n k (i + 1) ρ2 S2
          | .brk ρ2 S2 => .next ρ2 S2
          | .ret d S2 => .ret d S2
          | .err e ρ2 S2 => .err e ρ2 S2
          | .stuck => .stuck
def kForC (t : Tg) (mb : FS) (ρ : Ev) (x : Vl) (S : Sto) : Out := match x with
  | .cel n => loopC t mb n 1000000 0 ρ S
  | _ => .stuck
def mForC (a : FE) (t : Tg) (mb : FS) : FS := fun ρ S => (a ρ S).toS ρ (kForC t mb ρ)
def loopE (j1 j2 : Nat) (mb : FS) (n : Nat) : Nat → Nat → Ev → Sto → Out
  | 0, _, _, _ => .stuck
  | k + 1, i, ρ, S => match cellL S n with
    | none => .stuck
    | some xs => match xs[i]? with
      | none => .next ρ S
      | some d => match mb ((ρ.set j1 (some (.dat (.int (i : Nat))))).set j2 (some d)) S with
        | .next ρ2 S2 => loopE j1 j2 mb n k (i + 1) ρ2 S2
        | .cnt ρ2 S2 => loopE j1 j2 mb n k (i + 1) ρ2 S2
        | .brk ρ2 S2 => .next ρ2 S2
        | .ret d S2 => .ret d S2
        | .err e ρ2 S2 => .err e ρ2 S2
        | .stuck => .stuck
def kForE (j1 j2 : Nat) (mb : FS) (ρ : Ev) (x : Vl) (S : Sto) : Out := match x with
  | .cel n => loopE j1 j2 mb n 1000000 0 ρ S
  | _ => .stuck
def mForE (a : FE) (j1 j2 : Nat) (mb : FS) : FS := fun ρ S => (a ρ S).toS ρ (kForE j1 j2 mb ρ)
def lcGoX (t : Tg) (mt : FT) (me : FE) (ρ : Ev) (n : Nat) : Nat → Nat → Sto → Res (List Vl)
  | 0, _, _ => .stuck
  | k + 1, i, S => match cellL S n with
    | none => .stuck
    | some xs => match xs[i]? with
      | none => .ok [] S
      | some d => match tgF t d ρ with
        | none => .stuck
        | some ρ1 => match mt ρ1 S with
          | .ok b S1 => if b = true then (match me ρ1 S1 with
              | .ok e S2 => (match lcGoX t mt me ρ n k (i + 1) S2 with
                | .ok es S3 => .ok (e :: es) S3
                | _ => .stuck)
              | _ => .stuck) else lcGoX t mt me ρ n k (i + 1) S1
          | _ => .stuck
/-- a new list: of values, or of data -/
def finV (w : Bool) (es : List Vl) (S : Sto) : Res Vl := if w then newV es S else match allD es with
  | some ds => newL false ds S
  | none => .stuck
def kLcX (w : Bool) (t : Tg) (mt : FT) (me : FE) (vs : List Nat) (ρ : Ev) (x : Vl) (S1 : Sto) : Res Vl := match x with
  | .cel n => (match lcGoX t mt me (wipeE ρ vs) n 100000 0 S1 with
    | .ok es S2 => finV w es S2
    | _ => .stuck)
  | _ => .stuck
def mLcX (w : Bool) (a : FE) (t : Tg) (mt : FT) (me : FE) (vs : List Nat) : FE := fun ρ S => (a ρ S).bind (kLcX w t mt me vs ρ)
/-- over data, the items values -/
def lcGoW (t : Tg) (mt : FT) (me : FE) (ρ : Ev) : List PH.D → Sto → Res (List Vl)
  | [], S => .ok [] S
  | d :: r, S => match tgF t (.dat d) ρ with
    | none => .stuck
    | some ρ1 => match mt ρ1 S with
      | .ok b S1 => if b = true then (match me ρ1 S1 with
          | .ok e S2 => (match lcGoW t mt me ρ r S2 with
            | .ok es S3 => .ok (e :: es) S3
            | _ => .stuck)
          | _ => .stuck) else lcGoW t mt me ρ r S1
      | _ => .stuck
def kLcW (t : Tg) (mt : FT) (me : FE) (vs : List Nat) (ρ : Ev) (ds : List PH.D) (S1 : Sto) : Res Vl := if ds.length ≤ sizeLine then (match lcGoW t mt me (wipeE ρ vs) ds S1 with
  | .ok es S2 => newV es S2
  | _ => .stuck) else .stuck
def mLcW (mi : FI) (t : Tg) (mt : FT) (me : FE) (vs : List Nat) : FE := fun ρ S => (mi ρ S).bind (kLcW t mt me vs ρ)
theorem sim_lcW {t : Tg} {vs : List Nat} (ht : ∀ i ∈ tgS t, i ∈ vs) (h : rdE K W (mLcW mi t mt me vs) σ H Q) : tLc (rdI K W mi) (tgR K t) (rdT K wNo mt) (rdE K wNo me) vs σ H Q := by
  refine rd_bind (k := fun ds ρ S1 => kLcW t mt me vs ρ ds S1) h fun B φ0 S0 ρ ds J H0 I0 E0 r f0 => ?_
  intro A hA
  unfold kLcW at f0
  split at f0
  case isFalse => exact f0.elim
  rename_i hsz
  cases q0 : lcGoW t mt me (wipeE ρ vs) ds S0 with
  | stuck => rw [q0] at f0; exact f0.elim
  | err e S' => rw [q0] at f0; exact f0.elim
  | ok es0 Sz =>
  rw [q0] at f0
  have nB : ¬ B A := fun q => by obtain ⟨u, e⟩ := I0.btr A q; rw [hA] at e; cases e
  have IA : GInv K (Bpl B A) φ0 S0 (upd H0 A (.lst [])) := I0.plus hA
  have b2 : ∀ a, H0 a ≠ none → Bpl B A a → B a := fun b hb h => by
    rcases h with h | h
    · exact h
    · exact absurd (by rw [h]; exact hA) hb
  refine ⟨fun i k H' => i ≤ ds.length ∧ k = ds.length - i ∧ ∃ φ1 S1 us acc rest, GInv K (Bpl B A) φ1 S1 H' ∧ Ext φ0 S0 H0 φ1 S1 H' ∧ RepE K (Bpl B A) φ1 S1 H' (wipeE ρ vs) (wipe σ vs) ∧ H' A = some (.lst us) ∧ us.length ≤ i ∧ RepVs K (Bpl B A) φ1 S1 H' acc us ∧ lcGoW t mt me (wipeE ρ vs) (ds.drop i) S1 = .ok rest Sz ∧ acc ++ rest = es0,
    ⟨_, Nat.zero_le _, rfl, φ0, S0, [], [], es0, IA, Ext.new I0 hA, (E0.wipes vs).plus I0 hA, upd_same, Nat.le_refl _, rfl, q0, rfl⟩, ?_⟩
  rintro i k H' ⟨hi, rfl, φ1, S1, us, acc, rs, I1, X1, E1, hA1, hul, l1, g1, ea⟩
  obtain ⟨hgo, hstop, hyld⟩ := r φ1 S1 H' (Bpl B A) I1 (X1.kpB (fun _ h => .inl h) b2 I0)
  by_cases hlt : i < ds.length
  · refine .inr ⟨hgo i hlt, fun H2 => i + 1 ≤ ds.length ∧ ∃ φ1 S1 us acc rest, GInv K (Bpl B A) φ1 S1 H2 ∧ Ext φ0 S0 H0 φ1 S1 H2 ∧ RepE K (Bpl B A) φ1 S1 H2 (wipeE ρ vs) (wipe σ vs) ∧ H2 A = some (.lst us) ∧ us.length ≤ i + 1 ∧ RepVs K (Bpl B A) φ1 S1 H2 acc us ∧ lcGoW t mt me (wipeE ρ vs) (ds.drop (i + 1)) S1 = .ok rest Sz ∧ acc ++ rest = es0, fun H2 ⟨h1, h2⟩ => ⟨ds.length - (i + 1), by omega, h1, rfl, h2⟩, fun x H2 y => ?_⟩
    have hd : ds[i]? = some ds[i] := by simp [hlt]
    obtain ⟨I2, X2, r2⟩ := hyld i x H2 ds[i] hd y
    rw [List.drop_eq_getElem_cons hlt] at g1
    unfold lcGoW at g1
    split at g1
    case h_1 => cases g1
    rename_i ρ2 q2
    have hA2 := (X2.old A _ hA1 fun q => I1.blk A q (.inr rfl)).1
    refine tg_sim (E1.ext X2 I1) (d := .dat ds[i]) r2 q2 fun ws E3 => ⟨by rw [wipe_stOf ht, wipe_wipe], Bpl B A, φ1, S1, ρ2, I2, E3, ?_⟩
    split at g1
    case h_2 => cases g1
    rename_i b S3 q3
    rw [q3]
    intro φ3 b' H3 I3 X3 rb
    have rb : b' = b := rb
    subst rb
    have hA3 := (X3.old A _ hA2 fun q => I2.blk A q (.inr rfl)).1
    have Xa := X1.trans (X2.trans X3)
    cases b' with
    | false => exact ⟨hlt, φ3, S3, us, acc, rs, I3, Xa, (E1.ext X2 I1).ext X3 I2, hA3, Nat.le_succ_of_le hul, (l1.ext X2 I1).ext X3 I2, g1, ea⟩
    | true =>
      rw [if_pos rfl]
      rw [if_pos rfl] at g1
      refine ⟨Bpl B A, φ3, S3, ρ2, I3, E3.ext X3 I2, ?_⟩
      split at g1
      case h_2 => cases g1
      rename_i e S4 q4
      rw [q4]
      intro φ4 v4 H4 I4 X4 r4
      have hA4 := (X4.old A _ hA3 fun q => I3.blk A q (.inr rfl)).1
      split at g1
      case h_2 => cases g1
      rename_i es S5 q5
      cases g1
      have l4 : RepVs K (Bpl B A) φ4 S4 H4 (acc ++ [e]) (us ++ [v4]) := (((l1.ext X2 I1).ext X3 I2).ext X4 I3).snocV r4
      refine ⟨us, hA4, by omega, hlt, φ4, S4, us ++ [v4], acc ++ [e], es, I4.plusPut hA4, ?_, (((E1.ext X2 I1).ext X3 I2).ext X4 I3).plusPut hA4, upd_same, by simp; omega, repVs_map (RepV.plusPut hA4) l4, q5, by rw [← ea]; simp⟩
      exact ⟨fun b o h nb => by
        obtain ⟨h1, h2⟩ := (Xa.trans X4).old b o h nb
        exact ⟨by rw [upd_ne (fun e => by subst e; rw [hA] at h; cases h)]; exact h1, h2⟩, (Xa.trans X4).ids⟩
  · have e : i = ds.length := by omega
    subst e
    rw [List.drop_length] at g1
    cases g1
    rw [List.append_nil] at ea
    subst ea
    exact .inl ⟨hstop, Fin.doneV f0 I1 X1 hA nB hA1 l1⟩
theorem f_lcW {t : Tg} {elt tg iter : Expr} {ifs : List Expr} {scope : Scope} {own : List (Str × Nat)} (hc : X.calm = true) (hN : X.N.Nodup) (hi : PI X tg iter (rdI X.K W mi)) (ok : BlkOk X.N X.env.scope scope own)
    (hg : ∀ (s : Shared) (H : Hp) (C : Addr) (cl : List (Str × Addr)) (fp : List Addr), PG (X.blk s H scope (compEnvC scope cl C X.env) fp) tg (tgR X.K t)) (ht : ∀ (s : Shared) (H : Hp) (C : Addr) (cl : List (Str × Addr)) (fp : List Addr), PTs (X.blk s H scope (compEnvC scope cl C X.env) fp) ifs (rdT X.K wNo mt))
    (he : ∀ (s : Shared) (H : Hp) (C : Addr) (cl : List (Str × Addr)) (fp : List Addr), PE (X.blk s H scope (compEnvC scope cl C X.env) fp) elt (rdE X.K wNo me)) (hs : ∀ x, foldedSetIterable iter X.env x = pure x := by intro _; rfl) (hv : ∀ i ∈ tgS t, i ∈ own.map (·.2) := by decide) :
    PE X (.ListComp elt [⟨tg, iter, ifs, 0⟩] scope pos) (rdE X.K W (mLcW mi t mt me (own.map (·.2)))) := PE_imp (pe_lc hc hN hi ok hg ht he hs) fun σ H Q h => sim_lcW hv h
end
end PH

namespace PH
open PySem PySem.Spec PyProof.Rows L2
section
variable {X : Cx} {W : WX} {e a b c o i : Expr} {es rest : List Expr} {pos pos' p q p2 tpos apos cpos : Pos} {x y z C f : Str} {K : PySem.W.Frag} {ma mb mc mo me mv : FE} {mi : FI} {mt mu : FT} {mas : FA} {B : Addr → Prop} {φ φ' : List Addr} {S S' : Sto} {H H' : Hp} {σ : L2.St} {Q : VK} {m n : FS} {st : Stmt} {sts : List Stmt} {D : Ends} {t t1 : Tg}
/-- the items as data; their cells are dead behind it -/
def frzItems : List Vl → Sto → Option (List PH.D × Sto)
  | [], S => some ([], S)
  | .dat d :: r, S => (match frzItems r S with
    | some (ds, S') => some (d :: ds, S')
    | none => none)
  | .cel n :: r, S => (match S[n]? with
    | some (.lst es) => (match frzItems r (S.set n .dead) with
      | some (ds, S') => some (.lst es :: ds, S')
      | none => none)
    | _ => none)
  | _ :: _, _ => none
theorem frzItems_ok : ∀ {xs : List Vl} {vs : List L2.V} {S S' : Sto} {ds : List PH.D}, frzItems xs S = some (ds, S') → GInv K B φ S H → RepVs K B φ S H xs vs → GInv K B φ S' H ∧ Ext φ S H φ S' H ∧ RepL K (Blk B φ S') H ds vs ∧ ∀ m : Nat, S'[m]? = S[m]? ∨ S'[m]? = some .dead
  | [], vs, S, S', ds, h, I, r => by
    cases h
    exact ⟨I, Ext.refl, r, fun m => .inl rfl⟩
  | .dat d :: xs, vs, S, S', ds, h, I, ⟨v, ws, e, h1, h2⟩ => by
    unfold frzItems at h
    split at h
    · rename_i ds' S1 q
      cases h
      obtain ⟨I1, X1, l1, m1⟩ := frzItems_ok q I h2
      exact ⟨I1, X1, ⟨v, ws, e, h1.ext X1 I, l1⟩, m1⟩
    · cases h
  | .cel n :: xs, vs, S, S', ds, h, I, ⟨v, ws, e, h1, h2⟩ => by
    unfold frzItems at h
    split at h
    · rename_i es hn
      split at h
      · rename_i ds' S1 q
        cases h
        obtain ⟨a, rfl, ha⟩ := h1
        obtain ⟨us, hu, l⟩ := I.ok n _ a hn ha
        have X0 := Ext.kill (φ := φ) (S := S) (H := H) (n := n)
        obtain ⟨I1, X1, l1, m1⟩ := frzItems_ok q I.kill (h2.ext X0 I)
        have nb : ¬ Blk B φ (S.set n .dead) a := I.killed hn (by simp) ha
        have nb1 := (X1.old a _ hu fun z => nb (.inr z)).2
        have nb2 : ¬ Blk B φ S' a := fun z => by
          rcases z with z | z
          · exact nb (.inl z)
          · exact nb1 z
        refine ⟨I1, X0.trans X1, ⟨_, ws, e, ⟨a, us, rfl, nb2, hu, X1.repL I.kill (X0.repL I l)⟩, l1⟩, fun m => ?_⟩
        rcases m1 m with z | z
        · rw [z, List.getElem?_set]
          by_cases hm : n = m
          · subst hm
            rw [if_pos rfl, if_pos (List.getElem?_eq_some_iff.mp hn).1]
            exact .inr rfl
          · rw [if_neg hm]
            exact .inl rfl
        · exact .inr z
      · cases h
    · cases h
  | .cels _ :: xs, vs, S, S', ds, h, _, _ => by cases h
  | .scr _ :: xs, vs, S, S', ds, h, _, _ => by cases h
def mFrzW (k : Nat) : FS := fun ρ S => match lk ρ k with
  | some (.cel n) => (match S[n]? with
    | some (.lv xs) => (match frzItems xs (S.set n .dead) with
      | some (ds, S') => .next (ρ.set k (some (.dat (.lst ds)))) S'
      | none => .stuck)
    | _ => .stuck)
  | _ => .stuck
theorem fss_frzW {sts : List Stmt} {m : FS} (k : Nat) (h : PSs X sts (rdS X.K W m)) : PSs X sts (rdS X.K W (mSeq (mFrzW k) m)) := PSs_imp h fun D σ H h => by
  obtain ⟨B, φ, S, ρ, I, E, f⟩ := h
  unfold mSeq mFrzW at f
  cases q : lk ρ k with
  | none => rw [q] at f; exact f.elim
  | some d =>
    rw [q] at f
    cases d with
    | cel n =>
      dsimp only at f
      cases q2 : S[n]? with
      | none => rw [q2] at f; exact f.elim
      | some c =>
        rw [q2] at f
        cases c with
        | lv xs =>
          dsimp only at f
          cases q3 : frzItems xs (S.set n .dead) with
          | none => rw [q3] at f; exact f.elim
          | some r =>
            obtain ⟨ds, S1⟩ := r
            rw [q3] at f
            dsimp only at f
            obtain ⟨v, h1, a, rfl, h3⟩ := E.2 k _ (lk_at q)
            obtain ⟨vs, h4, l⟩ := I.ok n _ a q2 h3
            have X0 := Ext.kill (φ := φ) (S := S) (H := H) (n := n)
            have nb : ¬ Blk B φ (S.set n .dead) a := I.killed q2 (by simp) h3
            obtain ⟨I1, X1, l1, m1⟩ := frzItems_ok q3 I.kill (l.ext X0 I)
            have nb1 := (X1.old a _ h4 fun z => nb (.inr z)).2
            have nb2 : ¬ Blk B φ S1 a := fun z => by
              rcases z with z | z
              · exact nb (.inl z)
              · exact nb1 z
            have E1 := (E.ext (X0.trans X1) I).set (d := .dat (.lst ds)) (v := .ref a) ⟨a, vs, rfl, nb2, h4, l1⟩ k
            rw [set_self h1] at E1
            exact ⟨B, φ, S1, _, I1, E1, FinS.ext f (X0.trans X1)⟩
        | _ => exact f.elim
    | _ => exact f.elim
end
section
variable {S : Sto} {a : FE} {ρ : Ev} {n : Nat} {t : Tg} {mt : FT} {me : FE} {mb : FS} {mi : FI} {vs : List Nat} {xs : List Vl} {w : Bool} {j1 j2 : Nat} {ds : List PH.D}
theorem g_forC : mForC a t mb ρ S = (a ρ S).toS ρ (kForC t mb ρ) := rfl
theorem g_kForC : kForC t mb ρ (.cel n) S = loopC t mb n 1000000 0 ρ S := rfl
theorem g_forE : mForE a j1 j2 mb ρ S = (a ρ S).toS ρ (kForE j1 j2 mb ρ) := rfl
theorem g_kForE : kForE j1 j2 mb ρ (.cel n) S = loopE j1 j2 mb n 1000000 0 ρ S := rfl
theorem g_lcX : mLcX w a t mt me vs ρ S = (a ρ S).bind (kLcX w t mt me vs ρ) := rfl
theorem g_lcW : mLcW mi t mt me vs ρ S = (mi ρ S).bind (kLcW t mt me vs ρ) := rfl
theorem g_frzW {k : Nat} {S' : Sto} (h : lk ρ k = some (.cel n)) (h2 : S[n]? = some (.lv xs)) (h3 : frzItems xs (S.set n .dead) = some (ds, S')) : mFrzW k ρ S = .next (ρ.set k (some (.dat (.lst ds)))) S' := by simp only [mFrzW, h, h2, h3]
end
def EVJ := And.intro @g_forC (And.intro @g_kForC (And.intro @g_forE (And.intro @g_kForE (And.intro @g_lcX @g_lcW))))
end PH

namespace PH
open PySem PySem.Spec PyProof.Rows L2
def b_is_integer : FS :=
  (mRet (mAndV (m1 (fIsi "int") (mVar 0)) (mNotV (m1 (fIsi "bool") (mVar 0)))))
def m_is_integer : FD := run 1 1 b_is_integer
def b_is_bit : FS :=
  (mRet (mAndV (mCall m_is_integer (mCons (mVar 0) mNil)) (mChain fLe fLe (mC (.int 0)) (mVar 0) (mC (.int 1)))))
def m_is_bit : FD := run 1 1 b_is_bit
def e_is_command_1 : FE :=
  (mAndV (mCall m_is_integer (mCons (mVar 4) mNil)) (mChain fLe fLe (mVar 2) (mVar 4) (mVar 3)))
def b_is_command : FS :=
  (mSeq (mIfS (mOr (mNot (mTest (m1 (fIsi "tuple") (mVar 0)))) (mB (mOp fEq (m1 fLen (mVar 0)) (mC (.int 0))))) (mRet (mC (.bl false))) mSkip)
  (mSeq (mIfS (mOr (mNot (mTest (m1 (fIsi "str") (mOp fIx (mVar 0) (mC (.int 0)))))) (mB (m1 (fInLim true) (mOp fIx (mVar 0) (mC (.int 0)))))) (mRet (mC (.bl false))) mSkip)
  (mSeq (mAsg (m1 fLim (mOp fIx (mVar 0) (mC (.int 0)))) (.tp [1, 2, 3]))
  (mSeq (mIfS (mB (mOp fNe (m1 fLen (mVar 0)) (mOp (fAdd false) (mVar 1) (mC (.int 1))))) (mRet (mC (.bl false))) mSkip)
  (mRet (m1 fAll (mLc false (mSeqI (mSl false (mVar 0) (mPart (mC (.int 1))) mNoP)) (.nm 4) mYes e_is_command_1 [4])))))))
def m_is_command : FD := run 5 1 b_is_command
def b_well_formed : FS :=
  (mSeq (mIfS (mTest (mCall m_is_command (mCons (mVar 0) mNil))) (mRet (mC (.bl true))) mSkip)
  (mSeq (mIfS (mOr (mNot (mTest (m1 (fIsi "tuple") (mVar 0)))) (mOr (mB (mOp fLt (m1 fLen (mVar 0)) (mC (.int 2)))) (mNot (mTest (m1 (fIsi "str") (mOp fIx (mVar 0) (mC (.int 0)))))))) (mRet (mC (.bl false))) mSkip)
  (mSeq (mAsg (mOp fIx (mVar 0) (mC (.int 0))) (.nm 3))
  (mSeq (mIfS (mB (mOp fEq (mVar 3) (mC (.str "end")))) (mRet (mAndV (mOp fEq (m1 fLen (mVar 0)) (mC (.int 2))) (mCall m_is_bit (mCons (mOp fIx (mVar 0) (mC (.int 1))) mNil)))) mSkip)
  (mSeq (mIfS (mB (mOp fEq (mVar 1) (mC (.int 3)))) (mRet (mC (.bl false))) mSkip)
  (mSeq (mIfS (mOr (mB (mOp fEq (mVar 3) (mC (.str "keep")))) (mB (mOp fEq (mVar 3) (mC (.str "again"))))) (mRet (mAndV (mOp fEq (m1 fLen (mVar 0)) (mC (.int 2))) (m1 (fIsi "list") (mOp fIx (mVar 0) (mC (.int 1)))))) mSkip)
  (mSeq (mIfS (mB (mOp fEq (mVar 3) (mC (.str "either")))) (mRet (mAndV (mOp fEq (m1 fLen (mVar 0)) (mC (.int 3))) (mAndV (m1 (fIsi "list") (mOp fIx (mVar 0) (mC (.int 1)))) (m1 (fIsi "list") (mOp fIx (mVar 0) (mC (.int 2))))))) mSkip)
  (mSeq (mIfS (mOr (mB (mOp fNe (mVar 3) (mC (.str "call")))) (mB (mOp fNe (m1 fLen (mVar 0)) (mC (.int 4))))) (mRet (mC (.bl false))) mSkip)
  (mSeq (mIfS (mOr (mNot (mTest (mCall m_is_integer (mCons (mOp fIx (mVar 0) (mC (.int 1))) mNil)))) (mNot (mB (mChain fLe fLt (mC (.int 0)) (mOp fIx (mVar 0) (mC (.int 1))) (mVar 2))))) (mRet (mC (.bl false))) mSkip)
  (mSeq (mIfS (mOr (mNot (mTest (m1 (fIsi "bool") (mOp fIx (mVar 0) (mC (.int 2)))))) (mOr (mNot (mTest (m1 (fIsi "list") (mOp fIx (mVar 0) (mC (.int 3)))))) (mB (mOp fNe (m1 fLen (mOp fIx (mVar 0) (mC (.int 3)))) (mC (.int 2)))))) (mRet (mC (.bl false))) mSkip)
  (mRet (mAndV (m1 (fIsi "list") (mOp fIx (mOp fIx (mVar 0) (mC (.int 3))) (mC (.int 0)))) (m1 (fIsi "list") (mOp fIx (mOp fIx (mVar 0) (mC (.int 3))) (mC (.int 1))))))))))))))))
def m_well_formed : FD := run 4 3 b_well_formed
def b_L_pool : FS :=
  (mRet (mOp (fAdd true) (mLst false (mCons (mC (.int 0)) mNil)) (mOrT (mLc false (mSeqI (mSl false (mVar 0) mNoP (mPart (mC (.int 63))))) (.nm 1) mYes (m1 fInt (mVar 1)) [1]) (mLst false (mCons (mC (.int 0)) mNil)))))
def m_L_pool : FD := run 2 1 b_L_pool
def b_L_draw : FS :=
  (mSeq (mAugI (fun x y => x + y) (mVar 0) (mC (.int 0)) (mC (.int 1)))
  (mSeq (mAsg (mOp (fAdd false) (mC (.int 1)) (mOp fMod (m1 fInt (mOp fIx (mVar 0) (mC (.int 0)))) (mOp fSub (m1 fLen (mVar 0)) (mC (.int 1))))) (.nm 2))
  (mSeq (mAsg (m1 fInt (mOp fIx (mVar 0) (mVar 2))) (.nm 3))
  (mSeq (mIfS (mB (mOp fGe (mVar 3) (mOp fPow (mC (.int 10)) (mC (.int 18))))) (mSeq (mSetI (mOp fFdiv (mVar 3) (mVar 1)) (mVar 0) (mVar 2))
  (mRet (mOp fMod (mVar 3) (mVar 1)))) mSkip)
  (mSeq (mAsg (mOp fMod (mOp fMul (m1 fInt (mOp (fAdd false) (mOp (fAdd false) (mVar 3) (mOp fMul (mC (.int 7919)) (mOp fIx (mVar 0) (mC (.int 0))))) (mC (.int 1)))) (mC (.int 48271))) (mC (.int 2147483647))) (.nm 4))
  (mSeq (mAsg (mOp fMod (mOp fMul (mVar 4) (mOp (fAdd false) (mOp fFdiv (mVar 4) (mC (.int 1009))) (mC (.int 69621)))) (mC (.int 2147483647))) (.nm 4))
  (mSeq (mAsg (mOp fMod (mOp fMul (mVar 4) (mOp (fAdd false) (mOp fFdiv (mVar 4) (mC (.int 2003))) (mC (.int 40692)))) (mC (.int 2147483399))) (.nm 4))
  (mRet (mOp fMod (mOp fFdiv (mVar 4) (mC (.int 11))) (mVar 1))))))))))
def m_L_draw : FD := run 5 2 b_L_draw
def b_L_any_command : FS :=
  (mSeq (mAsg (mCall m_L_draw (mCons (mVar 0) (mCons (mC (.int 9)) mNil))) (.nm 1))
  (mSeq (mIfS (mB (mOp fEq (mVar 1) (mC (.int 0)))) (mRet (mTup (mCons (mC (.str "go")) (mCons (mOp fSub (mCall m_L_draw (mCons (mVar 0) (mCons (mC (.int 19)) mNil))) (mC (.int 9))) mNil)))) mSkip)
  (mSeq (mIfS (mB (mOp fEq (mVar 1) (mC (.int 1)))) (mRet (mTup (mCons (mC (.str "turn")) (mCons (mOp (fAdd false) (mC (.int 1)) (mCall m_L_draw (mCons (mVar 0) (mCons (mC (.int 3)) mNil)))) mNil)))) mSkip)
  (mSeq (mIfS (mB (mOp fEq (mVar 1) (mC (.int 2)))) (mRet (mTup (mCons (mC (.str "scale")) (mCons (mOp fSub (mCall m_L_draw (mCons (mVar 0) (mCons (mC (.int 7)) mNil))) (mC (.int 3))) mNil)))) mSkip)
  (mSeq (mIfS (mB (mOp fLt (mVar 1) (mC (.int 5)))) (mRet (mTup (mCons (mOp fIx (mTup (mCons (mC (.str "aim")) (mCons (mC (.str "place")) mNil))) (mOp fSub (mVar 1) (mC (.int 3)))) (mCons (mOp fSub (mCall m_L_draw (mCons (mVar 0) (mCons (mC (.int 19)) mNil))) (mC (.int 9))) (mCons (mOp fSub (mCall m_L_draw (mCons (mVar 0) (mCons (mC (.int 19)) mNil))) (mC (.int 9))) mNil))))) mSkip)
  (mRet (mTup (mCons (mOp fIx (mTup (mCons (mC (.str "mirror")) (mCons (mC (.str "mark")) (mCons (mC (.str "return")) (mCons (mC (.str "exchange")) mNil))))) (mOp fSub (mVar 1) (mC (.int 5)))) mNil))))))))
def m_L_any_command : FD := run 2 1 b_L_any_command
end PH

namespace PH
open PySem PySem.Spec PyProof.Rows L2
end PH

namespace PH
open PySem PySem.Spec PyProof.Rows L2
end PH

namespace PH
open PySem PySem.Spec PyProof.Rows L2
end PH

namespace PH
open PySem PySem.Spec PyProof.Rows L2
def b_L_number : FS :=
  (mSeq (mAsg (mCall m_L_draw (mCons (mVar 0) (mCons (mC (.int 3)) mNil))) (.nm 1))
  (mSeq (mIfS (mB (mOp fEq (mVar 1) (mC (.int 0)))) (mRet (mOp fSub (mCall m_L_draw (mCons (mVar 0) (mCons (mC (.int 9)) mNil))) (mC (.int 4)))) mSkip)
  (mSeq (mAugI (fun x y => x + y) (mVar 0) (mC (.int 0)) (mC (.int 1)))
  (mSeq (mAsg (mOp (fAdd false) (mC (.int 1)) (mOp fMod (m1 fInt (mOp fIx (mVar 0) (mC (.int 0)))) (mOp fSub (m1 fLen (mVar 0)) (mC (.int 1))))) (.nm 2))
  (mSeq (mAsg (mOp fMod (m1 fInt (mOp (fAdd false) (mOp fMul (mOp fIx (mVar 0) (mVar 2)) (mC (.int 48271))) (mOp fMul (mOp fIx (mVar 0) (mC (.int 0))) (mC (.int 69621))))) (mOp fPow (mC (.int 10)) (mC (.int 40)))) (.nm 3))
  (mSeq (mIfS (mB (mOp fEq (mCall m_L_draw (mCons (mVar 0) (mCons (mC (.int 2)) mNil))) (mC (.int 0)))) (mRet (mVar 3)) mSkip)
  (mRet (mOp fSub (mC (.int 5)) (mVar 3)))))))))
def m_L_number : FD := run 4 1 b_L_number
def b_L_move : FS :=
  (mSeq (mAsg (mVar 0) (.tp [2, 3, 4, 5, 6, 7]))
  (mSeq (mAsg (mOp fIx (mVar 1) (mC (.int 0))) (.nm 8))
  (mSeq (mAsg (mOp fIx (mOp (fAdd false) (mVar 1) (mTup (mCons (mC (.int 0)) mNil))) (mC (.int 1))) (.nm 9))
  (mSeq (mIfS (mB (mOp fEq (mVar 8) (mC (.str "go")))) (mRet (mTup (mCons (mOp (fAdd false) (mVar 2) (mOp fMul (mVar 9) (mVar 4))) (mCons (mOp (fAdd false) (mVar 3) (mOp fMul (mVar 9) (mVar 5))) (mCons (mVar 4) (mCons (mVar 5) (mCons (mVar 6) (mCons (mVar 7) mNil)))))))) mSkip)
  (mSeq (mIfS (mB (mOp fEq (mVar 8) (mC (.str "turn")))) (mSeq (mAsg (mOp fIx (mLst false (mCons (mTup (mCons (m1 fNeg (mVar 5)) (mCons (mVar 4) mNil))) (mCons (mTup (mCons (m1 fNeg (mVar 4)) (mCons (m1 fNeg (mVar 5)) mNil))) (mCons (mTup (mCons (mVar 5) (mCons (m1 fNeg (mVar 4)) mNil))) mNil)))) (mOp fSub (mVar 9) (mC (.int 1)))) (.nm 10))
  (mRet (mTup (mCons (mVar 2) (mCons (mVar 3) (mCons (mOp fIx (mVar 10) (mC (.int 0))) (mCons (mOp fIx (mVar 10) (mC (.int 1))) (mCons (mVar 6) (mCons (mVar 7) mNil))))))))) mSkip)
  (mSeq (mIfS (mB (mOp fEq (mVar 8) (mC (.str "mirror")))) (mRet (mTup (mCons (mVar 2) (mCons (mVar 3) (mCons (mVar 4) (mCons (m1 fNeg (mVar 5)) (mCons (mVar 6) (mCons (mVar 7) mNil)))))))) mSkip)
  (mSeq (mIfS (mB (mOp fEq (mVar 8) (mC (.str "scale")))) (mRet (mTup (mCons (mVar 2) (mCons (mVar 3) (mCons (mOp fMul (mVar 4) (mVar 9)) (mCons (mOp fMul (mVar 5) (mVar 9)) (mCons (mVar 6) (mCons (mVar 7) mNil)))))))) mSkip)
  (mSeq (mIfS (mB (mOp fEq (mVar 8) (mC (.str "aim")))) (mRet (mTup (mCons (mVar 2) (mCons (mVar 3) (mCons (mVar 9) (mCons (mOp fIx (mVar 1) (mC (.int 2))) (mCons (mVar 6) (mCons (mVar 7) mNil)))))))) mSkip)
  (mSeq (mIfS (mB (mOp fEq (mVar 8) (mC (.str "place")))) (mRet (mTup (mCons (mVar 9) (mCons (mOp fIx (mVar 1) (mC (.int 2))) (mCons (mVar 4) (mCons (mVar 5) (mCons (mVar 6) (mCons (mVar 7) mNil)))))))) mSkip)
  (mSeq (mIfS (mB (mOp fEq (mVar 8) (mC (.str "mark")))) (mRet (mTup (mCons (mVar 2) (mCons (mVar 3) (mCons (mVar 4) (mCons (mVar 5) (mCons (mVar 2) (mCons (mVar 3) mNil)))))))) mSkip)
  (mSeq (mIfS (mB (mOp fEq (mVar 8) (mC (.str "return")))) (mRet (mTup (mCons (mVar 6) (mCons (mVar 7) (mCons (mVar 4) (mCons (mVar 5) (mCons (mVar 6) (mCons (mVar 7) mNil)))))))) mSkip)
  (mRet (mTup (mCons (mVar 6) (mCons (mVar 7) (mCons (mVar 4) (mCons (mVar 5) (mCons (mVar 2) (mCons (mVar 3) mNil)))))))))))))))))))
def m_L_move : FD := run 11 2 b_L_move
def w_L_pens_1 : FS :=
  (mWipe [4] (mIfS (mB (mOp fEq (mOp fIx (mVar 4) (mC (.int 0))) (mC (.str "hold")))) (mDrop (mApp (mVar 3) (mVar 1))) (mIfS (mB (mOp fEq (mOp fIx (mVar 4) (mC (.int 0))) (mC (.str "shut")))) (mAsg (mOp (fAdd false) (mSl false (m1 fPop (mVar 3)) mNoP (mPart (mC (.int 4)))) (mSl false (mVar 1) (mPart (mC (.int 4))) mNoP)) (.nm 1)) (mSeq (mAsg (mCall m_L_move (mCons (mVar 1) (mCons (mVar 4) mNil))) (.nm 1))
  (mDrop (mApp (mVar 2) (mVar 1)))))))
def b_L_pens : FS :=
  (mSeq (mAsg (mLst true mNil) (.nm 2))
  (mSeq (mAsg (mLst true mNil) (.nm 3))
  (mSeq (mFor (mSeqI (mVar 0)) (.nm 4) w_L_pens_1)
  (mRet (mLst false (mCons (mFrz (mVar 2)) (mCons (mVar 1) mNil)))))))
def m_L_pens : FD := runT 5 2 b_L_pens
def e_L_probe_1 : FE :=
  (mOp fIx (mCall m_L_pens (mCons (mVar 0) (mCons (m1 fTuple (mLc false (mRng1 (mC (.int 6))) (.nm 6) mYes (m1 fInt (mOp fEq (mVar 6) (mVar 5))) [6])) mNil))) (mC (.int 1)))
def w_L_probe_2 : FS :=
  (mWipe [5] (mDrop (mApp (mVar 3) (mOp fSub (mOp fIx (mOp fIx (mVar 2) (mVar 5)) (mVar 4)) (mOp fIx (mVar 1) (mVar 4))))))
def w_L_probe_3 : FS :=
  (mWipe [4, 5] (mSeq (mDrop (mApp (mVar 3) (mOp fIx (mVar 1) (mVar 4))))
  (mFor (mRng1 (mC (.int 6))) (.nm 5) w_L_probe_2)))
def b_L_probe : FS :=
  (mSeq (mAsg (mOp fIx (mCall m_L_pens (mCons (mVar 0) (mCons (mTup (mCons (mC (.int 0)) (mCons (mC (.int 0)) (mCons (mC (.int 0)) (mCons (mC (.int 0)) (mCons (mC (.int 0)) (mCons (mC (.int 0)) mNil))))))) mNil))) (mC (.int 1))) (.nm 1))
  (mSeq (mAsg (mLc false (mRng1 (mC (.int 6))) (.nm 5) mYes e_L_probe_1 [5]) (.nm 2))
  (mSeq (mAsg (mLst true (mCons (mC (.int 1)) (mCons (mC (.int 0)) (mCons (mC (.int 0)) (mCons (mC (.int 0)) (mCons (mC (.int 0)) (mCons (mC (.int 0)) (mCons (mC (.int 0)) mNil)))))))) (.nm 3))
  (mSeq (mFor (mRng1 (mC (.int 6))) (.nm 4) w_L_probe_3)
  (mRet (mFrz (mVar 3)))))))
def m_L_probe : FD := runT 7 1 b_L_probe
theorem E_L_number {x0 : Vl} {S : Sto} : m_L_number [x0] S = ofOut (b_L_number [some x0, none, none, none] S) := (rfl)
theorem E_L_move {x0 x1 : Vl} {S : Sto} : m_L_move [x0, x1] S = ofOut (b_L_move [some x0, some x1, none, none, none, none, none, none, none, none, none] S) := (rfl)
theorem E_L_pens {x0 x1 : Vl} {S : Sto} : m_L_pens [x0, x1] S = trunc S.length (ofOut (b_L_pens [some x0, some x1, none, none, none] S)) := (rfl)
theorem E_L_probe {x0 : Vl} {S : Sto} : m_L_probe [x0] S = trunc S.length (ofOut (b_L_probe [some x0, none, none, none, none, none, none] S)) := (rfl)
end PH

namespace PH
open PySem PySem.Spec PyProof.Rows L2
def b_is_matrix : FS :=
  (mRet (mAndV (m1 (fIsi "list") (mVar 0)) (mAndV (mOp fEq (m1 fLen (mVar 0)) (mC (.int 49))) (m1 fAll (mLc false (mSeqI (mVar 0)) (.nm 1) mYes (mCall m_is_integer (mCons (mVar 1) mNil)) [1])))))
def m_is_matrix : FD := run 2 1 b_is_matrix
def w_pivot_1 : FS :=
  (mWipe [1, 2] (mIfS (mB (mOp fNe (mVar 2) (mC (.int 0)))) (mRet (mVar 1)) mSkip))
def b_pivot : FS :=
  (mSeq (mFor (mEnum (mVar 0)) (.tp [1, 2]) w_pivot_1)
  (mRet (m1 fLen (mVar 0))))
def m_pivot : FD := run 3 1 b_pivot
def w_common_divisor_1 : FS :=
  (mPar 1 2 (mVar 2) (mOp fModN (mVar 1) (mVar 2)))
def w_common_divisor_2 : FS :=
  (mWipe [2] (mWhile 1000000 (mB (mOp fNe (mVar 2) (mC (.int 0)))) w_common_divisor_1))
def b_common_divisor : FS :=
  (mSeq (mAsg (mC (.int 0)) (.nm 1))
  (mSeq (mFor (mSeqI (mVar 0)) (.nm 2) w_common_divisor_2)
  (mRet (m1 fAbs (mVar 1)))))
def m_common_divisor : FD := run 3 1 b_common_divisor
def b_primitive : FS :=
  (mSeq (mAsg (mCall m_pivot (mCons (mVar 0) mNil)) (.nm 1))
  (mSeq (mIfS (mB (mOp fEq (mVar 1) (m1 fLen (mVar 0)))) (mRet (mVar 0)) mSkip)
  (mSeq (mAsg (mCall m_common_divisor (mCons (mVar 0) mNil)) (.nm 2))
  (mSeq (mIfS (mB (mOp fLt (mOp fIx (mVar 0) (mVar 1)) (mC (.int 0)))) (mAsg (m1 fNeg (mVar 2)) (.nm 2)) mSkip)
  (mRet (mLc false (mSeqI (mVar 0)) (.nm 3) mYes (mOp fFdivN (mVar 3) (mVar 2)) [3]))))))
def m_primitive : FD := run 4 1 b_primitive
def e_cleared_1 : FE :=
  (mOp fSub (mOp fMul (mVar 4) (mVar 5)) (mOp fMul (mVar 3) (mVar 6)))
def b_cleared : FS :=
  (mSeq (mAsg (mCall m_pivot (mCons (mVar 1) mNil)) (.nm 2))
  (mSeq (mAsg (mOp fIx (mVar 0) (mVar 2)) (.nm 3))
  (mSeq (mIfS (mB (mOp fEq (mVar 3) (mC (.int 0)))) (mRet (mVar 0)) mSkip)
  (mSeq (mAsg (mOp fIx (mVar 1) (mVar 2)) (.nm 4))
  (mRet (mCall m_primitive (mCons (mLc false (mZip (mVar 0) (mVar 1)) (.tp [5, 6]) mYes e_cleared_1 [5, 6]) mNil)))))))
def m_cleared : FD := run 7 2 b_cleared
def w_reduced_1 : FS :=
  (mSeq (mAsg (mCall m_pivot (mCons (mVar 3) mNil)) (.nm 4))
  (mIfS (mB (mOp fNe (mOp fIx (mVar 1) (mVar 4)) (mC (.int 0)))) (mAsg (mOp fFdivN (mOp fMul (mVar 2) (mOp fIx (mVar 3) (mVar 4))) (mCall m_common_divisor (mCons (mLst false (mCons (mVar 2) (mCons (mOp fIx (mVar 3) (mVar 4)) mNil))) mNil))) (.nm 2)) mSkip))
def w_reduced_2 : FS :=
  (mWipe [6] (mSeq (mAsg (mCall m_pivot (mCons (mVar 3) mNil)) (.nm 4))
  (mSeq (mAsg (mOp fMul (mOp fFdivN (mVar 2) (mOp fIx (mVar 3) (mVar 4))) (mOp fIx (mVar 1) (mVar 4))) (.nm 6))
  (mIfS (mB (mOp fNe (mVar 6) (mC (.int 0)))) (mAsg (mLc false (mZip (mVar 5) (mVar 3)) (.tp [8, 9]) mYes (mOp fSub (mVar 8) (mOp fMul (mVar 6) (mVar 9))) [8, 9]) (.nm 5)) mSkip))))
def b_reduced : FS :=
  (mSeq (mAsg (mC (.int 1)) (.nm 2))
  (mSeq (mFor (mSeqI (mVar 0)) (.nm 3) w_reduced_1)
  (mSeq (mAsg (mLc false (mSeqI (mVar 1)) (.nm 7) mYes (mOp fMul (mVar 2) (mVar 7)) [7]) (.nm 5))
  (mSeq (mFor (mSeqI (mVar 0)) (.nm 3) w_reduced_2)
  (mRet (mVar 5))))))
def m_reduced : FD := run 10 2 b_reduced
def b_with_row : FS :=
  (mSeq (mAsg (mCall m_primitive (mCons (mCall m_reduced (mCons (mVar 0) (mCons (mVar 1) mNil))) mNil)) (.nm 2))
  (mSeq (mIfS (mB (mOp fEq (mCall m_pivot (mCons (mVar 2) mNil)) (m1 fLen (mVar 2)))) (mRet (mVar 0)) mSkip)
  (mRet (m1 (fSortK false m_pivot) (mOp (fAdd false) (mLc false (mSeqI (mVar 0)) (.nm 3) mYes (mCall m_cleared (mCons (mVar 3) (mCons (mVar 2) mNil))) [3]) (mLst false (mCons (mVar 2) mNil)))))))
def m_with_row : FD := run 4 2 b_with_row
def w_Space_init_1 : FS :=
  (mWipe [2] (mIfS (mNot (mTest (mCall m_is_matrix (mCons (mVar 3) mNil)))) (mRaiseA "NoRows" ["index"] (mCons (mVar 2) mNil)) mSkip))
def w_Space_init_2 : FS :=
  (mAsg (mCall m_with_row (mCons (mVar 4) (mCons (mVar 3) mNil))) (.nm 4))
def b_Space_init : FS :=
  (mSeq (mIfS (mNot (mTest (m1 (fIsi "list") (mVar 1)))) (mRaiseA "NoRows" ["index"] (mCons (m1 fNeg (mC (.int 1))) mNil)) mSkip)
  (mSeq (mFor (mEnum (mVar 1)) (.tp [2, 3]) w_Space_init_1)
  (mSeq (mAsg (mLst false mNil) (.nm 4))
  (mSeq (mFor (mSeqI (mVar 1)) (.nm 3) w_Space_init_2)
  (mSetF "Space" "basis" (mVar 0) (mVar 4))))))
def m_Space_init : FD := run 5 2 b_Space_init
def b_Space_len : FS :=
  (mRet (m1 fLen (mFld "Space" "basis" (mVar 0))))
def m_Space_len : FD := run 1 1 b_Space_len
def b_L_first : FS :=
  (mRet (m1 fMinL (mOp (fAdd false) (mLc false (mRng1 (m1 fLen (mVar 0))) (.nm 1) (mB (mOp fNe (mOp fIx (mVar 0) (mVar 1)) (mC (.int 0)))) (mVar 1) [1]) (mLst false (mCons (m1 fLen (mVar 0)) mNil)))))
def m_L_first : FD := run 2 1 b_L_first
def w_L_small_1 : FS :=
  (mWipe [4] (mSeq (mAsg (mOp fModN (m1 fInt (mVar 1)) (mVar 3)) (.nm 4))
  (mSeq (mAsg (mVar 3) (.nm 1))
  (mAsg (mVar 4) (.nm 3)))))
def w_L_small_2 : FS :=
  (mWipe [2, 3, 4] (mSeq (mAsg (m1 fAbs (mVar 2)) (.nm 3))
  (mWhile 1000000 (mB (mOp fNe (mVar 3) (mC (.int 0)))) w_L_small_1)))
def b_L_small : FS :=
  (mSeq (mAsg (mC (.int 0)) (.nm 1))
  (mSeq (mFor (mSeqI (mVar 0)) (.nm 2) w_L_small_2)
  (mSeq (mIfS (mB (mOp fLt (mVar 1) (mC (.int 2)))) (mRet (mVar 0)) mSkip)
  (mRet (mLc false (mSeqI (mVar 0)) (.nm 2) mYes (mOp fFdivN (mVar 2) (mVar 1)) [2])))))
def m_L_small : FD := run 5 1 b_L_small
def e_L_rest_1 : FE :=
  (mOp fSub (mOp fMul (mVar 4) (mOp fIx (mVar 1) (mVar 6))) (mOp fMul (mVar 5) (mOp fIx (mVar 2) (mVar 6))))
def w_L_rest_2 : FS :=
  (mWipe [2, 3, 4, 5] (mSeq (mAsg (mCall m_L_first (mCons (mVar 2) mNil)) (.nm 3))
  (mIfS (mB (mOp fNe (mOp fIx (mVar 1) (mVar 3)) (mC (.int 0)))) (mSeq (mAsg (mOp fIx (mVar 2) (mVar 3)) (.nm 4))
  (mSeq (mAsg (mOp fIx (mVar 1) (mVar 3)) (.nm 5))
  (mAsg (mLc false (mRng1 (mC (.int 49))) (.nm 6) mYes e_L_rest_1 [6]) (.nm 1)))) mSkip)))
def b_L_rest : FS :=
  (mSeq (mFor (mSeqI (mVar 0)) (.nm 2) w_L_rest_2)
  (mRet (mVar 1)))
def m_L_rest : FD := run 7 2 b_L_rest
def b_L_grown : FS :=
  (mSeq (mAsg (mCall m_L_small (mCons (mCall m_L_rest (mCons (mVar 0) (mCons (mVar 1) mNil))) mNil)) (.nm 2))
  (mSeq (mIfS (mB (mOp fEq (mCall m_L_first (mCons (mVar 2) mNil)) (mC (.int 49)))) (mRet (mVar 0)) mSkip)
  (mRet (mOp (fAdd false) (mVar 0) (mLst false (mCons (mVar 2) mNil))))))
def m_L_grown : FD := run 3 2 b_L_grown
def w_L_span_1 : FS :=
  (mWipe [2] (mAsg (mCall m_L_grown (mCons (mVar 1) (mCons (mVar 2) mNil))) (.nm 1)))
def b_L_span : FS :=
  (mSeq (mAsg (mLst false mNil) (.nm 1))
  (mSeq (mFor (mSeqI (mVar 0)) (.nm 2) w_L_span_1)
  (mRet (mVar 1))))
def m_L_span : FD := run 3 1 b_L_span
def w_L_any_matrix_1 : FS :=
  (mWipe [3, 4] (mSeq (mAsg (mC (.int 0)) (.nm 4))
  (mSeq (mIfS (mB (mOp fEq (mCall m_L_draw (mCons (mVar 0) (mCons (mC (.int 3)) mNil))) (mC (.int 0)))) (mSeq (mAsg (mOp fSub (mCall m_L_draw (mCons (mVar 0) (mCons (mC (.int 9)) mNil))) (mC (.int 4))) (.nm 4))
  (mIfS (mB (mOp fEq (mVar 1) (mC (.int 0)))) (mAsg (mCall m_L_number (mCons (mVar 0) mNil)) (.nm 4)) mSkip)) mSkip)
  (mDrop (mApp (mVar 2) (mVar 4))))))
def b_L_any_matrix : FS :=
  (mSeq (mAsg (mCall m_L_draw (mCons (mVar 0) (mCons (mC (.int 4)) mNil))) (.nm 1))
  (mSeq (mAsg (mLst true mNil) (.nm 2))
  (mSeq (mFor (mRng1 (mC (.int 49))) (.nm 3) w_L_any_matrix_1)
  (mRet (mFrz (mVar 2))))))
def m_L_any_matrix : FD := runT 5 1 b_L_any_matrix
def e_L_mixed_rows_1 : FE :=
  (mOp (fAdd false) (mOp fIx (mVar 2) (mVar 5)) (mOp fMul (mVar 4) (mOp fIx (mVar 3) (mVar 5))))
def w_L_mixed_rows_2 : FS :=
  (mWipe [3, 4] (mSeq (mAsg (mOp fSub (mCall m_L_draw (mCons (mVar 0) (mCons (mC (.int 11)) mNil))) (mC (.int 5))) (.nm 4))
  (mAsg (mLc false (mRng1 (mC (.int 49))) (.nm 5) mYes e_L_mixed_rows_1 [5]) (.nm 2))))
def b_L_mixed_rows : FS :=
  (mSeq (mAsg (mLc false (mRng1 (mC (.int 49))) (.nm 5) mYes (mC (.int 0)) [5]) (.nm 2))
  (mSeq (mFor (mSeqI (mVar 1)) (.nm 3) w_L_mixed_rows_2)
  (mRet (mVar 2))))
def m_L_mixed_rows : FD := run 6 2 b_L_mixed_rows
def w_L_thin_matrix_1 : FS :=
  (mWipe [2, 3] (mSeq (mAsg (mCall m_L_draw (mCons (mVar 0) (mCons (mC (.int 49)) mNil))) (.nm 3))
  (mSetI (mOp fSub (mOp (fAdd false) (mOp fIx (mVar 1) (mVar 3)) (mCall m_L_draw (mCons (mVar 0) (mCons (mC (.int 13)) mNil)))) (mC (.int 6))) (mVar 1) (mVar 3))))
def b_L_thin_matrix : FS :=
  (mSeq (mAsg (mLc true (mRng1 (mC (.int 49))) (.nm 4) mYes (mC (.int 0)) [4]) (.nm 1))
  (mSeq (mFor (mRng1 (mOp (fAdd false) (mC (.int 1)) (mCall m_L_draw (mCons (mVar 0) (mCons (mC (.int 3)) mNil))))) (.nm 2) w_L_thin_matrix_1)
  (mRet (mFrz (mVar 1)))))
def m_L_thin_matrix : FD := runT 5 1 b_L_thin_matrix
def w_L_rows_1 : FS :=
  (mWipe [3, 4] (mSeq (mAsg (mCall m_L_draw (mCons (mVar 0) (mCons (mC (.int 6)) mNil))) (.nm 4))
  (mIfS (mB (mOp fEq (mVar 4) (mC (.int 0)))) (mDrop (mApp (mVar 2) (mCall m_L_any_matrix (mCons (mVar 0) mNil)))) (mIfS (mB (mOp fEq (mVar 4) (mC (.int 1)))) (mDrop (mApp (mVar 2) (mBor 1 m_L_mixed_rows (mCons (mVar 0) (mCons (mVar 2) mNil))))) (mIfS (mB (mOp fLt (mVar 4) (mC (.int 4)))) (mDrop (mApp (mVar 2) (mCall m_L_thin_matrix (mCons (mVar 0) mNil)))) (mDrop (mApp (mVar 2) (mCall m_L_probe (mCons (mLc false (mRng1 (mCall m_L_draw (mCons (mVar 0) (mCons (mC (.int 4)) mNil)))) (.nm 5) mYes (mCall m_L_any_command (mCons (mVar 0) mNil)) [5]) mNil)))))))))
def b_L_rows : FS :=
  (mSeq (mAsg (mLst true mNil) (.nm 2))
  (mSeq (mFor (mRng1 (mCall m_L_draw (mCons (mVar 0) (mCons (mOp (fAdd false) (mVar 1) (mC (.int 1))) mNil)))) (.nm 3) w_L_rows_1)
  (mRet (mFrz (mVar 2)))))
def m_L_rows : FD := runT 6 2 b_L_rows
def b_L_row_copies : FS :=
  (mRet (mLc false (mSeqI (mVar 0)) (.nm 1) mYes (m1 (fList false) (mVar 1)) [1]))
def m_L_row_copies : FD := run 2 1 b_L_row_copies
theorem E_is_matrix {x0 : Vl} {S : Sto} : m_is_matrix [x0] S = ofOut (b_is_matrix [some x0, none] S) := (rfl)
theorem E_pivot {x0 : Vl} {S : Sto} : m_pivot [x0] S = ofOut (b_pivot [some x0, none, none] S) := (rfl)
theorem E_common_divisor {x0 : Vl} {S : Sto} : m_common_divisor [x0] S = ofOut (b_common_divisor [some x0, none, none] S) := (rfl)
theorem E_primitive {x0 : Vl} {S : Sto} : m_primitive [x0] S = ofOut (b_primitive [some x0, none, none, none] S) := (rfl)
theorem E_cleared {x0 x1 : Vl} {S : Sto} : m_cleared [x0, x1] S = ofOut (b_cleared [some x0, some x1, none, none, none, none, none] S) := (rfl)
theorem E_reduced {x0 x1 : Vl} {S : Sto} : m_reduced [x0, x1] S = ofOut (b_reduced [some x0, some x1, none, none, none, none, none, none, none, none] S) := (rfl)
theorem E_with_row {x0 x1 : Vl} {S : Sto} : m_with_row [x0, x1] S = ofOut (b_with_row [some x0, some x1, none, none] S) := (rfl)
theorem E_Space_init {x0 x1 : Vl} {S : Sto} : m_Space_init [x0, x1] S = ofOut (b_Space_init [some x0, some x1, none, none, none] S) := (rfl)
theorem E_Space_len {x0 : Vl} {S : Sto} : m_Space_len [x0] S = ofOut (b_Space_len [some x0] S) := (rfl)
theorem E_L_first {x0 : Vl} {S : Sto} : m_L_first [x0] S = ofOut (b_L_first [some x0, none] S) := (rfl)
theorem E_L_small {x0 : Vl} {S : Sto} : m_L_small [x0] S = ofOut (b_L_small [some x0, none, none, none, none] S) := (rfl)
theorem E_L_rest {x0 x1 : Vl} {S : Sto} : m_L_rest [x0, x1] S = ofOut (b_L_rest [some x0, some x1, none, none, none, none, none] S) := (rfl)
theorem E_L_grown {x0 x1 : Vl} {S : Sto} : m_L_grown [x0, x1] S = ofOut (b_L_grown [some x0, some x1, none] S) := (rfl)
theorem E_L_span {x0 : Vl} {S : Sto} : m_L_span [x0] S = ofOut (b_L_span [some x0, none, none] S) := (rfl)
theorem E_L_any_matrix {x0 : Vl} {S : Sto} : m_L_any_matrix [x0] S = trunc S.length (ofOut (b_L_any_matrix [some x0, none, none, none, none] S)) := (rfl)
theorem E_L_mixed_rows {x0 x1 : Vl} {S : Sto} : m_L_mixed_rows [x0, x1] S = ofOut (b_L_mixed_rows [some x0, some x1, none, none, none, none] S) := (rfl)
theorem E_L_thin_matrix {x0 : Vl} {S : Sto} : m_L_thin_matrix [x0] S = trunc S.length (ofOut (b_L_thin_matrix [some x0, none, none, none, none] S)) := (rfl)
theorem E_L_rows {x0 x1 : Vl} {S : Sto} : m_L_rows [x0, x1] S = trunc S.length (ofOut (b_L_rows [some x0, some x1, none, none, none, none] S)) := (rfl)
theorem E_L_row_copies {x0 : Vl} {S : Sto} : m_L_row_copies [x0] S = ofOut (b_L_row_copies [some x0, none] S) := (rfl)
end PH

namespace PH
open PySem PySem.Spec PyProof.Rows L2
def w_L_thin_matrix_c_1 : FS :=
  (mWipe [2, 3] (mSeq (mAsg (mCall m_L_draw (mCons (mVar 0) (mCons (mC (.int 49)) mNil))) (.nm 3))
  (mSetI (mOp fSub (mOp (fAdd false) (mOp fIx (mVar 1) (mVar 3)) (mCall m_L_draw (mCons (mVar 0) (mCons (mC (.int 13)) mNil)))) (mC (.int 6))) (mVar 1) (mVar 3))))
def b_L_thin_matrix_c : FS :=
  (mSeq (mAsg (mLc true (mRng1 (mC (.int 49))) (.nm 4) mYes (mC (.int 0)) [4]) (.nm 1))
  (mSeq (mFor (mRng1 (mOp (fAdd false) (mC (.int 1)) (mCall m_L_draw (mCons (mVar 0) (mCons (mC (.int 3)) mNil))))) (.nm 2) w_L_thin_matrix_c_1)
  (mRet (mVar 1))))
def m_L_thin_matrix_c : FD := run 5 1 b_L_thin_matrix_c
theorem E_L_thin_matrix_c {x0 : Vl} {S : Sto} : m_L_thin_matrix_c [x0] S = ofOut (b_L_thin_matrix_c [some x0, none, none, none, none] S) := (rfl)
end PH

namespace PH
open PySem PySem.Spec PyProof.Rows L2
def b_Space_eq : FS :=
  (mRet (mAndV (m1 (fIsC "Space") (mVar 1)) (mOp fEq (mFld "Space" "basis" (mVar 0)) (mFld "Space" "basis" (mVar 1)))))
def m_Space_eq : FD := run 2 2 b_Space_eq
def b_Space_rows : FS :=
  (mRet (mLc false (mSeqI (mFld "Space" "basis" (mVar 0))) (.nm 1) mYes (m1 (fList false) (mVar 1)) [1]))
def m_Space_rows : FD := run 2 1 b_Space_rows
theorem E_Space_eq {x0 x1 : Vl} {S : Sto} : m_Space_eq [x0, x1] S = ofOut (b_Space_eq [some x0, some x1] S) := (rfl)
theorem E_Space_rows {x0 : Vl} {S : Sto} : m_Space_rows [x0] S = ofOut (b_Space_rows [some x0, none] S) := (rfl)
end PH

namespace PH
open PySem PySem.Spec PyProof.Rows L2
end PH

namespace PH
open PySem PySem.Spec PyProof.Rows L2
end PH

namespace PH
open PySem PySem.Spec PyProof.Rows L2
end PH

namespace PH
open PySem PySem.Spec PyProof.Rows L2
def b_L_row_copies_w : FS :=
  (mRet (mLcW (mSeqI (mVar 0)) (.nm 1) mYes (m1 (fList true) (mVar 1)) [1]))
def m_L_row_copies_w : FD := run 2 1 b_L_row_copies_w
theorem E_L_row_copies_w {x0 : Vl} {S : Sto} : m_L_row_copies_w [x0] S = ofOut (b_L_row_copies_w [some x0, none] S) := (rfl)
end PH

namespace PH
open PySem PySem.Spec PyProof.Rows L2
def e_L_other_rows_1 : FE :=
  (mOp (fAdd false) (mOp fIx (mVar 5) (mVar 9)) (mOp fIx (mVar 6) (mVar 9)))
def w_L_other_rows_2 : FS :=
  (mWipe [3, 4, 5, 6] (mSeq (mAsg (mOp fIx (mTup (mCons (mC (.int 1)) (mCons (m1 fNeg (mC (.int 1))) (mCons (mC (.int 2)) (mCons (m1 fNeg (mC (.int 3))) (mCons (mC (.int 6)) (mCons (m1 fNeg (mOp fPow (mC (.int 10)) (mC (.int 9)))) mNil))))))) (mCall m_L_draw (mCons (mVar 0) (mCons (mC (.int 6)) mNil)))) (.nm 4))
  (mSeq (mAsg (mLc false (mSeqI (mOp fIx (mVar 1) (mVar 3))) (.nm 8) mYes (mOp fMul (mVar 4) (mVar 8)) [8]) (.nm 5))
  (mSeq (mAsg (mCall m_L_mixed_rows (mCons (mVar 0) (mCons (mSl false (mVar 1) mNoP (mPart (mVar 3))) mNil))) (.nm 6))
  (mSeq (mAsg (mLc false (mRng1 (mC (.int 49))) (.nm 9) mYes e_L_other_rows_1 [9]) (.nm 5))
  (mDrop (mIns (mVar 2) (mCall m_L_draw (mCons (mVar 0) (mCons (mOp (fAdd false) (m1 fLen (mVar 2)) (mC (.int 1))) mNil))) (mVar 5))))))))
def w_L_other_rows_3 : FS :=
  (mWipe [7] (mDrop (mApp (mVar 2) (mCall m_L_mixed_rows (mCons (mVar 0) (mCons (mVar 1) mNil))))))
def b_L_other_rows : FS :=
  (mSeq (mAsg (mLst true mNil) (.nm 2))
  (mSeq (mFor (mRng1 (m1 fLen (mVar 1))) (.nm 3) w_L_other_rows_2)
  (mSeq (mFor (mRng1 (mCall m_L_draw (mCons (mVar 0) (mCons (mC (.int 3)) mNil)))) (.nm 7) w_L_other_rows_3)
  (mRet (mFrz (mVar 2))))))
def m_L_other_rows : FD := runT 10 2 b_L_other_rows
def r_law_k27_1 : FS :=
  (mSeq (mFrzW 6) (mSeq (mAsg (mMake false "Space" m_Space_init (mCons (mCall m_L_row_copies (mCons (mVar 6) mNil)) mNil)) (.nm 9))
  (mSeq (mAsg (mCall m_L_span (mCons (mVar 2) mNil)) (.nm 10))
  (mSeq (mAsg (mAndV (mOp fEq (m1 fLen (mCall m_L_span (mCons (mVar 6) mNil))) (m1 fLen (mVar 10))) (mOp fEq (m1 fLen (mCall m_L_span (mCons (mOp (fAdd false) (mVar 2) (mVar 6)) mNil))) (m1 fLen (mVar 10)))) (.nm 11))
  (mRet (mAndV (mOp fEq (mOp (fEqO "Space" m_Space_eq) (mVar 4) (mVar 9)) (mVar 11)) (mAndV (mOp fEq (mOp (fEqO "Space" m_Space_eq) (mVar 9) (mVar 4)) (mVar 11)) (mOp fEq (mOp (fNeO "Space" m_Space_eq) (mVar 4) (mVar 9)) (mNotV (mVar 11))))))))))
def r_law_k27_2 : FS :=
  (mSeq (mAsg (mCall m_L_row_copies_w (mCons (mVar 2) mNil)) (.nm 6))
  (mSeq (mIfS (mB (mOp fGt (m1 fLenV (mVar 6)) (mC (.int 0)))) (mSeq (mAsg (mOp fIxV (mVar 6) (mCall m_L_draw (mCons (mVar 1) (mCons (m1 fLenV (mVar 6)) mNil)))) (.nm 7))
  (mSeq (mAsg (mCall m_L_draw (mCons (mVar 1) (mCons (mC (.int 49)) mNil))) (.nm 8))
  (mSetI (mOp fSub (mOp (fAdd false) (mOp fIx (mVar 7) (mVar 8)) (mCall m_L_draw (mCons (mVar 1) (mCons (mC (.int 3)) mNil)))) (mC (.int 1))) (mVar 7) (mVar 8)))) (mAsg (mLstV (mCons (mCall m_L_thin_matrix_c (mCons (mVar 1) mNil)) mNil)) (.nm 6)))
  r_law_k27_1))
def b_law_k27 : FS :=
  (mSeq (mAsg (mCall m_L_pool (mCons (mVar 0) mNil)) (.nm 1))
  (mSeq (mAsg (mCall m_L_rows (mCons (mVar 1) (mCons (mC (.int 6)) mNil))) (.nm 2))
  (mSeq (mAsg (mCall m_L_other_rows (mCons (mVar 1) (mCons (mVar 2) mNil))) (.nm 3))
  (mSeq (mAsg (mMake false "Space" m_Space_init (mCons (mCall m_L_row_copies (mCons (mVar 2) mNil)) mNil)) (.nm 4))
  (mSeq (mAsg (mMake false "Space" m_Space_init (mCons (mCall m_L_row_copies (mCons (mVar 3) mNil)) mNil)) (.nm 5))
  (mSeq (mIfS (mOr (mB (mOp (fNeO "Space" m_Space_eq) (mVar 4) (mVar 5))) (mOr (mNot (mB (mOp (fEqO "Space" m_Space_eq) (mVar 4) (mVar 5)))) (mOr (mB (mOp fNe (mMeth "Space" "rows" m_Space_rows (mVar 4) mNil) (mMeth "Space" "rows" m_Space_rows (mVar 5) mNil))) (mB (mOp fNe (m1 (fLenO "Space" m_Space_len) (mVar 4)) (m1 (fLenO "Space" m_Space_len) (mVar 5))))))) (mRet (mC (.bl false))) mSkip)
  r_law_k27_2))))))
def m_law_k27 : FD := runT 12 1 b_law_k27
theorem E_L_other_rows {x0 x1 : Vl} {S : Sto} : m_L_other_rows [x0, x1] S = trunc S.length (ofOut (b_L_other_rows [some x0, some x1, none, none, none, none, none, none, none, none] S)) := (rfl)
theorem E_law_k27 {x0 : Vl} {S : Sto} : m_law_k27 [x0] S = trunc S.length (ofOut (b_law_k27 [some x0, none, none, none, none, none, none, none, none, none, none, none] S)) := (rfl)
end PH

namespace PHZ
open PH PySem PySem.Spec PyProof.Rows L2
def top (i : Nat) : Stmt := PySem.Challenge.pw_penhome_k27_equal_spaces.main.body.getD i (.Pass ⟨0, 0, 0, 0⟩)
abbrev s_is_integer : Stmt := top 5
theorem sc_is_integer : FnScope ["value"] ["value"] (defScope s_is_integer) := ⟨rfl, rfl, rfl, by decide +kernel, rfl, by decide +kernel, by decide +kernel⟩
abbrev s_is_matrix : Stmt := top 7
theorem sc_is_matrix : FnScope ["value", "number"] ["value"] (defScope s_is_matrix) := ⟨rfl, rfl, rfl, by decide +kernel, rfl, by decide +kernel, by decide +kernel⟩
abbrev s_pivot : Stmt := top 10
theorem sc_pivot : FnScope ["row", "at", "number"] ["row"] (defScope s_pivot) := ⟨rfl, rfl, rfl, by decide +kernel, rfl, by decide +kernel, by decide +kernel⟩
abbrev s_common_divisor : Stmt := top 11
theorem sc_common_divisor : FnScope ["row", "divisor", "number"] ["row"] (defScope s_common_divisor) := ⟨rfl, rfl, rfl, by decide +kernel, rfl, by decide +kernel, by decide +kernel⟩
abbrev s_primitive : Stmt := top 12
theorem sc_primitive : FnScope ["row", "at", "divisor", "number"] ["row"] (defScope s_primitive) := ⟨rfl, rfl, rfl, by decide +kernel, rfl, by decide +kernel, by decide +kernel⟩
abbrev s_cleared : Stmt := top 13
theorem sc_cleared : FnScope ["row", "base", "at", "factor", "scale", "a", "b"] ["row", "base"] (defScope s_cleared) := ⟨rfl, rfl, rfl, by decide +kernel, rfl, by decide +kernel, by decide +kernel⟩
abbrev s_reduced : Stmt := top 14
theorem sc_reduced : FnScope ["basis", "row", "multiple", "base", "at", "rest", "factor", "number", "a", "b"] ["basis", "row"] (defScope s_reduced) := ⟨rfl, rfl, rfl, by decide +kernel, rfl, by decide +kernel, by decide +kernel⟩
abbrev s_with_row : Stmt := top 15
theorem sc_with_row : FnScope ["basis", "row", "rest", "base"] ["basis", "row"] (defScope s_with_row) := ⟨rfl, rfl, rfl, by decide +kernel, rfl, by decide +kernel, by decide +kernel⟩
abbrev s_Space_init : Stmt := (clBody (top 16)).getD 0 (.Pass ⟨0, 0, 0, 0⟩)
theorem sc_Space_init : FnScope ["self", "rows", "index", "row", "basis"] ["self", "rows"] (defScope s_Space_init) := ⟨rfl, rfl, rfl, by decide +kernel, rfl, by decide +kernel, by decide +kernel⟩
abbrev s_Space_len : Stmt := (clBody (top 16)).getD 1 (.Pass ⟨0, 0, 0, 0⟩)
theorem sc_Space_len : FnScope ["self"] ["self"] (defScope s_Space_len) := ⟨rfl, rfl, rfl, by decide +kernel, rfl, by decide +kernel, by decide +kernel⟩
abbrev s_Space_eq : Stmt := (clBody (top 16)).getD 3 (.Pass ⟨0, 0, 0, 0⟩)
theorem sc_Space_eq : FnScope ["self", "other"] ["self", "other"] (defScope s_Space_eq) := ⟨rfl, rfl, rfl, by decide +kernel, rfl, by decide +kernel, by decide +kernel⟩
abbrev s_Space_rows : Stmt := (clBody (top 16)).getD 6 (.Pass ⟨0, 0, 0, 0⟩)
theorem sc_Space_rows : FnScope ["self", "row"] ["self"] (defScope s_Space_rows) := ⟨rfl, rfl, rfl, by decide +kernel, rfl, by decide +kernel, by decide +kernel⟩
abbrev s_L_pool : Stmt := top 18
theorem sc_L_pool : FnScope ["_law_script", "_law_cell"] ["_law_script"] (defScope s_L_pool) := ⟨rfl, rfl, rfl, by decide +kernel, rfl, by decide +kernel, by decide +kernel⟩
abbrev s_L_draw : Stmt := top 19
theorem sc_L_draw : FnScope ["_law_pool_here", "_law_many", "_law_at", "_law_cell", "_law_number_here"] ["_law_pool_here", "_law_many"] (defScope s_L_draw) := ⟨rfl, rfl, rfl, by decide +kernel, rfl, by decide +kernel, by decide +kernel⟩
abbrev s_L_number : Stmt := top 20
theorem sc_L_number : FnScope ["_law_pool_here", "_law_small_here", "_law_at", "_law_number_here"] ["_law_pool_here"] (defScope s_L_number) := ⟨rfl, rfl, rfl, by decide +kernel, rfl, by decide +kernel, by decide +kernel⟩
abbrev s_L_move : Stmt := top 21
theorem sc_L_move : FnScope ["_law_begin", "_law_command", "_law_x", "_law_y", "_law_u", "_law_v", "_law_p", "_law_q", "_law_word", "_law_k", "_law_turned"] ["_law_begin", "_law_command"] (defScope s_L_move) := ⟨rfl, rfl, rfl, by decide +kernel, rfl, by decide +kernel, by decide +kernel⟩
abbrev s_L_pens : Stmt := top 22
theorem sc_L_pens : FnScope ["_law_deeds", "_law_begin", "_law_pens_here", "_law_held", "_law_deed"] ["_law_deeds", "_law_begin"] (defScope s_L_pens) := ⟨rfl, rfl, rfl, by decide +kernel, rfl, by decide +kernel, by decide +kernel⟩
abbrev s_L_probe : Stmt := top 23
theorem sc_L_probe : FnScope ["_law_deeds", "_law_origin", "_law_images", "_law_matrix", "_law_i", "_law_j", "_law_k"] ["_law_deeds"] (defScope s_L_probe) := ⟨rfl, rfl, rfl, by decide +kernel, rfl, by decide +kernel, by decide +kernel⟩
abbrev s_L_first : Stmt := top 24
theorem sc_L_first : FnScope ["_law_row", "_law_at"] ["_law_row"] (defScope s_L_first) := ⟨rfl, rfl, rfl, by decide +kernel, rfl, by decide +kernel, by decide +kernel⟩
abbrev s_L_small : Stmt := top 25
theorem sc_L_small : FnScope ["_law_row", "_law_one", "_law_number_here", "_law_two", "_law_rest_here"] ["_law_row"] (defScope s_L_small) := ⟨rfl, rfl, rfl, by decide +kernel, rfl, by decide +kernel, by decide +kernel⟩
abbrev s_L_rest : Stmt := top 26
theorem sc_L_rest : FnScope ["_law_basis", "_law_row", "_law_base", "_law_at", "_law_one", "_law_two", "_law_k"] ["_law_basis", "_law_row"] (defScope s_L_rest) := ⟨rfl, rfl, rfl, by decide +kernel, rfl, by decide +kernel, by decide +kernel⟩
abbrev s_L_grown : Stmt := top 27
theorem sc_L_grown : FnScope ["_law_basis", "_law_row", "_law_rest_here"] ["_law_basis", "_law_row"] (defScope s_L_grown) := ⟨rfl, rfl, rfl, by decide +kernel, rfl, by decide +kernel, by decide +kernel⟩
abbrev s_L_span : Stmt := top 28
theorem sc_L_span : FnScope ["_law_rows_here", "_law_basis", "_law_row"] ["_law_rows_here"] (defScope s_L_span) := ⟨rfl, rfl, rfl, by decide +kernel, rfl, by decide +kernel, by decide +kernel⟩
abbrev s_L_any_command : Stmt := top 29
theorem sc_L_any_command : FnScope ["_law_pool_here", "_law_kind"] ["_law_pool_here"] (defScope s_L_any_command) := ⟨rfl, rfl, rfl, by decide +kernel, rfl, by decide +kernel, by decide +kernel⟩
abbrev s_L_any_matrix : Stmt := top 30
theorem sc_L_any_matrix : FnScope ["_law_pool_here", "_law_wide", "_law_matrix", "_law_k", "_law_number_here"] ["_law_pool_here"] (defScope s_L_any_matrix) := ⟨rfl, rfl, rfl, by decide +kernel, rfl, by decide +kernel, by decide +kernel⟩
abbrev s_L_mixed_rows : Stmt := top 31
theorem sc_L_mixed_rows : FnScope ["_law_pool_here", "_law_rows_here", "_law_mixed", "_law_row", "_law_factor", "_law_k"] ["_law_pool_here", "_law_rows_here"] (defScope s_L_mixed_rows) := ⟨rfl, rfl, rfl, by decide +kernel, rfl, by decide +kernel, by decide +kernel⟩
abbrev s_L_thin_matrix : Stmt := top 32
theorem sc_L_thin_matrix : FnScope ["_law_pool_here", "_law_matrix", "_law_step", "_law_at", "_law_k"] ["_law_pool_here"] (defScope s_L_thin_matrix) := ⟨rfl, rfl, rfl, by decide +kernel, rfl, by decide +kernel, by decide +kernel⟩
abbrev s_L_rows : Stmt := top 33
theorem sc_L_rows : FnScope ["_law_pool_here", "_law_most", "_law_rows_here", "_law_step", "_law_kind", "_law_k"] ["_law_pool_here", "_law_most"] (defScope s_L_rows) := ⟨rfl, rfl, rfl, by decide +kernel, rfl, by decide +kernel, by decide +kernel⟩
abbrev s_L_row_copies : Stmt := top 34
theorem sc_L_row_copies : FnScope ["_law_rows_here", "_law_row"] ["_law_rows_here"] (defScope s_L_row_copies) := ⟨rfl, rfl, rfl, by decide +kernel, rfl, by decide +kernel, by decide +kernel⟩
abbrev s_L_other_rows : Stmt := top 35
theorem sc_L_other_rows : FnScope ["_law_pool_here", "_law_rows_here", "_law_other", "_law_at", "_law_factor", "_law_row", "_law_more", "_law_step", "_law_number_here", "_law_k"] ["_law_pool_here", "_law_rows_here"] (defScope s_L_other_rows) := ⟨rfl, rfl, rfl, by decide +kernel, rfl, by decide +kernel, by decide +kernel⟩
abbrev s_L_row_copies_w : Stmt := top 34
theorem sc_L_row_copies_w : FnScope ["_law_rows_here", "_law_row"] ["_law_rows_here"] (defScope s_L_row_copies_w) := ⟨rfl, rfl, rfl, by decide +kernel, rfl, by decide +kernel, by decide +kernel⟩
abbrev s_L_thin_matrix_c : Stmt := top 32
theorem sc_L_thin_matrix_c : FnScope ["_law_pool_here", "_law_matrix", "_law_step", "_law_at", "_law_k"] ["_law_pool_here"] (defScope s_L_thin_matrix_c) := ⟨rfl, rfl, rfl, by decide +kernel, rfl, by decide +kernel, by decide +kernel⟩
abbrev s_law_k27 : Stmt := top 36
theorem sc_law_k27 : FnScope ["_law_script", "_law_pool_here", "_law_rows_here", "_law_other", "_law_one", "_law_two", "_law_third", "_law_row", "_law_at", "_law_three", "_law_basis", "_law_alike"] ["_law_script"] (defScope s_law_k27) := ⟨rfl, rfl, rfl, by decide +kernel, rfl, by decide +kernel, by decide +kernel⟩
abbrev si_NoRows : Stmt := (clBody (top 3)).getD 0 (.Pass ⟨0, 0, 0, 0⟩)
theorem sci_NoRows : FnScope ["self", "index"] ["self", "index"] (defScope si_NoRows) := ⟨rfl, rfl, rfl, by decide +kernel, rfl, by decide +kernel, by decide +kernel⟩
structure Txt (P : Program) (w : World) (K : PySem.W.Frag) (mg : Str → Option Value) : Prop where
  tree : Tre P
  n_isinstance : mg "isinstance" = none
  n_int : mg "int" = none
  n_bool : mg "bool" = none
  n_list : mg "list" = none
  n_len : mg "len" = none
  n_all : mg "all" = none
  n_enumerate : mg "enumerate" = none
  n_abs : mg "abs" = none
  sk : SeerK K mg
  n_zip : mg "zip" = none
  n_sorted : mg "sorted" = none
  xa_NoRows : XaF K mg "NoRows" ["index"]
  fx_NoRows : FnM K "NoRows" "__init__" "NoRows.__init__" si_NoRows
  c_Space : Cls K (He.ga K "Space")
  a_Space_basis : NoAttr K (He.ga K "Space") "basis"
  I_Space : IsF K "Space"
  g_Space : mg "Space" = some (.ref (He.ga K "Space"))
  n_range : mg "range" = none
  n_tuple : mg "tuple" = none
  n_min : mg "min" = none
  T_Space : ClF K mg "Space"
  ne_Space : NeF K "Space"
  G_is_integer : mg "is_integer" = some (.ref (He.ga K "is_integer"))
  f_is_integer : FnP K "is_integer" s_is_integer
  G_is_matrix : mg "is_matrix" = some (.ref (He.ga K "is_matrix"))
  f_is_matrix : FnP K "is_matrix" s_is_matrix
  G_pivot : mg "pivot" = some (.ref (He.ga K "pivot"))
  f_pivot : FnP K "pivot" s_pivot
  G_common_divisor : mg "common_divisor" = some (.ref (He.ga K "common_divisor"))
  f_common_divisor : FnP K "common_divisor" s_common_divisor
  G_primitive : mg "primitive" = some (.ref (He.ga K "primitive"))
  f_primitive : FnP K "primitive" s_primitive
  G_cleared : mg "cleared" = some (.ref (He.ga K "cleared"))
  f_cleared : FnP K "cleared" s_cleared
  G_reduced : mg "reduced" = some (.ref (He.ga K "reduced"))
  f_reduced : FnP K "reduced" s_reduced
  G_with_row : mg "with_row" = some (.ref (He.ga K "with_row"))
  f_with_row : FnP K "with_row" s_with_row
  M_Space_init : Meth K (He.ga K "Space") "__init__" (He.ma K (He.ga K "Space") "__init__")
  f_Space_init : FnM K "Space" "__init__" "Space.__init__" s_Space_init
  M_Space_len : Meth K (He.ga K "Space") "__len__" (He.ma K (He.ga K "Space") "__len__")
  f_Space_len : FnM K "Space" "__len__" "Space.__len__" s_Space_len
  M_Space_eq : Meth K (He.ga K "Space") "__eq__" (He.ma K (He.ga K "Space") "__eq__")
  f_Space_eq : FnM K "Space" "__eq__" "Space.__eq__" s_Space_eq
  M_Space_rows : Meth K (He.ga K "Space") "rows" (He.ma K (He.ga K "Space") "rows")
  f_Space_rows : FnM K "Space" "rows" "Space.rows" s_Space_rows
  G_L_pool : mg "_law_pool" = some (.ref (He.ga K "_law_pool"))
  f_L_pool : FnP K "_law_pool" s_L_pool
  G_L_draw : mg "_law_draw" = some (.ref (He.ga K "_law_draw"))
  f_L_draw : FnP K "_law_draw" s_L_draw
  G_L_number : mg "_law_number" = some (.ref (He.ga K "_law_number"))
  f_L_number : FnP K "_law_number" s_L_number
  G_L_move : mg "_law_move" = some (.ref (He.ga K "_law_move"))
  f_L_move : FnP K "_law_move" s_L_move
  G_L_pens : mg "_law_pens" = some (.ref (He.ga K "_law_pens"))
  f_L_pens : FnP K "_law_pens" s_L_pens
  G_L_probe : mg "_law_probe" = some (.ref (He.ga K "_law_probe"))
  f_L_probe : FnP K "_law_probe" s_L_probe
  G_L_first : mg "_law_first" = some (.ref (He.ga K "_law_first"))
  f_L_first : FnP K "_law_first" s_L_first
  G_L_small : mg "_law_small" = some (.ref (He.ga K "_law_small"))
  f_L_small : FnP K "_law_small" s_L_small
  G_L_rest : mg "_law_rest" = some (.ref (He.ga K "_law_rest"))
  f_L_rest : FnP K "_law_rest" s_L_rest
  G_L_grown : mg "_law_grown" = some (.ref (He.ga K "_law_grown"))
  f_L_grown : FnP K "_law_grown" s_L_grown
  G_L_span : mg "_law_span" = some (.ref (He.ga K "_law_span"))
  f_L_span : FnP K "_law_span" s_L_span
  G_L_any_command : mg "_law_any_command" = some (.ref (He.ga K "_law_any_command"))
  f_L_any_command : FnP K "_law_any_command" s_L_any_command
  G_L_any_matrix : mg "_law_any_matrix" = some (.ref (He.ga K "_law_any_matrix"))
  f_L_any_matrix : FnP K "_law_any_matrix" s_L_any_matrix
  G_L_mixed_rows : mg "_law_mixed_rows" = some (.ref (He.ga K "_law_mixed_rows"))
  f_L_mixed_rows : FnP K "_law_mixed_rows" s_L_mixed_rows
  G_L_thin_matrix : mg "_law_thin_matrix" = some (.ref (He.ga K "_law_thin_matrix"))
  f_L_thin_matrix : FnP K "_law_thin_matrix" s_L_thin_matrix
  G_L_rows : mg "_law_rows" = some (.ref (He.ga K "_law_rows"))
  f_L_rows : FnP K "_law_rows" s_L_rows
  G_L_row_copies : mg "_law_row_copies" = some (.ref (He.ga K "_law_row_copies"))
  f_L_row_copies : FnP K "_law_row_copies" s_L_row_copies
  G_L_other_rows : mg "_law_other_rows" = some (.ref (He.ga K "_law_other_rows"))
  f_L_other_rows : FnP K "_law_other_rows" s_L_other_rows
  G_L_row_copies_w : mg "_law_row_copies" = some (.ref (He.ga K "_law_row_copies"))
  f_L_row_copies_w : FnP K "_law_row_copies" s_L_row_copies_w
  G_L_thin_matrix_c : mg "_law_thin_matrix" = some (.ref (He.ga K "_law_thin_matrix"))
  f_L_thin_matrix_c : FnP K "_law_thin_matrix" s_L_thin_matrix_c
  G_law_k27 : mg "law" = some (.ref (He.ga K "law"))
  f_law_k27 : FnP K "law" s_law_k27
section
variable {P : Program} {w : World} {K : PySem.W.Frag} {mg : Str → Option Value} {base : Heap}
theorem xa_NoRows (T : Txt P w K mg) : XcA P w K mg base 1 "NoRows" ["self", "index"] (spX1 (He.ga K "NoRows") "index") :=
  okInit (m := "__init__") T.xa_NoRows T.fx_NoRows sci_NoRows spX1_len (fun _ _ _ _ _ _ us hl => match us, hl with | [_, _], _ => rfl) fun cdv A outer s H vs Q E hr hsp => by
    obtain ⟨a, y, e, ha, h⟩ := hsp
    subst e
    exact ⟨_, (pss_one (ps_ost (cv 0) (cv 1))), rd_X1 T.xa_NoRows (by simp) ha (fun _ _ => rfl) h⟩
theorem ok_is_integer (T : Txt P w K mg) : OkX P w K mg base 1 "is_integer" ["value"] (spF K m_is_integer) :=
  okF (k := 0) (N := ["value"]) T.f_is_integer T.G_is_integer sc_is_integer (Runs.plain (n := 1) (np := 1)) (fun _ _ _ _ _ _ us hl => match us, hl with | [_], _ => rfl) fun cdv A outer s H E hr => by
    have nd : (["value"] : List Str).Nodup := sc_is_integer.nd
    have tk := takes_of (X := cxOf (L2.CX P w) P w K mg base ["value"] "is_integer" (defScope s_is_integer) (He.ga K "is_integer") cdv A outer s H E) (E := E) rfl rfl rfl rfl
    unfold b_is_integer
    exact (fss_one (fs_ret (fe_and (f_isi (T := "int") T.n_isinstance T.n_int (fv 0)) (pe_one (fe_not (f_isi (T := "bool") T.n_isinstance T.n_bool (fv 0)))))))
theorem ok_is_matrix (T : Txt P w K mg) : OkX P w K mg base 2 "is_matrix" ["value"] (spF K m_is_matrix) :=
  okF (k := 1) (N := ["value", "number"]) T.f_is_matrix T.G_is_matrix sc_is_matrix (Runs.plain (n := 2) (np := 1)) (fun _ _ _ _ _ _ us hl => match us, hl with | [_], _ => rfl) fun cdv A outer s H E hr => by
    have nd : (["value", "number"] : List Str).Nodup := sc_is_matrix.nd
    have tk := takes_of (X := cxOf (L2.CX P w) P w K mg base ["value", "number"] "is_matrix" (defScope s_is_matrix) (He.ga K "is_matrix") cdv A outer s H E) (E := E) rfl rfl rfl rfl
    unfold b_is_matrix
    exact (fss_one (fs_ret (fe_and (f_isi (T := "list") T.n_isinstance T.n_list (fv 0)) (fe_and (f_cmp (op_eqC hr.units) s_eq (f_len T.n_len (fv 0)) (fcst pe_int fun _ _ => rfl)) (pe_one (f_all T.n_all (f_lc (own := [("number", 1)]) (t := (.nm 1)) rfl nd (fi_seq (fv 0)) (blkOk_by (own := [("number", 1)]) (N := ["value", "number"]) (sc := defScope s_is_matrix) (by decide +kernel)) (fun _ _ _ _ _ => (pg_name (i := 1) nd rfl (.inl rfl))) (fun _ _ _ _ _ => fts_nil) (fun _ _ _ _ _ => (f_call (ok_is_integer T) hr takes0 (fa_cons (fv 1) fa_nil))))))))))
theorem ok_pivot (T : Txt P w K mg) : OkX P w K mg base 1 "pivot" ["row"] (spF K m_pivot) :=
  okF (k := 0) (N := ["row", "at", "number"]) T.f_pivot T.G_pivot sc_pivot (Runs.plain (n := 3) (np := 1)) (fun _ _ _ _ _ _ us hl => match us, hl with | [_], _ => rfl) fun cdv A outer s H E hr => by
    have nd : (["row", "at", "number"] : List Str).Nodup := sc_pivot.nd
    have tk := takes_of (X := cxOf (L2.CX P w) P w K mg base ["row", "at", "number"] "pivot" (defScope s_pivot) (He.ga K "pivot") cdv A outer s H E) (E := E) rfl rfl rfl rfl
    unfold b_pivot w_pivot_1
    exact (fss_cons (fs_for (t := (.tp [1, 2])) (passes_of rfl) rfl (fi_enum (by rfl) T.n_enumerate (fv 0)) (pg_tup rfl (pgs_cons (pg_name (i := 1) nd rfl (.inl rfl)) (pgs_cons (pg_name (i := 2) nd rfl (.inl rfl)) pgs_nil))) (fss_wipe [1, 2] (fss_one (fs_if (ft_cmp (op_neC hr.units) s_ne (fv 2) (fcst pe_int fun _ _ => rfl)) (fss_one (fs_ret (fv 1))) fss_nil))))
    (fss_one (fs_ret (f_len T.n_len (fv 0)))))
theorem ok_common_divisor (T : Txt P w K mg) : OkX P w K mg base 34 "common_divisor" ["row"] (spF K m_common_divisor) :=
  okF (k := 33) (N := ["row", "divisor", "number"]) T.f_common_divisor T.G_common_divisor sc_common_divisor (Runs.plain (n := 3) (np := 1)) (fun _ _ _ _ _ _ us hl => match us, hl with | [_], _ => rfl) fun cdv A outer s H E hr => by
    have nd : (["row", "divisor", "number"] : List Str).Nodup := sc_common_divisor.nd
    have tk := takes_of (X := cxOf (L2.CX P w) P w K mg base ["row", "divisor", "number"] "common_divisor" (defScope s_common_divisor) (He.ga K "common_divisor") cdv A outer s H E) (E := E) rfl rfl rfl rfl
    unfold b_common_divisor w_common_divisor_2 w_common_divisor_1
    exact (fss_cons (fs_set (i := 1) nd rfl (.inl rfl) (fcst pe_int fun _ _ => rfl))
    (fss_cons (fs_for (t := (.nm 2)) (passes_of rfl) rfl (fi_seq (fv 0)) (pg_name (i := 2) nd rfl (.inl rfl)) (fss_wipe [2] (fss_one (fs_while (k := 1000000) (passes_of rfl) (ft_cmp (op_neC hr.units) s_ne (fv 2) (fcst pe_int fun _ _ => rfl)) (fss_one (fs_par (i := 1) (j := 2) (by rfl) nd rfl rfl (by decide) rfl rfl (fv 2) (f_op op_modNC s_modN (fv 1) (fv 2)) (by rfl)))))))
    (fss_one (fs_ret (f_abs T.n_abs (fv 1))))))
theorem ok_primitive (T : Txt P w K mg) : OkX P w K mg base 35 "primitive" ["row"] (spF K m_primitive) :=
  okF (k := 34) (N := ["row", "at", "divisor", "number"]) T.f_primitive T.G_primitive sc_primitive (Runs.plain (n := 4) (np := 1)) (fun _ _ _ _ _ _ us hl => match us, hl with | [_], _ => rfl) fun cdv A outer s H E hr => by
    have nd : (["row", "at", "divisor", "number"] : List Str).Nodup := sc_primitive.nd
    have tk := takes_of (X := cxOf (L2.CX P w) P w K mg base ["row", "at", "divisor", "number"] "primitive" (defScope s_primitive) (He.ga K "primitive") cdv A outer s H E) (E := E) rfl rfl rfl rfl
    unfold b_primitive
    exact (fss_cons (fs_set (i := 1) nd rfl (.inl rfl) (f_call (ok_pivot T) hr tk (fa_cons (fv 0) fa_nil)))
    (fss_cons (fs_if (ft_cmp (op_eqC hr.units) s_eq (fv 1) (f_len T.n_len (fv 0))) (fss_one (fs_ret (fv 0))) fss_nil)
    (fss_cons (fs_set (i := 2) nd rfl (.inr rfl) (f_call (ok_common_divisor T) hr tk (fa_cons (fv 0) fa_nil)))
    (fss_cons (fs_if (ft_cmp op_ltC s_lt (f_ix (fv 0) (fv 1)) (fcst pe_int fun _ _ => rfl)) (fss_one (fs_set (i := 2) nd rfl (.inr rfl) (f_neg (fv 2)))) fss_nil)
    (fss_one (fs_ret (f_lc (own := [("number", 3)]) (t := (.nm 3)) rfl nd (fi_seq (fv 0)) (blkOk_by (own := [("number", 3)]) (N := ["row", "at", "divisor", "number"]) (sc := defScope s_primitive) (by decide +kernel)) (fun _ _ _ _ _ => (pg_name (i := 3) nd rfl (.inl rfl))) (fun _ _ _ _ _ => fts_nil) (fun _ _ _ _ _ => (f_op (op_fdivN T.sk T.tree (stk_of sc_primitive) hr) s_fdivN (fv 3) (fv 2))))))))))
theorem ok_cleared (T : Txt P w K mg) : OkX P w K mg base 36 "cleared" ["row", "base"] (spF K m_cleared) :=
  okF (k := 35) (N := ["row", "base", "at", "factor", "scale", "a", "b"]) T.f_cleared T.G_cleared sc_cleared (Runs.plain (n := 7) (np := 2)) (fun _ _ _ _ _ _ us hl => match us, hl with | [_, _], _ => rfl) fun cdv A outer s H E hr => by
    have nd : (["row", "base", "at", "factor", "scale", "a", "b"] : List Str).Nodup := sc_cleared.nd
    have tk := takes_of (X := cxOf (L2.CX P w) P w K mg base ["row", "base", "at", "factor", "scale", "a", "b"] "cleared" (defScope s_cleared) (He.ga K "cleared") cdv A outer s H E) (E := E) rfl rfl rfl rfl
    unfold b_cleared e_cleared_1
    exact (fss_cons (fs_set (i := 2) nd rfl (.inl rfl) (f_call (ok_pivot T) hr tk (fa_cons (fv 1) fa_nil)))
    (fss_cons (fs_set (i := 3) nd rfl (.inr rfl) (f_ix (fv 0) (fv 2)))
    (fss_cons (fs_if (ft_cmp (op_eqC hr.units) s_eq (fv 3) (fcst pe_int fun _ _ => rfl)) (fss_one (fs_ret (fv 0))) fss_nil)
    (fss_cons (fs_set (i := 4) nd rfl (.inr rfl) (f_ix (fv 1) (fv 2)))
    (fss_one (fs_ret (f_call (ok_primitive T) hr tk (fa_cons (f_lc (own := [("a", 5), ("b", 6)]) (t := (.tp [5, 6])) rfl nd (fi_zip (by rfl) T.n_zip (fv 0) (fv 1)) (blkOk_by (own := [("a", 5), ("b", 6)]) (N := ["row", "base", "at", "factor", "scale", "a", "b"]) (sc := defScope s_cleared) (by decide +kernel)) (fun _ _ _ _ _ => (pg_tup rfl (pgs_cons (pg_name (i := 5) nd rfl (.inl rfl)) (pgs_cons (pg_name (i := 6) nd rfl (.inl rfl)) pgs_nil)))) (fun _ _ _ _ _ => fts_nil) (fun _ _ _ _ _ => (f_op op_subC s_sub (f_op op_mulC s_mul (fv 4) (fv 5)) (f_op op_mulC s_mul (fv 3) (fv 6))))) fa_nil))))))))
theorem ok_reduced (T : Txt P w K mg) : OkX P w K mg base 35 "reduced" ["basis", "row"] (spF K m_reduced) :=
  okF (k := 34) (N := ["basis", "row", "multiple", "base", "at", "rest", "factor", "number", "a", "b"]) T.f_reduced T.G_reduced sc_reduced (Runs.plain (n := 10) (np := 2)) (fun _ _ _ _ _ _ us hl => match us, hl with | [_, _], _ => rfl) fun cdv A outer s H E hr => by
    have nd : (["basis", "row", "multiple", "base", "at", "rest", "factor", "number", "a", "b"] : List Str).Nodup := sc_reduced.nd
    have tk := takes_of (X := cxOf (L2.CX P w) P w K mg base ["basis", "row", "multiple", "base", "at", "rest", "factor", "number", "a", "b"] "reduced" (defScope s_reduced) (He.ga K "reduced") cdv A outer s H E) (E := E) rfl rfl rfl rfl
    unfold b_reduced w_reduced_2 w_reduced_1
    exact (fss_cons (fs_set (i := 2) nd rfl (.inr rfl) (fcst pe_int fun _ _ => rfl))
    (fss_cons (fs_for (t := (.nm 3)) (passes_of rfl) rfl (fi_seq (fv 0)) (pg_name (i := 3) nd rfl (.inl rfl)) (fss_cons (fs_set (i := 4) nd rfl (.inl rfl) (f_call (ok_pivot T) hr tk (fa_cons (fv 3) fa_nil)))
    (fss_one (fs_if (ft_cmp (op_neC hr.units) s_ne (f_ix (fv 1) (fv 4)) (fcst pe_int fun _ _ => rfl)) (fss_one (fs_set (i := 2) nd rfl (.inr rfl) (f_op (op_fdivN T.sk T.tree (stk_of sc_reduced) hr) s_fdivN (f_op op_mulC s_mul (fv 2) (f_ix (fv 3) (fv 4))) (f_call (ok_common_divisor T) hr tk (fa_cons (f_lst (fa_cons (fv 2) (fa_cons (f_ix (fv 3) (fv 4)) fa_nil))) fa_nil))))) fss_nil))))
    (fss_cons (fs_setLc (i := 5) (own := [("number", 7)]) (t := (.nm 7)) rfl nd rfl rfl (sw_true rfl rfl rfl (by decide +kernel)) (fi_seq (fv 1)) (blkOk_by (own := [("number", 7)]) (N := ["basis", "row", "multiple", "base", "at", "rest", "factor", "number", "a", "b"]) (sc := defScope s_reduced) (by decide +kernel)) (fun _ _ _ _ _ => (pg_name (i := 7) nd rfl (.inl rfl))) (fun _ _ _ _ _ => fts_nil) (fun _ _ _ _ _ => (f_op op_mulC s_mul (fv 2) (fv 7))))
    (fss_cons (fs_for (t := (.nm 3)) (passes_of rfl) rfl (fi_seq (fv 0)) (pg_name (i := 3) nd rfl (.inl rfl)) (fss_wipe [6] (fss_cons (fs_set (i := 4) nd rfl (.inl rfl) (f_call (ok_pivot T) hr tk (fa_cons (fv 3) fa_nil)))
    (fss_cons (fs_set (i := 6) nd rfl (.inr rfl) (f_op op_mulC s_mul (f_op (op_fdivN T.sk T.tree (stk_of sc_reduced) hr) s_fdivN (fv 2) (f_ix (fv 3) (fv 4))) (f_ix (fv 1) (fv 4))))
    (fss_one (fs_if (ft_cmp (op_neC hr.units) s_ne (fv 6) (fcst pe_int fun _ _ => rfl)) (fss_one (fs_setLc (i := 5) (own := [("a", 8), ("b", 9)]) (t := (.tp [8, 9])) rfl nd rfl rfl (sw_true rfl rfl rfl (by decide +kernel)) (fi_zip (by rfl) T.n_zip (fv 5) (fv 3)) (blkOk_by (own := [("a", 8), ("b", 9)]) (N := ["basis", "row", "multiple", "base", "at", "rest", "factor", "number", "a", "b"]) (sc := defScope s_reduced) (by decide +kernel)) (fun _ _ _ _ _ => (pg_tup rfl (pgs_cons (pg_name (i := 8) nd rfl (.inl rfl)) (pgs_cons (pg_name (i := 9) nd rfl (.inl rfl)) pgs_nil)))) (fun _ _ _ _ _ => fts_nil) (fun _ _ _ _ _ => (f_op op_subC s_sub (fv 8) (f_op op_mulC s_mul (fv 6) (fv 9)))))) fss_nil))))))
    (fss_one (fs_ret (fv 5)))))))
theorem ok_with_row (T : Txt P w K mg) : OkX P w K mg base 37 "with_row" ["basis", "row"] (spF K m_with_row) :=
  okF (k := 36) (N := ["basis", "row", "rest", "base"]) T.f_with_row T.G_with_row sc_with_row (Runs.plain (n := 4) (np := 2)) (fun _ _ _ _ _ _ us hl => match us, hl with | [_, _], _ => rfl) fun cdv A outer s H E hr => by
    have nd : (["basis", "row", "rest", "base"] : List Str).Nodup := sc_with_row.nd
    have tk := takes_of (X := cxOf (L2.CX P w) P w K mg base ["basis", "row", "rest", "base"] "with_row" (defScope s_with_row) (He.ga K "with_row") cdv A outer s H E) (E := E) rfl rfl rfl rfl
    unfold b_with_row
    exact (fss_cons (fs_set (i := 2) nd rfl (.inr rfl) (f_call (ok_primitive T) hr tk (fa_cons (f_call (ok_reduced T) hr tk (fa_cons (fv 0) (fa_cons (fv 1) fa_nil))) fa_nil)))
    (fss_cons (fs_if (ft_cmp (op_eqC hr.units) s_eq (f_call (ok_pivot T) hr tk (fa_cons (fv 2) fa_nil)) (f_len T.n_len (fv 2))) (fss_one (fs_ret (fv 0))) fss_nil)
    (fss_one (fs_ret (f_sortK T.n_sorted (ok_pivot T) hr T.G_pivot (f_op op_addC s_add (f_lc (own := [("base", 3)]) (t := (.nm 3)) rfl nd (fi_seq (fv 0)) (blkOk_by (own := [("base", 3)]) (N := ["basis", "row", "rest", "base"]) (sc := defScope s_with_row) (by decide +kernel)) (fun _ _ _ _ _ => (pg_name (i := 3) nd rfl (.inl rfl))) (fun _ _ _ _ _ => fts_nil) (fun _ _ _ _ _ => (f_call (ok_cleared T) hr takes0 (fa_cons (fv 3) (fa_cons (fv 2) fa_nil))))) (f_lst (fa_cons (fv 2) fa_nil))))))))
theorem ok_Space_init (T : Txt P w K mg) : OkMX P w K mg base 38 "Space" "__init__" ["self", "rows"] (spF K m_Space_init) :=
  okFM (k := 37) (N := ["self", "rows", "index", "row", "basis"]) T.f_Space_init T.M_Space_init sc_Space_init (Runs.plain (n := 5) (np := 2)) (fun _ _ _ _ _ _ us hl => match us, hl with | [_, _], _ => rfl) fun cdv A outer s H E hr => by
    have nd : (["self", "rows", "index", "row", "basis"] : List Str).Nodup := sc_Space_init.nd
    have tk := takes_of (X := cxOf (L2.CX P w) P w K mg base ["self", "rows", "index", "row", "basis"] "Space.__init__" (defScope s_Space_init) (He.ma K (He.ga K "Space") "__init__") cdv A outer s H E) (E := E) rfl rfl rfl rfl
    unfold b_Space_init w_Space_init_2 w_Space_init_1
    exact (fss_cons (fs_if (ft_not (ft_val (f_isi (T := "list") T.n_isinstance T.n_list (fv 1)))) (fss_one (fs_raise1 (xa_NoRows T) hr tk (fa_cons (f_neg (fcst pe_int fun _ _ => rfl)) fa_nil))) fss_nil)
    (fss_cons (fs_for (t := (.tp [2, 3])) (passes_of rfl) rfl (fi_enum (by rfl) T.n_enumerate (fv 1)) (pg_tup rfl (pgs_cons (pg_name (i := 2) nd rfl (.inl rfl)) (pgs_cons (pg_name (i := 3) nd rfl (.inl rfl)) pgs_nil))) (fss_wipe [2] (fss_one (fs_if (ft_not (ft_val (f_call (ok_is_matrix T) hr tk (fa_cons (fv 3) fa_nil)))) (fss_one (fs_raise1 (xa_NoRows T) hr tk (fa_cons (fv 2) fa_nil))) fss_nil))))
    (fss_cons (fs_set (i := 4) nd rfl (.inl rfl) (f_lst fa_nil))
    (fss_cons (fs_for (t := (.nm 3)) (passes_of rfl) rfl (fi_seq (fv 1)) (pg_name (i := 3) nd rfl (.inl rfl)) (fss_one (fs_set (i := 4) nd rfl (.inl rfl) (f_call (ok_with_row T) hr tk (fa_cons (fv 4) (fa_cons (fv 3) fa_nil))))))
    (fss_one (fs_setF T.c_Space T.a_Space_basis (fv 0) (fv 4)))))))
theorem ok_Space_len (T : Txt P w K mg) : OkMX P w K mg base 1 "Space" "__len__" ["self"] (spF K m_Space_len) :=
  okFM (k := 0) (N := ["self"]) T.f_Space_len T.M_Space_len sc_Space_len (Runs.plain (n := 1) (np := 1)) (fun _ _ _ _ _ _ us hl => match us, hl with | [_], _ => rfl) fun cdv A outer s H E hr => by
    have nd : (["self"] : List Str).Nodup := sc_Space_len.nd
    have tk := takes_of (X := cxOf (L2.CX P w) P w K mg base ["self"] "Space.__len__" (defScope s_Space_len) (He.ma K (He.ga K "Space") "__len__") cdv A outer s H E) (E := E) rfl rfl rfl rfl
    unfold b_Space_len
    exact (fss_one (fs_ret (f_len T.n_len (f_fld T.c_Space T.a_Space_basis (fv 0)))))
theorem ok_Space_eq (T : Txt P w K mg) : OkMX P w K mg base 1 "Space" "__eq__" ["self", "other"] (spF K m_Space_eq) :=
  okFM (k := 0) (N := ["self", "other"]) T.f_Space_eq T.M_Space_eq sc_Space_eq (Runs.plain (n := 2) (np := 2)) (fun _ _ _ _ _ _ us hl => match us, hl with | [_, _], _ => rfl) fun cdv A outer s H E hr => by
    have nd : (["self", "other"] : List Str).Nodup := sc_Space_eq.nd
    have tk := takes_of (X := cxOf (L2.CX P w) P w K mg base ["self", "other"] "Space.__eq__" (defScope s_Space_eq) (He.ma K (He.ga K "Space") "__eq__") cdv A outer s H E) (E := E) rfl rfl rfl rfl
    unfold b_Space_eq
    exact (fss_one (fs_ret (fe_and (f_isC T.I_Space T.n_isinstance T.g_Space (fv 1)) (pe_one (f_cmp (op_eqC hr.units) s_eq (f_fld T.c_Space T.a_Space_basis (fv 0)) (f_fld T.c_Space T.a_Space_basis (fv 1)))))))
theorem ok_Space_rows (T : Txt P w K mg) : OkMX P w K mg base 1 "Space" "rows" ["self"] (spF K m_Space_rows) :=
  okFM (k := 0) (N := ["self", "row"]) T.f_Space_rows T.M_Space_rows sc_Space_rows (Runs.plain (n := 2) (np := 1)) (fun _ _ _ _ _ _ us hl => match us, hl with | [_], _ => rfl) fun cdv A outer s H E hr => by
    have nd : (["self", "row"] : List Str).Nodup := sc_Space_rows.nd
    have tk := takes_of (X := cxOf (L2.CX P w) P w K mg base ["self", "row"] "Space.rows" (defScope s_Space_rows) (He.ma K (He.ga K "Space") "rows") cdv A outer s H E) (E := E) rfl rfl rfl rfl
    unfold b_Space_rows
    exact (fss_one (fs_ret (f_lc (own := [("row", 1)]) (t := (.nm 1)) rfl nd (fi_seq (f_fld T.c_Space T.a_Space_basis (fv 0))) (blkOk_by (own := [("row", 1)]) (N := ["self", "row"]) (sc := defScope s_Space_rows) (by decide +kernel)) (fun _ _ _ _ _ => (pg_name (i := 1) nd rfl (.inl rfl))) (fun _ _ _ _ _ => fts_nil) (fun _ _ _ _ _ => (f_list T.n_list (fv 1))))))
theorem ok_L_pool (T : Txt P w K mg) : OkX P w K mg base 1 "_law_pool" ["_law_script"] (spF K m_L_pool) :=
  okF (k := 0) (N := ["_law_script", "_law_cell"]) T.f_L_pool T.G_L_pool sc_L_pool (Runs.plain (n := 2) (np := 1)) (fun _ _ _ _ _ _ us hl => match us, hl with | [_], _ => rfl) fun cdv A outer s H E hr => by
    have nd : (["_law_script", "_law_cell"] : List Str).Nodup := sc_L_pool.nd
    have tk := takes_of (X := cxOf (L2.CX P w) P w K mg base ["_law_script", "_law_cell"] "_law_pool" (defScope s_L_pool) (He.ga K "_law_pool") cdv A outer s H E) (E := E) rfl rfl rfl rfl
    unfold b_L_pool
    exact (fss_one (fs_ret (f_op op_addC s_add (f_lst (fa_cons (fcst pe_int fun _ _ => rfl) fa_nil)) (fe_orT (f_lc (own := [("_law_cell", 1)]) (t := (.nm 1)) rfl nd (fi_seq (f_sl (fv 0) fo_none (fo_some (fcst pe_int fun _ _ => rfl)))) (blkOk_by (own := [("_law_cell", 1)]) (N := ["_law_script", "_law_cell"]) (sc := defScope s_L_pool) (by decide +kernel)) (fun _ _ _ _ _ => (pg_name (i := 1) nd rfl (.inl rfl))) (fun _ _ _ _ _ => fts_nil) (fun _ _ _ _ _ => (f_intc T.n_int (fv 1)))) (pe_one (f_lst (fa_cons (fcst pe_int fun _ _ => rfl) fa_nil)))))))
theorem ok_L_draw (T : Txt P w K mg) : OkX P w K mg base 1 "_law_draw" ["_law_pool_here", "_law_many"] (spF K m_L_draw) :=
  okF (k := 0) (N := ["_law_pool_here", "_law_many", "_law_at", "_law_cell", "_law_number_here"]) T.f_L_draw T.G_L_draw sc_L_draw (Runs.plain (n := 5) (np := 2)) (fun _ _ _ _ _ _ us hl => match us, hl with | [_, _], _ => rfl) fun cdv A outer s H E hr => by
    have nd : (["_law_pool_here", "_law_many", "_law_at", "_law_cell", "_law_number_here"] : List Str).Nodup := sc_L_draw.nd
    have tk := takes_of (X := cxOf (L2.CX P w) P w K mg base ["_law_pool_here", "_law_many", "_law_at", "_law_cell", "_law_number_here"] "_law_draw" (defScope s_L_draw) (He.ga K "_law_draw") cdv A outer s H E) (E := E) rfl rfl rfl rfl
    unfold b_L_draw
    exact (fss_cons (fs_augIadd (fv 0) (fcst pe_int fun _ _ => rfl) (fcst pe_int fun _ _ => rfl))
    (fss_cons (fs_set (i := 2) nd rfl (.inl rfl) (f_op op_addC s_add (fcst pe_int fun _ _ => rfl) (f_op op_modC s_mod (f_intc T.n_int (f_ix (fv 0) (fcst pe_int fun _ _ => rfl))) (f_op op_subC s_sub (f_len T.n_len (fv 0)) (fcst pe_int fun _ _ => rfl)))))
    (fss_cons (fs_set (i := 3) nd rfl (.inl rfl) (f_intc T.n_int (f_ix (fv 0) (fv 2))))
    (fss_cons (fs_if (ft_cmp op_geC s_ge (fv 3) (f_op op_powC s_pow (fcst pe_int fun _ _ => rfl) (fcst pe_int fun _ _ => rfl))) (fss_cons (fs_setI (f_op op_fdivC s_fdiv (fv 3) (fv 1)) (fv 0) (fv 2))
    (fss_one (fs_ret (f_op op_modC s_mod (fv 3) (fv 1))))) fss_nil)
    (fss_cons (fs_set (i := 4) nd rfl (.inl rfl) (f_op op_modC s_mod (f_op op_mulC s_mul (f_intc T.n_int (f_op op_addC s_add (f_op op_addC s_add (fv 3) (f_op op_mulC s_mul (fcst pe_int fun _ _ => rfl) (f_ix (fv 0) (fcst pe_int fun _ _ => rfl)))) (fcst pe_int fun _ _ => rfl))) (fcst pe_int fun _ _ => rfl)) (fcst pe_int fun _ _ => rfl)))
    (fss_cons (fs_set (i := 4) nd rfl (.inl rfl) (f_op op_modC s_mod (f_op op_mulC s_mul (fv 4) (f_op op_addC s_add (f_op op_fdivC s_fdiv (fv 4) (fcst pe_int fun _ _ => rfl)) (fcst pe_int fun _ _ => rfl))) (fcst pe_int fun _ _ => rfl)))
    (fss_cons (fs_set (i := 4) nd rfl (.inl rfl) (f_op op_modC s_mod (f_op op_mulC s_mul (fv 4) (f_op op_addC s_add (f_op op_fdivC s_fdiv (fv 4) (fcst pe_int fun _ _ => rfl)) (fcst pe_int fun _ _ => rfl))) (fcst pe_int fun _ _ => rfl)))
    (fss_one (fs_ret (f_op op_modC s_mod (f_op op_fdivC s_fdiv (fv 4) (fcst pe_int fun _ _ => rfl)) (fv 1)))))))))))
theorem ok_L_number (T : Txt P w K mg) : OkX P w K mg base 2 "_law_number" ["_law_pool_here"] (spF K m_L_number) :=
  okF (k := 1) (N := ["_law_pool_here", "_law_small_here", "_law_at", "_law_number_here"]) T.f_L_number T.G_L_number sc_L_number (Runs.plain (n := 4) (np := 1)) (fun _ _ _ _ _ _ us hl => match us, hl with | [_], _ => rfl) fun cdv A outer s H E hr => by
    have nd : (["_law_pool_here", "_law_small_here", "_law_at", "_law_number_here"] : List Str).Nodup := sc_L_number.nd
    have tk := takes_of (X := cxOf (L2.CX P w) P w K mg base ["_law_pool_here", "_law_small_here", "_law_at", "_law_number_here"] "_law_number" (defScope s_L_number) (He.ga K "_law_number") cdv A outer s H E) (E := E) rfl rfl rfl rfl
    unfold b_L_number
    exact (fss_cons (fs_set (i := 1) nd rfl (.inl rfl) (f_call (ok_L_draw T) hr tk (fa_cons (fv 0) (fa_cons (fcst pe_int fun _ _ => rfl) fa_nil))))
    (fss_cons (fs_if (ft_cmp (op_eqC hr.units) s_eq (fv 1) (fcst pe_int fun _ _ => rfl)) (fss_one (fs_ret (f_op op_subC s_sub (f_call (ok_L_draw T) hr tk (fa_cons (fv 0) (fa_cons (fcst pe_int fun _ _ => rfl) fa_nil))) (fcst pe_int fun _ _ => rfl)))) fss_nil)
    (fss_cons (fs_augIadd (fv 0) (fcst pe_int fun _ _ => rfl) (fcst pe_int fun _ _ => rfl))
    (fss_cons (fs_set (i := 2) nd rfl (.inl rfl) (f_op op_addC s_add (fcst pe_int fun _ _ => rfl) (f_op op_modC s_mod (f_intc T.n_int (f_ix (fv 0) (fcst pe_int fun _ _ => rfl))) (f_op op_subC s_sub (f_len T.n_len (fv 0)) (fcst pe_int fun _ _ => rfl)))))
    (fss_cons (fs_set (i := 3) nd rfl (.inl rfl) (f_op op_modC s_mod (f_intc T.n_int (f_op op_addC s_add (f_op op_mulC s_mul (f_ix (fv 0) (fv 2)) (fcst pe_int fun _ _ => rfl)) (f_op op_mulC s_mul (f_ix (fv 0) (fcst pe_int fun _ _ => rfl)) (fcst pe_int fun _ _ => rfl)))) (f_op op_powC s_pow (fcst pe_int fun _ _ => rfl) (fcst pe_int fun _ _ => rfl))))
    (fss_cons (fs_if (ft_cmp (op_eqC hr.units) s_eq (f_call (ok_L_draw T) hr tk (fa_cons (fv 0) (fa_cons (fcst pe_int fun _ _ => rfl) fa_nil))) (fcst pe_int fun _ _ => rfl)) (fss_one (fs_ret (fv 3))) fss_nil)
    (fss_one (fs_ret (f_op op_subC s_sub (fcst pe_int fun _ _ => rfl) (fv 3))))))))))
theorem ok_L_move (T : Txt P w K mg) : OkX P w K mg base 1 "_law_move" ["_law_begin", "_law_command"] (spF K m_L_move) :=
  okF (k := 0) (N := ["_law_begin", "_law_command", "_law_x", "_law_y", "_law_u", "_law_v", "_law_p", "_law_q", "_law_word", "_law_k", "_law_turned"]) T.f_L_move T.G_L_move sc_L_move (Runs.plain (n := 11) (np := 2)) (fun _ _ _ _ _ _ us hl => match us, hl with | [_, _], _ => rfl) fun cdv A outer s H E hr => by
    have nd : (["_law_begin", "_law_command", "_law_x", "_law_y", "_law_u", "_law_v", "_law_p", "_law_q", "_law_word", "_law_k", "_law_turned"] : List Str).Nodup := sc_L_move.nd
    have tk := takes_of (X := cxOf (L2.CX P w) P w K mg base ["_law_begin", "_law_command", "_law_x", "_law_y", "_law_u", "_law_v", "_law_p", "_law_q", "_law_word", "_law_k", "_law_turned"] "_law_move" (defScope s_L_move) (He.ga K "_law_move") cdv A outer s H E) (E := E) rfl rfl rfl rfl
    unfold b_L_move
    exact (fss_cons (fs_asg (t := (.tp [2, 3, 4, 5, 6, 7])) (fv 0) (pg_tup rfl (pgs_cons (pg_name (i := 2) nd rfl (.inl rfl)) (pgs_cons (pg_name (i := 3) nd rfl (.inl rfl)) (pgs_cons (pg_name (i := 4) nd rfl (.inl rfl)) (pgs_cons (pg_name (i := 5) nd rfl (.inl rfl)) (pgs_cons (pg_name (i := 6) nd rfl (.inl rfl)) (pgs_cons (pg_name (i := 7) nd rfl (.inl rfl)) pgs_nil))))))))
    (fss_cons (fs_set (i := 8) nd rfl (.inl rfl) (f_ix (fv 1) (fcst pe_int fun _ _ => rfl)))
    (fss_cons (fs_set (i := 9) nd rfl (.inl rfl) (f_ix (f_op op_addC s_add (fv 1) (f_tup (fa_cons (fcst pe_int fun _ _ => rfl) fa_nil))) (fcst pe_int fun _ _ => rfl)))
    (fss_cons (fs_if (ft_cmp (op_eqC hr.units) s_eq (fv 8) (fcst pe_str fun _ _ => rfl)) (fss_one (fs_ret (f_tup (fa_cons (f_op op_addC s_add (fv 2) (f_op op_mulC s_mul (fv 9) (fv 4))) (fa_cons (f_op op_addC s_add (fv 3) (f_op op_mulC s_mul (fv 9) (fv 5))) (fa_cons (fv 4) (fa_cons (fv 5) (fa_cons (fv 6) (fa_cons (fv 7) fa_nil))))))))) fss_nil)
    (fss_cons (fs_if (ft_cmp (op_eqC hr.units) s_eq (fv 8) (fcst pe_str fun _ _ => rfl)) (fss_cons (fs_set (i := 10) nd rfl (.inl rfl) (f_ix (f_lst (fa_cons (f_tup (fa_cons (f_neg (fv 5)) (fa_cons (fv 4) fa_nil))) (fa_cons (f_tup (fa_cons (f_neg (fv 4)) (fa_cons (f_neg (fv 5)) fa_nil))) (fa_cons (f_tup (fa_cons (fv 5) (fa_cons (f_neg (fv 4)) fa_nil))) fa_nil)))) (f_op op_subC s_sub (fv 9) (fcst pe_int fun _ _ => rfl))))
    (fss_one (fs_ret (f_tup (fa_cons (fv 2) (fa_cons (fv 3) (fa_cons (f_ix (fv 10) (fcst pe_int fun _ _ => rfl)) (fa_cons (f_ix (fv 10) (fcst pe_int fun _ _ => rfl)) (fa_cons (fv 6) (fa_cons (fv 7) fa_nil)))))))))) fss_nil)
    (fss_cons (fs_if (ft_cmp (op_eqC hr.units) s_eq (fv 8) (fcst pe_str fun _ _ => rfl)) (fss_one (fs_ret (f_tup (fa_cons (fv 2) (fa_cons (fv 3) (fa_cons (fv 4) (fa_cons (f_neg (fv 5)) (fa_cons (fv 6) (fa_cons (fv 7) fa_nil))))))))) fss_nil)
    (fss_cons (fs_if (ft_cmp (op_eqC hr.units) s_eq (fv 8) (fcst pe_str fun _ _ => rfl)) (fss_one (fs_ret (f_tup (fa_cons (fv 2) (fa_cons (fv 3) (fa_cons (f_op op_mulC s_mul (fv 4) (fv 9)) (fa_cons (f_op op_mulC s_mul (fv 5) (fv 9)) (fa_cons (fv 6) (fa_cons (fv 7) fa_nil))))))))) fss_nil)
    (fss_cons (fs_if (ft_cmp (op_eqC hr.units) s_eq (fv 8) (fcst pe_str fun _ _ => rfl)) (fss_one (fs_ret (f_tup (fa_cons (fv 2) (fa_cons (fv 3) (fa_cons (fv 9) (fa_cons (f_ix (fv 1) (fcst pe_int fun _ _ => rfl)) (fa_cons (fv 6) (fa_cons (fv 7) fa_nil))))))))) fss_nil)
    (fss_cons (fs_if (ft_cmp (op_eqC hr.units) s_eq (fv 8) (fcst pe_str fun _ _ => rfl)) (fss_one (fs_ret (f_tup (fa_cons (fv 9) (fa_cons (f_ix (fv 1) (fcst pe_int fun _ _ => rfl)) (fa_cons (fv 4) (fa_cons (fv 5) (fa_cons (fv 6) (fa_cons (fv 7) fa_nil))))))))) fss_nil)
    (fss_cons (fs_if (ft_cmp (op_eqC hr.units) s_eq (fv 8) (fcst pe_str fun _ _ => rfl)) (fss_one (fs_ret (f_tup (fa_cons (fv 2) (fa_cons (fv 3) (fa_cons (fv 4) (fa_cons (fv 5) (fa_cons (fv 2) (fa_cons (fv 3) fa_nil))))))))) fss_nil)
    (fss_cons (fs_if (ft_cmp (op_eqC hr.units) s_eq (fv 8) (fcst pe_str fun _ _ => rfl)) (fss_one (fs_ret (f_tup (fa_cons (fv 6) (fa_cons (fv 7) (fa_cons (fv 4) (fa_cons (fv 5) (fa_cons (fv 6) (fa_cons (fv 7) fa_nil))))))))) fss_nil)
    (fss_one (fs_ret (f_tup (fa_cons (fv 6) (fa_cons (fv 7) (fa_cons (fv 4) (fa_cons (fv 5) (fa_cons (fv 2) (fa_cons (fv 3) fa_nil))))))))))))))))))))
theorem ok_L_pens (T : Txt P w K mg) : OkX P w K mg base 2 "_law_pens" ["_law_deeds", "_law_begin"] (spF K m_L_pens) :=
  okF (k := 1) (N := ["_law_deeds", "_law_begin", "_law_pens_here", "_law_held", "_law_deed"]) T.f_L_pens T.G_L_pens sc_L_pens (Runs.cut (n := 5) (np := 2)) (fun _ _ _ _ _ _ us hl => match us, hl with | [_, _], _ => rfl) fun cdv A outer s H E hr => by
    have nd : (["_law_deeds", "_law_begin", "_law_pens_here", "_law_held", "_law_deed"] : List Str).Nodup := sc_L_pens.nd
    have tk := takes_of (X := cxOf (L2.CX P w) P w K mg base ["_law_deeds", "_law_begin", "_law_pens_here", "_law_held", "_law_deed"] "_law_pens" (defScope s_L_pens) (He.ga K "_law_pens") cdv A outer s H E) (E := E) rfl rfl rfl rfl
    unfold b_L_pens w_L_pens_1
    exact (fss_cons (fs_set (i := 2) nd rfl (.inl rfl) (f_lst fa_nil))
    (fss_cons (fs_set (i := 3) nd rfl (.inl rfl) (f_lst fa_nil))
    (fss_cons (fs_for (t := (.nm 4)) (passes_of rfl) rfl (fi_seq (fv 0)) (pg_name (i := 4) nd rfl (.inl rfl)) (fss_wipe [4] (fss_one (fs_if (ft_cmp (op_eqC hr.units) s_eq (f_ix (fv 4) (fcst pe_int fun _ _ => rfl)) (fcst pe_str fun _ _ => rfl)) (fss_one (fs_expr (f_app (fv 3) (fv 1)))) (fss_one (fs_if (ft_cmp (op_eqC hr.units) s_eq (f_ix (fv 4) (fcst pe_int fun _ _ => rfl)) (fcst pe_str fun _ _ => rfl)) (fss_one (fs_set (i := 1) nd rfl (.inl rfl) (f_op op_addC s_add (f_sl (f_pop (fv 3)) fo_none (fo_some (fcst pe_int fun _ _ => rfl))) (f_sl (fv 1) (fo_some (fcst pe_int fun _ _ => rfl)) fo_none)))) (fss_cons (fs_set (i := 1) nd rfl (.inl rfl) (f_call (ok_L_move T) hr tk (fa_cons (fv 1) (fa_cons (fv 4) fa_nil))))
    (fss_one (fs_expr (f_app (fv 2) (fv 1)))))))))))
    (fss_one (fs_ret (f_lst (fa_cons (f_frz (fv 2)) (fa_cons (fv 1) fa_nil))))))))
theorem ok_L_probe (T : Txt P w K mg) : OkX P w K mg base 3 "_law_probe" ["_law_deeds"] (spF K m_L_probe) :=
  okF (k := 2) (N := ["_law_deeds", "_law_origin", "_law_images", "_law_matrix", "_law_i", "_law_j", "_law_k"]) T.f_L_probe T.G_L_probe sc_L_probe (Runs.cut (n := 7) (np := 1)) (fun _ _ _ _ _ _ us hl => match us, hl with | [_], _ => rfl) fun cdv A outer s H E hr => by
    have nd : (["_law_deeds", "_law_origin", "_law_images", "_law_matrix", "_law_i", "_law_j", "_law_k"] : List Str).Nodup := sc_L_probe.nd
    have tk := takes_of (X := cxOf (L2.CX P w) P w K mg base ["_law_deeds", "_law_origin", "_law_images", "_law_matrix", "_law_i", "_law_j", "_law_k"] "_law_probe" (defScope s_L_probe) (He.ga K "_law_probe") cdv A outer s H E) (E := E) rfl rfl rfl rfl
    unfold b_L_probe w_L_probe_3 w_L_probe_2 e_L_probe_1
    exact (fss_cons (fs_set (i := 1) nd rfl (.inl rfl) (f_ix (f_call (ok_L_pens T) hr tk (fa_cons (fv 0) (fa_cons (f_tup (fa_cons (fcst pe_int fun _ _ => rfl) (fa_cons (fcst pe_int fun _ _ => rfl) (fa_cons (fcst pe_int fun _ _ => rfl) (fa_cons (fcst pe_int fun _ _ => rfl) (fa_cons (fcst pe_int fun _ _ => rfl) (fa_cons (fcst pe_int fun _ _ => rfl) fa_nil))))))) fa_nil))) (fcst pe_int fun _ _ => rfl)))
    (fss_cons (fs_setLc (i := 2) (own := [("_law_j", 5)]) (t := (.nm 5)) rfl nd rfl rfl (sw_true rfl rfl rfl (by decide +kernel)) (fi_rng1 (by rfl) T.n_range (fcst pe_int fun _ _ => rfl)) (blkOk_by (own := [("_law_j", 5)]) (N := ["_law_deeds", "_law_origin", "_law_images", "_law_matrix", "_law_i", "_law_j", "_law_k"]) (sc := defScope s_L_probe) (by decide +kernel)) (fun _ _ _ _ _ => (pg_name (i := 5) nd rfl (.inr rfl))) (fun _ _ _ _ _ => fts_nil) (fun _ _ _ _ _ => (f_ix (f_call (ok_L_pens T) hr takes0 (fa_cons (fv 0) (fa_cons (f_tuple T.n_tuple (f_lc (own := [("_law_k", 6)]) (t := (.nm 6)) rfl nd (fi_rng1 (by rfl) T.n_range (fcst pe_int fun _ _ => rfl)) (blkOk_by (own := [("_law_k", 6)]) (N := ["_law_deeds", "_law_origin", "_law_images", "_law_matrix", "_law_i", "_law_j", "_law_k"]) (by kernel_rfl)) (fun _ _ _ _ _ => (pg_name (i := 6) nd rfl (.inl rfl))) (fun _ _ _ _ _ => fts_nil) (fun _ _ _ _ _ => (f_intc T.n_int (f_cmp (op_eqC hr.units) s_eq (fv 6) (fv 5)))))) fa_nil))) (fcst pe_int fun _ _ => rfl))))
    (fss_cons (fs_set (i := 3) nd rfl (.inl rfl) (f_lst (fa_cons (fcst pe_int fun _ _ => rfl) (fa_cons (fcst pe_int fun _ _ => rfl) (fa_cons (fcst pe_int fun _ _ => rfl) (fa_cons (fcst pe_int fun _ _ => rfl) (fa_cons (fcst pe_int fun _ _ => rfl) (fa_cons (fcst pe_int fun _ _ => rfl) (fa_cons (fcst pe_int fun _ _ => rfl) fa_nil)))))))))
    (fss_cons (fs_for (t := (.nm 4)) (passes_of rfl) rfl (fi_rng1 (by rfl) T.n_range (fcst pe_int fun _ _ => rfl)) (pg_name (i := 4) nd rfl (.inl rfl)) (fss_wipe [4, 5] (fss_cons (fs_expr (f_app (fv 3) (f_ix (fv 1) (fv 4))))
    (fss_one (fs_for (t := (.nm 5)) (passes_of rfl) rfl (fi_rng1 (by rfl) T.n_range (fcst pe_int fun _ _ => rfl)) (pg_name (i := 5) nd rfl (.inl rfl)) (fss_wipe [5] (fss_one (fs_expr (f_app (fv 3) (f_op op_subC s_sub (f_ix (f_ix (fv 2) (fv 5)) (fv 4)) (f_ix (fv 1) (fv 4))))))))))))
    (fss_one (fs_ret (f_frz (fv 3))))))))
theorem ok_L_first (T : Txt P w K mg) : OkX P w K mg base 1 "_law_first" ["_law_row"] (spF K m_L_first) :=
  okF (k := 0) (N := ["_law_row", "_law_at"]) T.f_L_first T.G_L_first sc_L_first (Runs.plain (n := 2) (np := 1)) (fun _ _ _ _ _ _ us hl => match us, hl with | [_], _ => rfl) fun cdv A outer s H E hr => by
    have nd : (["_law_row", "_law_at"] : List Str).Nodup := sc_L_first.nd
    have tk := takes_of (X := cxOf (L2.CX P w) P w K mg base ["_law_row", "_law_at"] "_law_first" (defScope s_L_first) (He.ga K "_law_first") cdv A outer s H E) (E := E) rfl rfl rfl rfl
    unfold b_L_first
    exact (fss_one (fs_ret (f_minL T.n_min (f_op op_addC s_add (f_lc (own := [("_law_at", 1)]) (t := (.nm 1)) rfl nd (fi_rng1 (by rfl) T.n_range (f_len T.n_len (fv 0))) (blkOk_by (own := [("_law_at", 1)]) (N := ["_law_row", "_law_at"]) (sc := defScope s_L_first) (by decide +kernel)) (fun _ _ _ _ _ => (pg_name (i := 1) nd rfl (.inl rfl))) (fun _ _ _ _ _ => (fts_one (ft_cmp (op_neC hr.units) s_ne (f_ix (fv 0) (fv 1)) (fcst pe_int fun _ _ => rfl)))) (fun _ _ _ _ _ => (fv 1))) (f_lst (fa_cons (f_len T.n_len (fv 0)) fa_nil))))))
theorem ok_L_small (T : Txt P w K mg) : OkX P w K mg base 34 "_law_small" ["_law_row"] (spF K m_L_small) :=
  okF (k := 33) (N := ["_law_row", "_law_one", "_law_number_here", "_law_two", "_law_rest_here"]) T.f_L_small T.G_L_small sc_L_small (Runs.plain (n := 5) (np := 1)) (fun _ _ _ _ _ _ us hl => match us, hl with | [_], _ => rfl) fun cdv A outer s H E hr => by
    have nd : (["_law_row", "_law_one", "_law_number_here", "_law_two", "_law_rest_here"] : List Str).Nodup := sc_L_small.nd
    have tk := takes_of (X := cxOf (L2.CX P w) P w K mg base ["_law_row", "_law_one", "_law_number_here", "_law_two", "_law_rest_here"] "_law_small" (defScope s_L_small) (He.ga K "_law_small") cdv A outer s H E) (E := E) rfl rfl rfl rfl
    unfold b_L_small w_L_small_2 w_L_small_1
    exact (fss_cons (fs_set (i := 1) nd rfl (.inr rfl) (fcst pe_int fun _ _ => rfl))
    (fss_cons (fs_for (t := (.nm 2)) (passes_of rfl) rfl (fi_seq (fv 0)) (pg_name (i := 2) nd rfl (.inl rfl)) (fss_wipe [2, 3, 4] (fss_cons (fs_set (i := 3) nd rfl (.inl rfl) (f_abs T.n_abs (fv 2)))
    (fss_one (fs_while (k := 1000000) (passes_of rfl) (ft_cmp (op_neC hr.units) s_ne (fv 3) (fcst pe_int fun _ _ => rfl)) (fss_wipe [4] (fss_cons (fs_set (i := 4) nd rfl (.inl rfl) (f_op op_modNC s_modN (f_intc T.n_int (fv 1)) (fv 3)))
    (fss_cons (fs_set (i := 1) nd rfl (.inr rfl) (fv 3))
    (fss_one (fs_set (i := 3) nd rfl (.inl rfl) (fv 4)))))))))))
    (fss_cons (fs_if (ft_cmp op_ltC s_lt (fv 1) (fcst pe_int fun _ _ => rfl)) (fss_one (fs_ret (fv 0))) fss_nil)
    (fss_one (fs_ret (f_lc (own := [("_law_number_here", 2)]) (t := (.nm 2)) rfl nd (fi_seq (fv 0)) (blkOk_by (own := [("_law_number_here", 2)]) (N := ["_law_row", "_law_one", "_law_number_here", "_law_two", "_law_rest_here"]) (sc := defScope s_L_small) (by decide +kernel)) (fun _ _ _ _ _ => (pg_name (i := 2) nd rfl (.inl rfl))) (fun _ _ _ _ _ => fts_nil) (fun _ _ _ _ _ => (f_op (op_fdivN T.sk T.tree (stk_of sc_L_small) hr) s_fdivN (fv 2) (fv 1)))))))))
theorem ok_L_rest (T : Txt P w K mg) : OkX P w K mg base 2 "_law_rest" ["_law_basis", "_law_row"] (spF K m_L_rest) :=
  okF (k := 1) (N := ["_law_basis", "_law_row", "_law_base", "_law_at", "_law_one", "_law_two", "_law_k"]) T.f_L_rest T.G_L_rest sc_L_rest (Runs.plain (n := 7) (np := 2)) (fun _ _ _ _ _ _ us hl => match us, hl with | [_, _], _ => rfl) fun cdv A outer s H E hr => by
    have nd : (["_law_basis", "_law_row", "_law_base", "_law_at", "_law_one", "_law_two", "_law_k"] : List Str).Nodup := sc_L_rest.nd
    have tk := takes_of (X := cxOf (L2.CX P w) P w K mg base ["_law_basis", "_law_row", "_law_base", "_law_at", "_law_one", "_law_two", "_law_k"] "_law_rest" (defScope s_L_rest) (He.ga K "_law_rest") cdv A outer s H E) (E := E) rfl rfl rfl rfl
    unfold b_L_rest w_L_rest_2 e_L_rest_1
    exact (fss_cons (fs_for (t := (.nm 2)) (passes_of rfl) rfl (fi_seq (fv 0)) (pg_name (i := 2) nd rfl (.inr rfl)) (fss_wipe [2, 3, 4, 5] (fss_cons (fs_set (i := 3) nd rfl (.inl rfl) (f_call (ok_L_first T) hr tk (fa_cons (fv 2) fa_nil)))
    (fss_one (fs_if (ft_cmp (op_neC hr.units) s_ne (f_ix (fv 1) (fv 3)) (fcst pe_int fun _ _ => rfl)) (fss_cons (fs_set (i := 4) nd rfl (.inr rfl) (f_ix (fv 2) (fv 3)))
    (fss_cons (fs_set (i := 5) nd rfl (.inr rfl) (f_ix (fv 1) (fv 3)))
    (fss_one (fs_set (i := 1) nd rfl (.inr rfl) (f_lc (own := [("_law_k", 6)]) (t := (.nm 6)) rfl nd (fi_rng1 (by rfl) T.n_range (fcst pe_int fun _ _ => rfl)) (blkOk_by (own := [("_law_k", 6)]) (N := ["_law_basis", "_law_row", "_law_base", "_law_at", "_law_one", "_law_two", "_law_k"]) (sc := defScope s_L_rest) (by decide +kernel)) (fun _ _ _ _ _ => (pg_name (i := 6) nd rfl (.inl rfl))) (fun _ _ _ _ _ => fts_nil) (fun _ _ _ _ _ => (f_op op_subC s_sub (f_op op_mulC s_mul (fv 4) (f_ix (fv 1) (fv 6))) (f_op op_mulC s_mul (fv 5) (f_ix (fv 2) (fv 6)))))))))) fss_nil)))))
    (fss_one (fs_ret (fv 1))))
theorem ok_L_grown (T : Txt P w K mg) : OkX P w K mg base 35 "_law_grown" ["_law_basis", "_law_row"] (spF K m_L_grown) :=
  okF (k := 34) (N := ["_law_basis", "_law_row", "_law_rest_here"]) T.f_L_grown T.G_L_grown sc_L_grown (Runs.plain (n := 3) (np := 2)) (fun _ _ _ _ _ _ us hl => match us, hl with | [_, _], _ => rfl) fun cdv A outer s H E hr => by
    have nd : (["_law_basis", "_law_row", "_law_rest_here"] : List Str).Nodup := sc_L_grown.nd
    have tk := takes_of (X := cxOf (L2.CX P w) P w K mg base ["_law_basis", "_law_row", "_law_rest_here"] "_law_grown" (defScope s_L_grown) (He.ga K "_law_grown") cdv A outer s H E) (E := E) rfl rfl rfl rfl
    unfold b_L_grown
    exact (fss_cons (fs_set (i := 2) nd rfl (.inl rfl) (f_call (ok_L_small T) hr tk (fa_cons (f_call (ok_L_rest T) hr tk (fa_cons (fv 0) (fa_cons (fv 1) fa_nil))) fa_nil)))
    (fss_cons (fs_if (ft_cmp (op_eqC hr.units) s_eq (f_call (ok_L_first T) hr tk (fa_cons (fv 2) fa_nil)) (fcst pe_int fun _ _ => rfl)) (fss_one (fs_ret (fv 0))) fss_nil)
    (fss_one (fs_ret (f_op op_addC s_add (fv 0) (f_lst (fa_cons (fv 2) fa_nil)))))))
theorem ok_L_span (T : Txt P w K mg) : OkX P w K mg base 36 "_law_span" ["_law_rows_here"] (spF K m_L_span) :=
  okF (k := 35) (N := ["_law_rows_here", "_law_basis", "_law_row"]) T.f_L_span T.G_L_span sc_L_span (Runs.plain (n := 3) (np := 1)) (fun _ _ _ _ _ _ us hl => match us, hl with | [_], _ => rfl) fun cdv A outer s H E hr => by
    have nd : (["_law_rows_here", "_law_basis", "_law_row"] : List Str).Nodup := sc_L_span.nd
    have tk := takes_of (X := cxOf (L2.CX P w) P w K mg base ["_law_rows_here", "_law_basis", "_law_row"] "_law_span" (defScope s_L_span) (He.ga K "_law_span") cdv A outer s H E) (E := E) rfl rfl rfl rfl
    unfold b_L_span w_L_span_1
    exact (fss_cons (fs_set (i := 1) nd rfl (.inl rfl) (f_lst fa_nil))
    (fss_cons (fs_for (t := (.nm 2)) (passes_of rfl) rfl (fi_seq (fv 0)) (pg_name (i := 2) nd rfl (.inl rfl)) (fss_wipe [2] (fss_one (fs_set (i := 1) nd rfl (.inl rfl) (f_call (ok_L_grown T) hr tk (fa_cons (fv 1) (fa_cons (fv 2) fa_nil)))))))
    (fss_one (fs_ret (fv 1)))))
theorem ok_L_any_command (T : Txt P w K mg) : OkX P w K mg base 2 "_law_any_command" ["_law_pool_here"] (spF K m_L_any_command) :=
  okF (k := 1) (N := ["_law_pool_here", "_law_kind"]) T.f_L_any_command T.G_L_any_command sc_L_any_command (Runs.plain (n := 2) (np := 1)) (fun _ _ _ _ _ _ us hl => match us, hl with | [_], _ => rfl) fun cdv A outer s H E hr => by
    have nd : (["_law_pool_here", "_law_kind"] : List Str).Nodup := sc_L_any_command.nd
    have tk := takes_of (X := cxOf (L2.CX P w) P w K mg base ["_law_pool_here", "_law_kind"] "_law_any_command" (defScope s_L_any_command) (He.ga K "_law_any_command") cdv A outer s H E) (E := E) rfl rfl rfl rfl
    unfold b_L_any_command
    exact (fss_cons (fs_set (i := 1) nd rfl (.inl rfl) (f_call (ok_L_draw T) hr tk (fa_cons (fv 0) (fa_cons (fcst pe_int fun _ _ => rfl) fa_nil))))
    (fss_cons (fs_if (ft_cmp (op_eqC hr.units) s_eq (fv 1) (fcst pe_int fun _ _ => rfl)) (fss_one (fs_ret (f_tup (fa_cons (fcst pe_str fun _ _ => rfl) (fa_cons (f_op op_subC s_sub (f_call (ok_L_draw T) hr tk (fa_cons (fv 0) (fa_cons (fcst pe_int fun _ _ => rfl) fa_nil))) (fcst pe_int fun _ _ => rfl)) fa_nil))))) fss_nil)
    (fss_cons (fs_if (ft_cmp (op_eqC hr.units) s_eq (fv 1) (fcst pe_int fun _ _ => rfl)) (fss_one (fs_ret (f_tup (fa_cons (fcst pe_str fun _ _ => rfl) (fa_cons (f_op op_addC s_add (fcst pe_int fun _ _ => rfl) (f_call (ok_L_draw T) hr tk (fa_cons (fv 0) (fa_cons (fcst pe_int fun _ _ => rfl) fa_nil)))) fa_nil))))) fss_nil)
    (fss_cons (fs_if (ft_cmp (op_eqC hr.units) s_eq (fv 1) (fcst pe_int fun _ _ => rfl)) (fss_one (fs_ret (f_tup (fa_cons (fcst pe_str fun _ _ => rfl) (fa_cons (f_op op_subC s_sub (f_call (ok_L_draw T) hr tk (fa_cons (fv 0) (fa_cons (fcst pe_int fun _ _ => rfl) fa_nil))) (fcst pe_int fun _ _ => rfl)) fa_nil))))) fss_nil)
    (fss_cons (fs_if (ft_cmp op_ltC s_lt (fv 1) (fcst pe_int fun _ _ => rfl)) (fss_one (fs_ret (f_tup (fa_cons (f_ix (f_tup (fa_cons (fcst pe_str fun _ _ => rfl) (fa_cons (fcst pe_str fun _ _ => rfl) fa_nil))) (f_op op_subC s_sub (fv 1) (fcst pe_int fun _ _ => rfl))) (fa_cons (f_op op_subC s_sub (f_call (ok_L_draw T) hr tk (fa_cons (fv 0) (fa_cons (fcst pe_int fun _ _ => rfl) fa_nil))) (fcst pe_int fun _ _ => rfl)) (fa_cons (f_op op_subC s_sub (f_call (ok_L_draw T) hr tk (fa_cons (fv 0) (fa_cons (fcst pe_int fun _ _ => rfl) fa_nil))) (fcst pe_int fun _ _ => rfl)) fa_nil)))))) fss_nil)
    (fss_one (fs_ret (f_tup (fa_cons (f_ix (f_tup (fa_cons (fcst pe_str fun _ _ => rfl) (fa_cons (fcst pe_str fun _ _ => rfl) (fa_cons (fcst pe_str fun _ _ => rfl) (fa_cons (fcst pe_str fun _ _ => rfl) fa_nil))))) (f_op op_subC s_sub (fv 1) (fcst pe_int fun _ _ => rfl))) fa_nil)))))))))
theorem ok_L_any_matrix (T : Txt P w K mg) : OkX P w K mg base 3 "_law_any_matrix" ["_law_pool_here"] (spF K m_L_any_matrix) :=
  okF (k := 2) (N := ["_law_pool_here", "_law_wide", "_law_matrix", "_law_k", "_law_number_here"]) T.f_L_any_matrix T.G_L_any_matrix sc_L_any_matrix (Runs.cut (n := 5) (np := 1)) (fun _ _ _ _ _ _ us hl => match us, hl with | [_], _ => rfl) fun cdv A outer s H E hr => by
    have nd : (["_law_pool_here", "_law_wide", "_law_matrix", "_law_k", "_law_number_here"] : List Str).Nodup := sc_L_any_matrix.nd
    have tk := takes_of (X := cxOf (L2.CX P w) P w K mg base ["_law_pool_here", "_law_wide", "_law_matrix", "_law_k", "_law_number_here"] "_law_any_matrix" (defScope s_L_any_matrix) (He.ga K "_law_any_matrix") cdv A outer s H E) (E := E) rfl rfl rfl rfl
    unfold b_L_any_matrix w_L_any_matrix_1
    exact (fss_cons (fs_set (i := 1) nd rfl (.inl rfl) (f_call (ok_L_draw T) hr tk (fa_cons (fv 0) (fa_cons (fcst pe_int fun _ _ => rfl) fa_nil))))
    (fss_cons (fs_set (i := 2) nd rfl (.inl rfl) (f_lst fa_nil))
    (fss_cons (fs_for (t := (.nm 3)) (passes_of rfl) rfl (fi_rng1 (by rfl) T.n_range (fcst pe_int fun _ _ => rfl)) (pg_name (i := 3) nd rfl (.inl rfl)) (fss_wipe [3, 4] (fss_cons (fs_set (i := 4) nd rfl (.inl rfl) (fcst pe_int fun _ _ => rfl))
    (fss_cons (fs_if (ft_cmp (op_eqC hr.units) s_eq (f_call (ok_L_draw T) hr tk (fa_cons (fv 0) (fa_cons (fcst pe_int fun _ _ => rfl) fa_nil))) (fcst pe_int fun _ _ => rfl)) (fss_cons (fs_set (i := 4) nd rfl (.inl rfl) (f_op op_subC s_sub (f_call (ok_L_draw T) hr tk (fa_cons (fv 0) (fa_cons (fcst pe_int fun _ _ => rfl) fa_nil))) (fcst pe_int fun _ _ => rfl)))
    (fss_one (fs_if (ft_cmp (op_eqC hr.units) s_eq (fv 1) (fcst pe_int fun _ _ => rfl)) (fss_one (fs_set (i := 4) nd rfl (.inl rfl) (f_call (ok_L_number T) hr tk (fa_cons (fv 0) fa_nil)))) fss_nil))) fss_nil)
    (fss_one (fs_expr (f_app (fv 2) (fv 4))))))))
    (fss_one (fs_ret (f_frz (fv 2)))))))
theorem ok_L_mixed_rows (T : Txt P w K mg) : OkX P w K mg base 2 "_law_mixed_rows" ["_law_pool_here", "_law_rows_here"] (spF K m_L_mixed_rows) :=
  okF (k := 1) (N := ["_law_pool_here", "_law_rows_here", "_law_mixed", "_law_row", "_law_factor", "_law_k"]) T.f_L_mixed_rows T.G_L_mixed_rows sc_L_mixed_rows (Runs.plain (n := 6) (np := 2)) (fun _ _ _ _ _ _ us hl => match us, hl with | [_, _], _ => rfl) fun cdv A outer s H E hr => by
    have nd : (["_law_pool_here", "_law_rows_here", "_law_mixed", "_law_row", "_law_factor", "_law_k"] : List Str).Nodup := sc_L_mixed_rows.nd
    have tk := takes_of (X := cxOf (L2.CX P w) P w K mg base ["_law_pool_here", "_law_rows_here", "_law_mixed", "_law_row", "_law_factor", "_law_k"] "_law_mixed_rows" (defScope s_L_mixed_rows) (He.ga K "_law_mixed_rows") cdv A outer s H E) (E := E) rfl rfl rfl rfl
    unfold b_L_mixed_rows w_L_mixed_rows_2 e_L_mixed_rows_1
    exact (fss_cons (fs_set (i := 2) nd rfl (.inr rfl) (f_lc (own := [("_law_k", 5)]) (t := (.nm 5)) rfl nd (fi_rng1 (by rfl) T.n_range (fcst pe_int fun _ _ => rfl)) (blkOk_by (own := [("_law_k", 5)]) (N := ["_law_pool_here", "_law_rows_here", "_law_mixed", "_law_row", "_law_factor", "_law_k"]) (sc := defScope s_L_mixed_rows) (by decide +kernel)) (fun _ _ _ _ _ => (pg_name (i := 5) nd rfl (.inl rfl))) (fun _ _ _ _ _ => fts_nil) (fun _ _ _ _ _ => (fcst pe_int fun _ _ => rfl))))
    (fss_cons (fs_for (t := (.nm 3)) (passes_of rfl) rfl (fi_seq (fv 1)) (pg_name (i := 3) nd rfl (.inr rfl)) (fss_wipe [3, 4] (fss_cons (fs_set (i := 4) nd rfl (.inr rfl) (f_op op_subC s_sub (f_call (ok_L_draw T) hr tk (fa_cons (fv 0) (fa_cons (fcst pe_int fun _ _ => rfl) fa_nil))) (fcst pe_int fun _ _ => rfl)))
    (fss_one (fs_set (i := 2) nd rfl (.inr rfl) (f_lc (own := [("_law_k", 5)]) (t := (.nm 5)) rfl nd (fi_rng1 (by rfl) T.n_range (fcst pe_int fun _ _ => rfl)) (blkOk_by (own := [("_law_k", 5)]) (N := ["_law_pool_here", "_law_rows_here", "_law_mixed", "_law_row", "_law_factor", "_law_k"]) (sc := defScope s_L_mixed_rows) (by decide +kernel)) (fun _ _ _ _ _ => (pg_name (i := 5) nd rfl (.inl rfl))) (fun _ _ _ _ _ => fts_nil) (fun _ _ _ _ _ => (f_op op_addC s_add (f_ix (fv 2) (fv 5)) (f_op op_mulC s_mul (fv 4) (f_ix (fv 3) (fv 5)))))))))))
    (fss_one (fs_ret (fv 2)))))
theorem ok_L_thin_matrix (T : Txt P w K mg) : OkX P w K mg base 2 "_law_thin_matrix" ["_law_pool_here"] (spF K m_L_thin_matrix) :=
  okF (k := 1) (N := ["_law_pool_here", "_law_matrix", "_law_step", "_law_at", "_law_k"]) T.f_L_thin_matrix T.G_L_thin_matrix sc_L_thin_matrix (Runs.cut (n := 5) (np := 1)) (fun _ _ _ _ _ _ us hl => match us, hl with | [_], _ => rfl) fun cdv A outer s H E hr => by
    have nd : (["_law_pool_here", "_law_matrix", "_law_step", "_law_at", "_law_k"] : List Str).Nodup := sc_L_thin_matrix.nd
    have tk := takes_of (X := cxOf (L2.CX P w) P w K mg base ["_law_pool_here", "_law_matrix", "_law_step", "_law_at", "_law_k"] "_law_thin_matrix" (defScope s_L_thin_matrix) (He.ga K "_law_thin_matrix") cdv A outer s H E) (E := E) rfl rfl rfl rfl
    unfold b_L_thin_matrix w_L_thin_matrix_1
    exact (fss_cons (fs_setLc (i := 1) (own := [("_law_k", 4)]) (t := (.nm 4)) rfl nd rfl rfl (sw_true rfl rfl rfl (by decide +kernel)) (fi_rng1 (by rfl) T.n_range (fcst pe_int fun _ _ => rfl)) (blkOk_by (own := [("_law_k", 4)]) (N := ["_law_pool_here", "_law_matrix", "_law_step", "_law_at", "_law_k"]) (sc := defScope s_L_thin_matrix) (by decide +kernel)) (fun _ _ _ _ _ => (pg_name (i := 4) nd rfl (.inl rfl))) (fun _ _ _ _ _ => fts_nil) (fun _ _ _ _ _ => (fcst pe_int fun _ _ => rfl)))
    (fss_cons (fs_for (t := (.nm 2)) (passes_of rfl) rfl (fi_rng1 (by rfl) T.n_range (f_op op_addC s_add (fcst pe_int fun _ _ => rfl) (f_call (ok_L_draw T) hr tk (fa_cons (fv 0) (fa_cons (fcst pe_int fun _ _ => rfl) fa_nil))))) (pg_name (i := 2) nd rfl (.inl rfl)) (fss_wipe [2, 3] (fss_cons (fs_set (i := 3) nd rfl (.inl rfl) (f_call (ok_L_draw T) hr tk (fa_cons (fv 0) (fa_cons (fcst pe_int fun _ _ => rfl) fa_nil))))
    (fss_one (fs_setI (f_op op_subC s_sub (f_op op_addC s_add (f_ix (fv 1) (fv 3)) (f_call (ok_L_draw T) hr tk (fa_cons (fv 0) (fa_cons (fcst pe_int fun _ _ => rfl) fa_nil)))) (fcst pe_int fun _ _ => rfl)) (fv 1) (fv 3))))))
    (fss_one (fs_ret (f_frz (fv 1))))))
theorem ok_L_rows (T : Txt P w K mg) : OkX P w K mg base 4 "_law_rows" ["_law_pool_here", "_law_most"] (spF K m_L_rows) :=
  okF (k := 3) (N := ["_law_pool_here", "_law_most", "_law_rows_here", "_law_step", "_law_kind", "_law_k"]) T.f_L_rows T.G_L_rows sc_L_rows (Runs.cut (n := 6) (np := 2)) (fun _ _ _ _ _ _ us hl => match us, hl with | [_, _], _ => rfl) fun cdv A outer s H E hr => by
    have nd : (["_law_pool_here", "_law_most", "_law_rows_here", "_law_step", "_law_kind", "_law_k"] : List Str).Nodup := sc_L_rows.nd
    have tk := takes_of (X := cxOf (L2.CX P w) P w K mg base ["_law_pool_here", "_law_most", "_law_rows_here", "_law_step", "_law_kind", "_law_k"] "_law_rows" (defScope s_L_rows) (He.ga K "_law_rows") cdv A outer s H E) (E := E) rfl rfl rfl rfl
    unfold b_L_rows w_L_rows_1
    exact (fss_cons (fs_set (i := 2) nd rfl (.inl rfl) (f_lst fa_nil))
    (fss_cons (fs_for (t := (.nm 3)) (passes_of rfl) rfl (fi_rng1 (by rfl) T.n_range (f_call (ok_L_draw T) hr tk (fa_cons (fv 0) (fa_cons (f_op op_addC s_add (fv 1) (fcst pe_int fun _ _ => rfl)) fa_nil)))) (pg_name (i := 3) nd rfl (.inl rfl)) (fss_wipe [3, 4] (fss_cons (fs_set (i := 4) nd rfl (.inl rfl) (f_call (ok_L_draw T) hr tk (fa_cons (fv 0) (fa_cons (fcst pe_int fun _ _ => rfl) fa_nil))))
    (fss_one (fs_if (ft_cmp (op_eqC hr.units) s_eq (fv 4) (fcst pe_int fun _ _ => rfl)) (fss_one (fs_expr (f_app (fv 2) (f_call (ok_L_any_matrix T) hr tk (fa_cons (fv 0) fa_nil))))) (fss_one (fs_if (ft_cmp (op_eqC hr.units) s_eq (fv 4) (fcst pe_int fun _ _ => rfl)) (fss_one (fs_expr (f_app (fv 2) (f_callB (jj := 1) (ok_L_mixed_rows T) hr tk (fa_cons (fv 0) (fa_cons (fv 2) fa_nil)))))) (fss_one (fs_if (ft_cmp op_ltC s_lt (fv 4) (fcst pe_int fun _ _ => rfl)) (fss_one (fs_expr (f_app (fv 2) (f_call (ok_L_thin_matrix T) hr tk (fa_cons (fv 0) fa_nil))))) (fss_one (fs_expr (f_app (fv 2) (f_call (ok_L_probe T) hr tk (fa_cons (f_lc (own := [("_law_k", 5)]) (t := (.nm 5)) rfl nd (fi_rng1 (by rfl) T.n_range (f_call (ok_L_draw T) hr tk (fa_cons (fv 0) (fa_cons (fcst pe_int fun _ _ => rfl) fa_nil)))) (blkOk_by (own := [("_law_k", 5)]) (N := ["_law_pool_here", "_law_most", "_law_rows_here", "_law_step", "_law_kind", "_law_k"]) (sc := defScope s_L_rows) (by decide +kernel)) (fun _ _ _ _ _ => (pg_name (i := 5) nd rfl (.inl rfl))) (fun _ _ _ _ _ => fts_nil) (fun _ _ _ _ _ => (f_call (ok_L_any_command T) hr takes0 (fa_cons (fv 0) fa_nil)))) fa_nil))))))))))))))
    (fss_one (fs_ret (f_frz (fv 2))))))
theorem ok_L_row_copies (T : Txt P w K mg) : OkX P w K mg base 1 "_law_row_copies" ["_law_rows_here"] (spF K m_L_row_copies) :=
  okF (k := 0) (N := ["_law_rows_here", "_law_row"]) T.f_L_row_copies T.G_L_row_copies sc_L_row_copies (Runs.plain (n := 2) (np := 1)) (fun _ _ _ _ _ _ us hl => match us, hl with | [_], _ => rfl) fun cdv A outer s H E hr => by
    have nd : (["_law_rows_here", "_law_row"] : List Str).Nodup := sc_L_row_copies.nd
    have tk := takes_of (X := cxOf (L2.CX P w) P w K mg base ["_law_rows_here", "_law_row"] "_law_row_copies" (defScope s_L_row_copies) (He.ga K "_law_row_copies") cdv A outer s H E) (E := E) rfl rfl rfl rfl
    unfold b_L_row_copies
    exact (fss_one (fs_ret (f_lc (own := [("_law_row", 1)]) (t := (.nm 1)) rfl nd (fi_seq (fv 0)) (blkOk_by (own := [("_law_row", 1)]) (N := ["_law_rows_here", "_law_row"]) (sc := defScope s_L_row_copies) (by decide +kernel)) (fun _ _ _ _ _ => (pg_name (i := 1) nd rfl (.inl rfl))) (fun _ _ _ _ _ => fts_nil) (fun _ _ _ _ _ => (f_list T.n_list (fv 1))))))
theorem ok_L_other_rows (T : Txt P w K mg) : OkX P w K mg base 3 "_law_other_rows" ["_law_pool_here", "_law_rows_here"] (spF K m_L_other_rows) :=
  okF (k := 2) (N := ["_law_pool_here", "_law_rows_here", "_law_other", "_law_at", "_law_factor", "_law_row", "_law_more", "_law_step", "_law_number_here", "_law_k"]) T.f_L_other_rows T.G_L_other_rows sc_L_other_rows (Runs.cut (n := 10) (np := 2)) (fun _ _ _ _ _ _ us hl => match us, hl with | [_, _], _ => rfl) fun cdv A outer s H E hr => by
    have nd : (["_law_pool_here", "_law_rows_here", "_law_other", "_law_at", "_law_factor", "_law_row", "_law_more", "_law_step", "_law_number_here", "_law_k"] : List Str).Nodup := sc_L_other_rows.nd
    have tk := takes_of (X := cxOf (L2.CX P w) P w K mg base ["_law_pool_here", "_law_rows_here", "_law_other", "_law_at", "_law_factor", "_law_row", "_law_more", "_law_step", "_law_number_here", "_law_k"] "_law_other_rows" (defScope s_L_other_rows) (He.ga K "_law_other_rows") cdv A outer s H E) (E := E) rfl rfl rfl rfl
    unfold b_L_other_rows w_L_other_rows_3 w_L_other_rows_2 e_L_other_rows_1
    exact (fss_cons (fs_set (i := 2) nd rfl (.inl rfl) (f_lst fa_nil))
    (fss_cons (fs_for (t := (.nm 3)) (passes_of rfl) rfl (fi_rng1 (by rfl) T.n_range (f_len T.n_len (fv 1))) (pg_name (i := 3) nd rfl (.inl rfl)) (fss_wipe [3, 4, 5, 6] (fss_cons (fs_set (i := 4) nd rfl (.inr rfl) (f_ix (f_tup (fa_cons (fcst pe_int fun _ _ => rfl) (fa_cons (f_neg (fcst pe_int fun _ _ => rfl)) (fa_cons (fcst pe_int fun _ _ => rfl) (fa_cons (f_neg (fcst pe_int fun _ _ => rfl)) (fa_cons (fcst pe_int fun _ _ => rfl) (fa_cons (f_neg (f_op op_powC s_pow (fcst pe_int fun _ _ => rfl) (fcst pe_int fun _ _ => rfl))) fa_nil))))))) (f_call (ok_L_draw T) hr tk (fa_cons (fv 0) (fa_cons (fcst pe_int fun _ _ => rfl) fa_nil)))))
    (fss_cons (fs_set (i := 5) nd rfl (.inr rfl) (f_lc (own := [("_law_number_here", 8)]) (t := (.nm 8)) rfl nd (fi_seq (f_ix (fv 1) (fv 3))) (blkOk_by (own := [("_law_number_here", 8)]) (N := ["_law_pool_here", "_law_rows_here", "_law_other", "_law_at", "_law_factor", "_law_row", "_law_more", "_law_step", "_law_number_here", "_law_k"]) (sc := defScope s_L_other_rows) (by decide +kernel)) (fun _ _ _ _ _ => (pg_name (i := 8) nd rfl (.inl rfl))) (fun _ _ _ _ _ => fts_nil) (fun _ _ _ _ _ => (f_op op_mulC s_mul (fv 4) (fv 8)))))
    (fss_cons (fs_set (i := 6) nd rfl (.inr rfl) (f_call (ok_L_mixed_rows T) hr tk (fa_cons (fv 0) (fa_cons (f_sl (fv 1) fo_none (fo_some (fv 3))) fa_nil))))
    (fss_cons (fs_set (i := 5) nd rfl (.inr rfl) (f_lc (own := [("_law_k", 9)]) (t := (.nm 9)) rfl nd (fi_rng1 (by rfl) T.n_range (fcst pe_int fun _ _ => rfl)) (blkOk_by (own := [("_law_k", 9)]) (N := ["_law_pool_here", "_law_rows_here", "_law_other", "_law_at", "_law_factor", "_law_row", "_law_more", "_law_step", "_law_number_here", "_law_k"]) (sc := defScope s_L_other_rows) (by decide +kernel)) (fun _ _ _ _ _ => (pg_name (i := 9) nd rfl (.inl rfl))) (fun _ _ _ _ _ => fts_nil) (fun _ _ _ _ _ => (f_op op_addC s_add (f_ix (fv 5) (fv 9)) (f_ix (fv 6) (fv 9))))))
    (fss_one (fs_expr (f_ins (fv 2) (f_call (ok_L_draw T) hr tk (fa_cons (fv 0) (fa_cons (f_op op_addC s_add (f_len T.n_len (fv 2)) (fcst pe_int fun _ _ => rfl)) fa_nil))) (fv 5))))))))))
    (fss_cons (fs_for (t := (.nm 7)) (passes_of rfl) rfl (fi_rng1 (by rfl) T.n_range (f_call (ok_L_draw T) hr tk (fa_cons (fv 0) (fa_cons (fcst pe_int fun _ _ => rfl) fa_nil)))) (pg_name (i := 7) nd rfl (.inl rfl)) (fss_wipe [7] (fss_one (fs_expr (f_app (fv 2) (f_call (ok_L_mixed_rows T) hr tk (fa_cons (fv 0) (fa_cons (fv 1) fa_nil))))))))
    (fss_one (fs_ret (f_frz (fv 2)))))))
theorem ok_L_row_copies_w (T : Txt P w K mg) : OkX P w K mg base 1 "_law_row_copies" ["_law_rows_here"] (spF K m_L_row_copies_w) :=
  okF (k := 0) (N := ["_law_rows_here", "_law_row"]) T.f_L_row_copies_w T.G_L_row_copies_w sc_L_row_copies_w (Runs.plain (n := 2) (np := 1)) (fun _ _ _ _ _ _ us hl => match us, hl with | [_], _ => rfl) fun cdv A outer s H E hr => by
    have nd : (["_law_rows_here", "_law_row"] : List Str).Nodup := sc_L_row_copies_w.nd
    have tk := takes_of (X := cxOf (L2.CX P w) P w K mg base ["_law_rows_here", "_law_row"] "_law_row_copies" (defScope s_L_row_copies_w) (He.ga K "_law_row_copies") cdv A outer s H E) (E := E) rfl rfl rfl rfl
    unfold b_L_row_copies_w
    exact (fss_one (fs_ret (f_lcW (own := [("_law_row", 1)]) (t := (.nm 1)) rfl nd (fi_seq (fv 0)) (blkOk_by (own := [("_law_row", 1)]) (N := ["_law_rows_here", "_law_row"]) (sc := defScope s_L_row_copies_w) (by decide +kernel)) (fun _ _ _ _ _ => (pg_name (i := 1) nd rfl (.inl rfl))) (fun _ _ _ _ _ => fts_nil) (fun _ _ _ _ _ => (f_list T.n_list (fv 1))))))
theorem ok_L_thin_matrix_c (T : Txt P w K mg) : OkX P w K mg base 2 "_law_thin_matrix" ["_law_pool_here"] (spF K m_L_thin_matrix_c) :=
  okF (k := 1) (N := ["_law_pool_here", "_law_matrix", "_law_step", "_law_at", "_law_k"]) T.f_L_thin_matrix_c T.G_L_thin_matrix_c sc_L_thin_matrix_c (Runs.plain (n := 5) (np := 1)) (fun _ _ _ _ _ _ us hl => match us, hl with | [_], _ => rfl) fun cdv A outer s H E hr => by
    have nd : (["_law_pool_here", "_law_matrix", "_law_step", "_law_at", "_law_k"] : List Str).Nodup := sc_L_thin_matrix_c.nd
    have tk := takes_of (X := cxOf (L2.CX P w) P w K mg base ["_law_pool_here", "_law_matrix", "_law_step", "_law_at", "_law_k"] "_law_thin_matrix" (defScope s_L_thin_matrix_c) (He.ga K "_law_thin_matrix") cdv A outer s H E) (E := E) rfl rfl rfl rfl
    unfold b_L_thin_matrix_c w_L_thin_matrix_c_1
    exact (fss_cons (fs_setLc (i := 1) (own := [("_law_k", 4)]) (t := (.nm 4)) rfl nd rfl rfl (sw_true rfl rfl rfl (by decide +kernel)) (fi_rng1 (by rfl) T.n_range (fcst pe_int fun _ _ => rfl)) (blkOk_by (own := [("_law_k", 4)]) (N := ["_law_pool_here", "_law_matrix", "_law_step", "_law_at", "_law_k"]) (sc := defScope s_L_thin_matrix_c) (by decide +kernel)) (fun _ _ _ _ _ => (pg_name (i := 4) nd rfl (.inl rfl))) (fun _ _ _ _ _ => fts_nil) (fun _ _ _ _ _ => (fcst pe_int fun _ _ => rfl)))
    (fss_cons (fs_for (t := (.nm 2)) (passes_of rfl) rfl (fi_rng1 (by rfl) T.n_range (f_op op_addC s_add (fcst pe_int fun _ _ => rfl) (f_call (ok_L_draw T) hr tk (fa_cons (fv 0) (fa_cons (fcst pe_int fun _ _ => rfl) fa_nil))))) (pg_name (i := 2) nd rfl (.inl rfl)) (fss_wipe [2, 3] (fss_cons (fs_set (i := 3) nd rfl (.inl rfl) (f_call (ok_L_draw T) hr tk (fa_cons (fv 0) (fa_cons (fcst pe_int fun _ _ => rfl) fa_nil))))
    (fss_one (fs_setI (f_op op_subC s_sub (f_op op_addC s_add (f_ix (fv 1) (fv 3)) (f_call (ok_L_draw T) hr tk (fa_cons (fv 0) (fa_cons (fcst pe_int fun _ _ => rfl) fa_nil)))) (fcst pe_int fun _ _ => rfl)) (fv 1) (fv 3))))))
    (fss_one (fs_ret (fv 1)))))
theorem law_fn (T : Txt P w K mg) : ∃ fd, (∀ (s : Shared) (us : List Value), us.length = (["_law_script"] : List Str).length → BindsTo s fd ⟨us, []⟩ ((["_law_script"] : List Str).zip us)) ∧ ∀ base, FnOk P w K mg base (L2.CX P w) 40 (He.ga K "law") fd ["_law_script"] (spF K m_law_k27) :=
  law_endF (N := ["_law_script", "_law_pool_here", "_law_rows_here", "_law_other", "_law_one", "_law_two", "_law_third", "_law_row", "_law_at", "_law_three", "_law_basis", "_law_alike"]) T.f_law_k27 sc_law_k27 (Runs.cut (n := 12) (np := 1) (mb := b_law_k27)) (fun _ _ _ _ _ _ us hl => match us, hl with | [_], _ => rfl) fun base cdv A outer s H E hr => by
    have nd : (["_law_script", "_law_pool_here", "_law_rows_here", "_law_other", "_law_one", "_law_two", "_law_third", "_law_row", "_law_at", "_law_three", "_law_basis", "_law_alike"] : List Str).Nodup := sc_law_k27.nd
    have tk := takes_of (X := cxOf (L2.CX P w) P w K mg base ["_law_script", "_law_pool_here", "_law_rows_here", "_law_other", "_law_one", "_law_two", "_law_third", "_law_row", "_law_at", "_law_three", "_law_basis", "_law_alike"] "law" (defScope s_law_k27) (He.ga K "law") cdv A outer s H E) (E := E) rfl rfl rfl rfl
    unfold b_law_k27 r_law_k27_2 r_law_k27_1
    exact (fss_cons (fs_set (i := 1) nd rfl (.inl rfl) (f_call (ok_L_pool T) hr tk (fa_cons (fv 0) fa_nil)))
    (fss_cons (fs_set (i := 2) nd rfl (.inl rfl) (f_call (ok_L_rows T) hr tk (fa_cons (fv 1) (fa_cons (fcst pe_int fun _ _ => rfl) fa_nil))))
    (fss_cons (fs_set (i := 3) nd rfl (.inl rfl) (f_call (ok_L_other_rows T) hr tk (fa_cons (fv 1) (fa_cons (fv 2) fa_nil))))
    (fss_cons (fs_set (i := 4) nd rfl (.inl rfl) (f_make T.T_Space (ok_Space_init T) hr tk (fa_cons (f_call (ok_L_row_copies T) hr tk (fa_cons (fv 2) fa_nil)) fa_nil)))
    (fss_cons (fs_set (i := 5) nd rfl (.inl rfl) (f_make T.T_Space (ok_Space_init T) hr tk (fa_cons (f_call (ok_L_row_copies T) hr tk (fa_cons (fv 3) fa_nil)) fa_nil)))
    (fss_cons (fs_if (PW.pt (fw_or (ft_cmp (op_neX T.ne_Space (ok_Space_eq T) hr) s_neO (fv 4) (fv 5)) (fw_or (ft_not (ft_cmp (op_eqX (ok_Space_eq T) hr) s_eqO (fv 4) (fv 5))) (fw_or (ft_cmp (op_neC hr.units) s_ne (f_meth0 (ok_Space_rows T) hr tk T.c_Space (fv 4)) (f_meth0 (ok_Space_rows T) hr tk T.c_Space (fv 5))) (pw_or1 (ft_cmp (op_neC hr.units) s_ne (f_lenO T.n_len (ok_Space_len T) hr (fv 4)) (f_lenO T.n_len (ok_Space_len T) hr (fv 5)))))))) (fss_one (fs_ret (fcst pe_bl fun _ _ => rfl))) fss_nil)
    (fss_cons (fs_set (i := 6) nd rfl (.inl rfl) (f_call (ok_L_row_copies_w T) hr tk (fa_cons (fv 2) fa_nil)))
    (fss_cons (fs_if (ft_cmp op_gtC s_gt (f_lenV T.n_len (fv 6)) (fcst pe_int fun _ _ => rfl)) (fss_cons (fs_set (i := 7) nd rfl (.inl rfl) (f_ixV (fv 6) (f_call (ok_L_draw T) hr tk (fa_cons (fv 1) (fa_cons (f_lenV T.n_len (fv 6)) fa_nil)))))
    (fss_cons (fs_set (i := 8) nd rfl (.inl rfl) (f_call (ok_L_draw T) hr tk (fa_cons (fv 1) (fa_cons (fcst pe_int fun _ _ => rfl) fa_nil))))
    (fss_one (fs_setI (f_op op_subC s_sub (f_op op_addC s_add (f_ix (fv 7) (fv 8)) (f_call (ok_L_draw T) hr tk (fa_cons (fv 1) (fa_cons (fcst pe_int fun _ _ => rfl) fa_nil)))) (fcst pe_int fun _ _ => rfl)) (fv 7) (fv 8))))) (fss_one (fs_set (i := 6) nd rfl (.inl rfl) (f_lstV (fa_cons (f_call (ok_L_thin_matrix_c T) hr tk (fa_cons (fv 1) fa_nil)) fa_nil)))))
    (fss_frzW 6 (fss_cons (fs_set (i := 9) nd rfl (.inl rfl) (f_make T.T_Space (ok_Space_init T) hr tk (fa_cons (f_call (ok_L_row_copies T) hr tk (fa_cons (fv 6) fa_nil)) fa_nil)))
    (fss_cons (fs_set (i := 10) nd rfl (.inl rfl) (f_call (ok_L_span T) hr tk (fa_cons (fv 2) fa_nil)))
    (fss_cons (fs_set (i := 11) nd rfl (.inl rfl) (fe_and (f_cmp (op_eqC hr.units) s_eq (f_len T.n_len (f_call (ok_L_span T) hr tk (fa_cons (fv 6) fa_nil))) (f_len T.n_len (fv 10))) (pe_one (f_cmp (op_eqC hr.units) s_eq (f_len T.n_len (f_call (ok_L_span T) hr tk (fa_cons (f_op op_addC s_add (fv 2) (fv 6)) fa_nil))) (f_len T.n_len (fv 10))))))
    (fss_one (fs_ret (fe_and (f_cmp (op_eqC hr.units) s_eq (f_cmp (op_eqX (ok_Space_eq T) hr) s_eqO (fv 4) (fv 9)) (fv 11)) (fe_and (f_cmp (op_eqC hr.units) s_eq (f_cmp (op_eqX (ok_Space_eq T) hr) s_eqO (fv 9) (fv 4)) (fv 11)) (pe_one (f_cmp (op_eqC hr.units) s_eq (f_cmp (op_neX T.ne_Space (ok_Space_eq T) hr) s_neO (fv 4) (fv 9)) (fe_not (fv 11))))))))))))))))))))
end
def dd_is_integer : He.DefD := ⟨("is_integer", none), "is_integer", "is_integer", defArgs s_is_integer, defBody s_is_integer, defScope s_is_integer, [], []⟩
def dd_is_matrix : He.DefD := ⟨("is_matrix", none), "is_matrix", "is_matrix", defArgs s_is_matrix, defBody s_is_matrix, defScope s_is_matrix, [], []⟩
def dd_pivot : He.DefD := ⟨("pivot", none), "pivot", "pivot", defArgs s_pivot, defBody s_pivot, defScope s_pivot, [], []⟩
def dd_common_divisor : He.DefD := ⟨("common_divisor", none), "common_divisor", "common_divisor", defArgs s_common_divisor, defBody s_common_divisor, defScope s_common_divisor, [], []⟩
def dd_primitive : He.DefD := ⟨("primitive", none), "primitive", "primitive", defArgs s_primitive, defBody s_primitive, defScope s_primitive, [], []⟩
def dd_cleared : He.DefD := ⟨("cleared", none), "cleared", "cleared", defArgs s_cleared, defBody s_cleared, defScope s_cleared, [], []⟩
def dd_reduced : He.DefD := ⟨("reduced", none), "reduced", "reduced", defArgs s_reduced, defBody s_reduced, defScope s_reduced, [], []⟩
def dd_with_row : He.DefD := ⟨("with_row", none), "with_row", "with_row", defArgs s_with_row, defBody s_with_row, defScope s_with_row, [], []⟩
def dd_Space_init : He.DefD := ⟨("Space", some "__init__"), "__init__", "Space.__init__", defArgs s_Space_init, defBody s_Space_init, defScope s_Space_init, [], []⟩
def dd_Space_len : He.DefD := ⟨("Space", some "__len__"), "__len__", "Space.__len__", defArgs s_Space_len, defBody s_Space_len, defScope s_Space_len, [], []⟩
def dd_Space_eq : He.DefD := ⟨("Space", some "__eq__"), "__eq__", "Space.__eq__", defArgs s_Space_eq, defBody s_Space_eq, defScope s_Space_eq, [], []⟩
def dd_Space_rows : He.DefD := ⟨("Space", some "rows"), "rows", "Space.rows", defArgs s_Space_rows, defBody s_Space_rows, defScope s_Space_rows, [], []⟩
def dd_L_pool : He.DefD := ⟨("_law_pool", none), "_law_pool", "_law_pool", defArgs s_L_pool, defBody s_L_pool, defScope s_L_pool, [], []⟩
def dd_L_draw : He.DefD := ⟨("_law_draw", none), "_law_draw", "_law_draw", defArgs s_L_draw, defBody s_L_draw, defScope s_L_draw, [], []⟩
def dd_L_number : He.DefD := ⟨("_law_number", none), "_law_number", "_law_number", defArgs s_L_number, defBody s_L_number, defScope s_L_number, [], []⟩
def dd_L_move : He.DefD := ⟨("_law_move", none), "_law_move", "_law_move", defArgs s_L_move, defBody s_L_move, defScope s_L_move, [], []⟩
def dd_L_pens : He.DefD := ⟨("_law_pens", none), "_law_pens", "_law_pens", defArgs s_L_pens, defBody s_L_pens, defScope s_L_pens, [], []⟩
def dd_L_probe : He.DefD := ⟨("_law_probe", none), "_law_probe", "_law_probe", defArgs s_L_probe, defBody s_L_probe, defScope s_L_probe, [], []⟩
def dd_L_first : He.DefD := ⟨("_law_first", none), "_law_first", "_law_first", defArgs s_L_first, defBody s_L_first, defScope s_L_first, [], []⟩
def dd_L_small : He.DefD := ⟨("_law_small", none), "_law_small", "_law_small", defArgs s_L_small, defBody s_L_small, defScope s_L_small, [], []⟩
def dd_L_rest : He.DefD := ⟨("_law_rest", none), "_law_rest", "_law_rest", defArgs s_L_rest, defBody s_L_rest, defScope s_L_rest, [], []⟩
def dd_L_grown : He.DefD := ⟨("_law_grown", none), "_law_grown", "_law_grown", defArgs s_L_grown, defBody s_L_grown, defScope s_L_grown, [], []⟩
def dd_L_span : He.DefD := ⟨("_law_span", none), "_law_span", "_law_span", defArgs s_L_span, defBody s_L_span, defScope s_L_span, [], []⟩
def dd_L_any_command : He.DefD := ⟨("_law_any_command", none), "_law_any_command", "_law_any_command", defArgs s_L_any_command, defBody s_L_any_command, defScope s_L_any_command, [], []⟩
def dd_L_any_matrix : He.DefD := ⟨("_law_any_matrix", none), "_law_any_matrix", "_law_any_matrix", defArgs s_L_any_matrix, defBody s_L_any_matrix, defScope s_L_any_matrix, [], []⟩
def dd_L_mixed_rows : He.DefD := ⟨("_law_mixed_rows", none), "_law_mixed_rows", "_law_mixed_rows", defArgs s_L_mixed_rows, defBody s_L_mixed_rows, defScope s_L_mixed_rows, [], []⟩
def dd_L_thin_matrix : He.DefD := ⟨("_law_thin_matrix", none), "_law_thin_matrix", "_law_thin_matrix", defArgs s_L_thin_matrix, defBody s_L_thin_matrix, defScope s_L_thin_matrix, [], []⟩
def dd_L_rows : He.DefD := ⟨("_law_rows", none), "_law_rows", "_law_rows", defArgs s_L_rows, defBody s_L_rows, defScope s_L_rows, [], []⟩
def dd_L_row_copies : He.DefD := ⟨("_law_row_copies", none), "_law_row_copies", "_law_row_copies", defArgs s_L_row_copies, defBody s_L_row_copies, defScope s_L_row_copies, [], []⟩
def dd_L_other_rows : He.DefD := ⟨("_law_other_rows", none), "_law_other_rows", "_law_other_rows", defArgs s_L_other_rows, defBody s_L_other_rows, defScope s_L_other_rows, [], []⟩
def dd_L_row_copies_w : He.DefD := ⟨("_law_row_copies", none), "_law_row_copies", "_law_row_copies", defArgs s_L_row_copies_w, defBody s_L_row_copies_w, defScope s_L_row_copies_w, [], []⟩
def dd_L_thin_matrix_c : He.DefD := ⟨("_law_thin_matrix", none), "_law_thin_matrix", "_law_thin_matrix", defArgs s_L_thin_matrix_c, defBody s_L_thin_matrix_c, defScope s_L_thin_matrix_c, [], []⟩
def dd_law_k27 : He.DefD := ⟨("law", none), "law", "law", defArgs s_law_k27, defBody s_law_k27, defScope s_law_k27, [], []⟩
def ddx_NoRows : He.DefD := ⟨("NoRows", some "__init__"), "__init__", "NoRows.__init__", defArgs si_NoRows, defBody si_NoRows, defScope si_NoRows, [], []⟩
def fa : List He.Fa := ([.free "isinstance", .free "int", .free "bool", .free "list", .free "len", .free "all", .free "enumerate", .free "abs", .free "zip", .free "sorted", .glo "NoRows", .cls "Space", .noat "Space" "basis", .cls "Space", .glo "Space", .free "range", .free "tuple", .free "min", .cls "Space", .mkr "Space"] : List He.Fa) ++ ([.glo "Space", .cls "Space", .glo "is_integer", .glo "is_matrix", .glo "pivot", .glo "common_divisor", .glo "primitive", .glo "cleared", .glo "reduced", .glo "with_row", .meth "Space" "__init__", .meth "Space" "__len__", .meth "Space" "__eq__", .meth "Space" "rows", .glo "_law_pool", .glo "_law_draw", .glo "_law_number", .glo "_law_move", .glo "_law_pens", .glo "_law_probe"] : List He.Fa) ++ ([.glo "_law_first", .glo "_law_small", .glo "_law_rest", .glo "_law_grown", .glo "_law_span", .glo "_law_any_command", .glo "_law_any_matrix", .glo "_law_mixed_rows", .glo "_law_thin_matrix", .glo "_law_rows", .glo "_law_row_copies", .glo "_law_other_rows", .glo "_law_row_copies", .glo "_law_thin_matrix", .glo "law"] : List He.Fa)
def fn : List He.DefD := ([ddx_NoRows, dd_is_integer, dd_is_matrix, dd_pivot, dd_common_divisor, dd_primitive, dd_cleared, dd_reduced, dd_with_row, dd_Space_init, dd_Space_len, dd_Space_eq, dd_Space_rows, dd_L_pool, dd_L_draw, dd_L_number, dd_L_move, dd_L_pens, dd_L_probe, dd_L_first] : List He.DefD) ++ ([dd_L_small, dd_L_rest, dd_L_grown, dd_L_span, dd_L_any_command, dd_L_any_matrix, dd_L_mixed_rows, dd_L_thin_matrix, dd_L_rows, dd_L_row_copies, dd_L_other_rows, dd_L_row_copies_w, dd_L_thin_matrix_c, dd_law_k27] : List He.DefD)
def ts : List He.Tab := []
def exs (K : PySem.W.Frag) : List Bool := [seerB K, xaB K "NoRows" ["index"], isB K "Space", neB K "Space"]
def ex (K : PySem.W.Frag) : Bool := (exs K).all id
theorem exAt {K : PySem.W.Frag} (h : ex K = true) (i : Nat) {b : Bool} (e : (exs K)[i]? = some b := by rfl) : b = true := List.all_eq_true.mp h b (List.mem_of_getElem? e)
def loose : List Str := (["_wall", "HomeError", "NoRows", "is_integer", "is_matrix", "composed", "pivot", "common_divisor", "primitive", "cleared", "reduced", "with_row", "Space", "_law_pool", "_law_draw", "_law_number", "_law_move", "_law_pens", "_law_probe", "_law_first", "_law_small", "_law_rest", "_law_grown", "_law_span", "_law_any_command", "_law_any_matrix", "_law_mixed_rows", "_law_thin_matrix", "_law_rows", "_law_row_copies"] : List Str) ++ (["_law_other_rows"] : List Str)
abbrev R : PySem.W.OpenRow := PySem.W.OpenLaw.row PySem.Challenge.rw_penhome_k27_equal_spaces
abbrev hk : PySem.W.Hook := hookQ 5 fa fn ts ex
def ob (s : PySem.W.SharedT) : He.AlT × Bool := obsQ 5 fa fn ts ex (HandSHeadRun.getT s)
theorem ob_eq (s : PySem.W.SharedT) : ob s = hk.obs s.abs := obsQ_eq (HandSHeadRun.getT_eq s)
abbrev RunAt (w : World) : Prop := HandSHeadRun.RunEq R (PySem.W.view R.prog [36]) hk ob 8000 loose w
set_option maxHeartbeats 0 in
theorem run_f (w : World) : RunAt (w.withFollow "special-get-raises" false) := by
  intro os
  kernel_rfl
set_option maxHeartbeats 0 in
theorem run_t (w : World) : RunAt (w.withFollow "special-get-raises" true) := by
  intro os
  kernel_rfl
theorem run_ (w : World) : RunAt w := PySem.W.byRow2 "special-get-raises" run_f run_t w
theorem txt {P : Program} (ht : Tre P) {w : World} {K : PySem.W.Frag} {h : Heap} {mg : Str → Option Value} (X : K.In h) (G : h.Ns mainGlobals mg) (c : He.SaysT fa fn ts w K ∧ ex K = true) : Txt P w K mg where
    tree := ht
    n_isinstance := He.free_ok X G (c.1.d.fact 0 (f := .free "isinstance") rfl)
    n_int := He.free_ok X G (c.1.d.fact 1 (f := .free "int") rfl)
    n_bool := He.free_ok X G (c.1.d.fact 2 (f := .free "bool") rfl)
    n_list := He.free_ok X G (c.1.d.fact 3 (f := .free "list") rfl)
    n_len := He.free_ok X G (c.1.d.fact 4 (f := .free "len") rfl)
    n_all := He.free_ok X G (c.1.d.fact 5 (f := .free "all") rfl)
    n_enumerate := He.free_ok X G (c.1.d.fact 6 (f := .free "enumerate") rfl)
    n_abs := He.free_ok X G (c.1.d.fact 7 (f := .free "abs") rfl)
    sk := seerB_ok (exAt c.2 0)
    n_zip := He.free_ok X G (c.1.d.fact 8 (f := .free "zip") rfl)
    n_sorted := He.free_ok X G (c.1.d.fact 9 (f := .free "sorted") rfl)
    xa_NoRows := xaB_ok (exAt c.2 1) (He.glo_ok X G (c.1.d.fact 10 (f := .glo "NoRows") rfl))
    fx_NoRows := c.1.d.def_ 0 (d := ddx_NoRows) rfl
    c_Space := He.cls_ok (c.1.d.fact 11 (f := .cls "Space") rfl)
    a_Space_basis := He.noat_ok (c.1.d.fact 12 (f := .noat "Space" "basis") rfl)
    I_Space := isB_ok (exAt c.2 2) (He.cls_ok (c.1.d.fact 13 (f := .cls "Space") rfl))
    g_Space := He.glo_ok X G (c.1.d.fact 14 (f := .glo "Space") rfl)
    n_range := He.free_ok X G (c.1.d.fact 15 (f := .free "range") rfl)
    n_tuple := He.free_ok X G (c.1.d.fact 16 (f := .free "tuple") rfl)
    n_min := He.free_ok X G (c.1.d.fact 17 (f := .free "min") rfl)
    T_Space := ⟨He.cls_ok (c.1.d.fact 18 (f := .cls "Space") rfl), He.mkr_ok (c.1.d.fact 19 (f := .mkr "Space") rfl), He.glo_ok X G (c.1.d.fact 20 (f := .glo "Space") rfl)⟩
    ne_Space := neB_ok (He.cls_ok (c.1.d.fact 21 (f := .cls "Space") rfl)) (exAt c.2 3)
    G_is_integer := He.glo_ok X G (c.1.d.fact 22 (f := .glo "is_integer") rfl)
    f_is_integer := c.1.d.def_ 1 (d := dd_is_integer) rfl
    G_is_matrix := He.glo_ok X G (c.1.d.fact 23 (f := .glo "is_matrix") rfl)
    f_is_matrix := c.1.d.def_ 2 (d := dd_is_matrix) rfl
    G_pivot := He.glo_ok X G (c.1.d.fact 24 (f := .glo "pivot") rfl)
    f_pivot := c.1.d.def_ 3 (d := dd_pivot) rfl
    G_common_divisor := He.glo_ok X G (c.1.d.fact 25 (f := .glo "common_divisor") rfl)
    f_common_divisor := c.1.d.def_ 4 (d := dd_common_divisor) rfl
    G_primitive := He.glo_ok X G (c.1.d.fact 26 (f := .glo "primitive") rfl)
    f_primitive := c.1.d.def_ 5 (d := dd_primitive) rfl
    G_cleared := He.glo_ok X G (c.1.d.fact 27 (f := .glo "cleared") rfl)
    f_cleared := c.1.d.def_ 6 (d := dd_cleared) rfl
    G_reduced := He.glo_ok X G (c.1.d.fact 28 (f := .glo "reduced") rfl)
    f_reduced := c.1.d.def_ 7 (d := dd_reduced) rfl
    G_with_row := He.glo_ok X G (c.1.d.fact 29 (f := .glo "with_row") rfl)
    f_with_row := c.1.d.def_ 8 (d := dd_with_row) rfl
    M_Space_init := He.meth_ok (c.1.d.fact 30 (f := .meth "Space" "__init__") rfl)
    f_Space_init := c.1.d.def_ 9 (d := dd_Space_init) rfl
    M_Space_len := He.meth_ok (c.1.d.fact 31 (f := .meth "Space" "__len__") rfl)
    f_Space_len := c.1.d.def_ 10 (d := dd_Space_len) rfl
    M_Space_eq := He.meth_ok (c.1.d.fact 32 (f := .meth "Space" "__eq__") rfl)
    f_Space_eq := c.1.d.def_ 11 (d := dd_Space_eq) rfl
    M_Space_rows := He.meth_ok (c.1.d.fact 33 (f := .meth "Space" "rows") rfl)
    f_Space_rows := c.1.d.def_ 12 (d := dd_Space_rows) rfl
    G_L_pool := He.glo_ok X G (c.1.d.fact 34 (f := .glo "_law_pool") rfl)
    f_L_pool := c.1.d.def_ 13 (d := dd_L_pool) rfl
    G_L_draw := He.glo_ok X G (c.1.d.fact 35 (f := .glo "_law_draw") rfl)
    f_L_draw := c.1.d.def_ 14 (d := dd_L_draw) rfl
    G_L_number := He.glo_ok X G (c.1.d.fact 36 (f := .glo "_law_number") rfl)
    f_L_number := c.1.d.def_ 15 (d := dd_L_number) rfl
    G_L_move := He.glo_ok X G (c.1.d.fact 37 (f := .glo "_law_move") rfl)
    f_L_move := c.1.d.def_ 16 (d := dd_L_move) rfl
    G_L_pens := He.glo_ok X G (c.1.d.fact 38 (f := .glo "_law_pens") rfl)
    f_L_pens := c.1.d.def_ 17 (d := dd_L_pens) rfl
    G_L_probe := He.glo_ok X G (c.1.d.fact 39 (f := .glo "_law_probe") rfl)
    f_L_probe := c.1.d.def_ 18 (d := dd_L_probe) rfl
    G_L_first := He.glo_ok X G (c.1.d.fact 40 (f := .glo "_law_first") rfl)
    f_L_first := c.1.d.def_ 19 (d := dd_L_first) rfl
    G_L_small := He.glo_ok X G (c.1.d.fact 41 (f := .glo "_law_small") rfl)
    f_L_small := c.1.d.def_ 20 (d := dd_L_small) rfl
    G_L_rest := He.glo_ok X G (c.1.d.fact 42 (f := .glo "_law_rest") rfl)
    f_L_rest := c.1.d.def_ 21 (d := dd_L_rest) rfl
    G_L_grown := He.glo_ok X G (c.1.d.fact 43 (f := .glo "_law_grown") rfl)
    f_L_grown := c.1.d.def_ 22 (d := dd_L_grown) rfl
    G_L_span := He.glo_ok X G (c.1.d.fact 44 (f := .glo "_law_span") rfl)
    f_L_span := c.1.d.def_ 23 (d := dd_L_span) rfl
    G_L_any_command := He.glo_ok X G (c.1.d.fact 45 (f := .glo "_law_any_command") rfl)
    f_L_any_command := c.1.d.def_ 24 (d := dd_L_any_command) rfl
    G_L_any_matrix := He.glo_ok X G (c.1.d.fact 46 (f := .glo "_law_any_matrix") rfl)
    f_L_any_matrix := c.1.d.def_ 25 (d := dd_L_any_matrix) rfl
    G_L_mixed_rows := He.glo_ok X G (c.1.d.fact 47 (f := .glo "_law_mixed_rows") rfl)
    f_L_mixed_rows := c.1.d.def_ 26 (d := dd_L_mixed_rows) rfl
    G_L_thin_matrix := He.glo_ok X G (c.1.d.fact 48 (f := .glo "_law_thin_matrix") rfl)
    f_L_thin_matrix := c.1.d.def_ 27 (d := dd_L_thin_matrix) rfl
    G_L_rows := He.glo_ok X G (c.1.d.fact 49 (f := .glo "_law_rows") rfl)
    f_L_rows := c.1.d.def_ 28 (d := dd_L_rows) rfl
    G_L_row_copies := He.glo_ok X G (c.1.d.fact 50 (f := .glo "_law_row_copies") rfl)
    f_L_row_copies := c.1.d.def_ 29 (d := dd_L_row_copies) rfl
    G_L_other_rows := He.glo_ok X G (c.1.d.fact 51 (f := .glo "_law_other_rows") rfl)
    f_L_other_rows := c.1.d.def_ 30 (d := dd_L_other_rows) rfl
    G_L_row_copies_w := He.glo_ok X G (c.1.d.fact 52 (f := .glo "_law_row_copies") rfl)
    f_L_row_copies_w := c.1.d.def_ 31 (d := dd_L_row_copies_w) rfl
    G_L_thin_matrix_c := He.glo_ok X G (c.1.d.fact 53 (f := .glo "_law_thin_matrix") rfl)
    f_L_thin_matrix_c := c.1.d.def_ 32 (d := dd_L_thin_matrix_c) rfl
    G_law_k27 := He.glo_ok X G (c.1.d.fact 54 (f := .glo "law") rfl)
    f_law_k27 := c.1.d.def_ 33 (d := dd_law_k27) rfl
end PHZ

namespace PH
open PySem PySem.Spec PyProof.Rows L2
theorem atI0 {α : Type} {x : α} {r : List α} : atI (x :: r) 0 = some x := atI_nat' (n := 0) rfl
theorem atI1 {α : Type} {x y : α} {r : List α} : atI (x :: y :: r) 1 = some y := atI_nat' (n := 1) rfl
theorem atI2 {α : Type} {x y z : α} {r : List α} : atI (x :: y :: z :: r) 2 = some z := atI_nat' (n := 2) rfl
theorem atI3 {α : Type} {x y z w : α} {r : List α} : atI (x :: y :: z :: w :: r) 3 = some w := atI_nat' (n := 3) rfl
theorem ixT0 {x : D} {r : List D} {S : Sto} : fIx (.dat (.tup (x :: r))) (.dat (.int 0)) S = .ok (.dat x) S := g_ixT atI0
theorem ixT1 {x y : D} {r : List D} {S : Sto} : fIx (.dat (.tup (x :: y :: r))) (.dat (.int 1)) S = .ok (.dat y) S := g_ixT atI1
theorem ixT2 {x y z : D} {r : List D} {S : Sto} : fIx (.dat (.tup (x :: y :: z :: r))) (.dat (.int 2)) S = .ok (.dat z) S := g_ixT atI2
theorem ixT3 {x y z w : D} {r : List D} {S : Sto} : fIx (.dat (.tup (x :: y :: z :: w :: r))) (.dat (.int 3)) S = .ok (.dat w) S := g_ixT atI3
theorem ixL0 {x : D} {r : List D} {S : Sto} : fIx (.dat (.lst (x :: r))) (.dat (.int 0)) S = .ok (.dat x) S := g_ixL atI0
theorem ixL1 {x y : D} {r : List D} {S : Sto} : fIx (.dat (.lst (x :: y :: r))) (.dat (.int 1)) S = .ok (.dat y) S := g_ixL atI1
/-- the pool stands at p -/
def PoolAt (S : Sto) (p : Nat) (ks : List Int) : Prop := S[p]? = some (.lst (ks.map D.int)) ∧ 2 ≤ ks.length
theorem getC_int {S : Sto} {p : Nat} {ks : List Int} {k : Int} {n : Nat} {u : Int} (h : S[p]? = some (.lst (ks.map D.int))) (hk : k = (n : Int)) (hu : ks[n]? = some u) : getC (.cel p) k S = some (.int u) := by
  subst hk
  simp only [getC, h]
  rw [if_pos (by omega)]
  simp [hu]
theorem setC_int {S : Sto} {p : Nat} {ks : List Int} {k : Int} {n : Nat} {u : Int} (h : S[p]? = some (.lst (ks.map D.int))) (hk : k = (n : Int)) (hu : n < ks.length) : setC (.cel p) k (.int u) S = some (S.set p (.lst ((ks.set n u).map D.int))) := by
  subst hk
  simp only [setC, h]
  rw [if_pos ⟨by omega, by simpa using hu⟩]
  simp [List.map_set]
/-- xs[k] op= e on a cell of ints -/
theorem augI_int {g : Int → Int → Int} {o i e : FE} {ρ : Ev} {S : Sto} {p n : Nat} {k u w : Int} {ks : List Int} (ho : o ρ S = .ok (.cel p) S) (hi : i ρ S = .ok (.dat (.int k)) S) (he : e ρ S = .ok (.dat (.int w)) S) (h : S[p]? = some (.lst (ks.map D.int))) (hk : k = (n : Int)) (hu : ks[n]? = some u) :
    mAugI g o i e ρ S = .next ρ (S.set p (.lst ((ks.set n (g u w)).map D.int))) := by
  simp only [mAugI, ho, hi, he, g_toS_ok, getC_int h hk hu, setC_int h hk (List.getElem?_eq_some_iff.mp hu).1]
theorem ixC_int {S : Sto} {p : Nat} {ks : List Int} {k : Int} {n : Nat} {u : Int} (h : S[p]? = some (.lst (ks.map D.int))) (hk : k = (n : Int)) (hu : ks[n]? = some u) : fIx (.cel p) (.dat (.int k)) S = .ok (.dat (.int u)) S :=
  g_ixC h (by rw [atI_nat' hk]; simp [hu])
theorem set_at {S : Sto} {p : Nat} {c d : Cell} (h : S[p]? = some c) : (S.set p d)[p]? = some d := by
  rw [List.getElem?_set, if_pos rfl, if_pos (List.getElem?_eq_some_iff.mp h).1]
theorem pw18 {S : Sto} : fPow (.dat (.int 10)) (.dat (.int 18)) S = .ok (.dat (.int 1000000000000000000)) S := rfl
theorem dw1 (a : Int) : IntMulOk 7919 a := mulL (by decide) (by decide)
theorem dw2 (a : Int) : IntMulOk a 48271 := mulR (by decide) (by decide)
theorem dw3 (a : Int) : CDiv a 1009 := ⟨by decide, by decide⟩
theorem dw4 (a : Int) : CDiv a 2003 := ⟨by decide, by decide⟩
theorem dw5 (a : Int) : CDiv a 11 := ⟨by decide, by decide⟩
theorem dw6 (a b : Int) : IntMulOk (a % 2147483647) b := by
  have h1 : 0 ≤ a % 2147483647 := Int.emod_nonneg _ (by decide)
  have h2 : a % 2147483647 < 2147483647 := Int.emod_lt_of_pos _ (by decide)
  generalize a % 2147483647 = x at h1 h2
  exact mulL (by omega) (by omega)
theorem dw7 : (0 : Int) < 2147483647 := by decide
theorem dw8 : (0 : Int) < 2147483399 := by decide
theorem dw9 {a k : Int} {ks : List Int} {S S1 : Sto} {p : Nat} {u : Int} (h0 : 0 < k) (hS1 : S.set p (.lst ((ks.set 0 (u + 1)).map D.int)) = S1) : ∃ (d : Int) (ks' : List Int), ofOut (Out.ret (.dat (.int (a % k))) S1) = .ok (.dat (.int d)) (S.set p (.lst (ks'.map D.int))) ∧ 0 ≤ d ∧ d < k ∧ ks'.length = ks.length :=
  ⟨a % k, ks.set 0 (u + 1), by rw [hS1]; rfl, Int.emod_nonneg _ (by omega), Int.emod_lt_of_pos _ h0, by simp⟩
theorem draw_ok {S : Sto} {p : Nat} {ks : List Int} {k : Int} (hP : PoolAt S p ks) (h0 : 0 < k) (h1 : k < 1073741824) :
    ∃ (d : Int) (ks' : List Int), m_L_draw [.cel p, .dat (.int k)] S = .ok (.dat (.int d)) (S.set p (.lst (ks'.map D.int))) ∧ 0 ≤ d ∧ d < k ∧ ks'.length = ks.length := by
  obtain ⟨hp, hl⟩ := hP
  obtain ⟨u, hu⟩ : ∃ u, ks[0]? = some u := ⟨ks[0], by simp [show 0 < ks.length by omega]⟩
  have hp1 := set_at (d := .lst ((ks.set 0 (u + 1)).map D.int)) hp
  have hn : (1 : Int) + (u + 1) % ((ks.length : Int) - 1) = ((1 + ((u + 1) % ((ks.length : Int) - 1)).toNat : Nat) : Int) := by
    have := Int.emod_nonneg (u + 1) (show ((ks.length : Int) - 1) ≠ 0 by omega)
    omega
  have hlt : 1 + ((u + 1) % ((ks.length : Int) - 1)).toNat < ks.length := by
    have := Int.emod_lt_of_pos (u + 1) (show 0 < ((ks.length : Int) - 1) by omega)
    have := Int.emod_nonneg (u + 1) (show ((ks.length : Int) - 1) ≠ 0 by omega)
    omega
  generalize hj : 1 + ((u + 1) % ((ks.length : Int) - 1)).toNat = j at hn hlt
  obtain ⟨c, hc⟩ : ∃ c, (ks.set 0 (u + 1))[j]? = some c := ⟨(ks.set 0 (u + 1))[j]'(by simpa using hlt), by simp [hlt]⟩
  have h00 : (ks.set 0 (u + 1))[0]? = some (u + 1) := by
    rw [List.getElem?_set, if_pos rfl, if_pos (by omega)]
  have e1 : (mAugI (fun x y => x + y) (mVar 0) (mC (.int 0)) (mC (.int 1))) [some (.cel p), some (.dat (.int k)), none, none, none] S = .next [some (.cel p), some (.dat (.int k)), none, none, none] (S.set p (.lst ((ks.set 0 (u + 1)).map D.int))) := augI_int rfl rfl rfl hp rfl hu
  have eE : m_L_draw [.cel p, .dat (.int k)] S = ofOut (b_L_draw [some (.cel p), some (.dat (.int k)), none, none, none] S) := rfl
  rw [eE]
  unfold b_L_draw
  generalize hS1 : S.set p (.lst ((ks.set 0 (u + 1)).map D.int)) = S1 at e1 hp1
  simp (config := { implicitDefEqProofs := false }) only [e1, ixC_int (k := 0) (n := 0) hp1 rfl h00, g_lenC hp1, List.length_map, List.length_set, g_modI (show (0 : Int) < (ks.length : Int) - 1 by omega), hn, ixC_int hp1 rfl hc, pw18, EV0, EV1, EV2, List.set_cons_zero, List.set_cons_succ, Bool.not_true, Bool.not_false, eq_self, if_true, if_false, Bool.true_or, Bool.false_or, Bool.or_true, Bool.or_false, Bool.and_true, Bool.true_and, Bool.and_false, Bool.false_and, List.set_set, List.length_cons, List.length_nil, beq_self_eq_true, Bool.false_eq_true, lk, isTy, fIsi, fIsi2, kindOf, wipeE, decide_true, decide_false, Int.reduceEq, Int.reduceLT, Int.reduceLE, Int.reduceSub, Int.reduceAdd, Int.reduceNeg, Int.reduceToNat, Int.reduceNe, Nat.reduceAdd, Nat.reduceLT, Nat.reduceLeDiff, String.reduceEq, String.reduceBEq]
  by_cases hbig : (1000000000000000000 : Int) ≤ c
  · rw [decide_eq_true hbig]
    simp (config := { implicitDefEqProofs := false }) only [EV0, EV1, EV2, List.set_cons_zero, List.set_cons_succ, Bool.not_true, Bool.not_false, eq_self, if_true, if_false, Bool.true_or, Bool.false_or, Bool.or_true, Bool.or_false, Bool.and_true, Bool.true_and, Bool.and_false, Bool.false_and, List.set_set, List.length_cons, List.length_nil, beq_self_eq_true, Bool.false_eq_true, lk, isTy, fIsi, fIsi2, kindOf, wipeE, decide_true, decide_false, Int.reduceEq, Int.reduceLT, Int.reduceLE, Int.reduceSub, Int.reduceAdd, Int.reduceNeg, Int.reduceToNat, Int.reduceNe, Nat.reduceAdd, Nat.reduceLT, Nat.reduceLeDiff, String.reduceEq, String.reduceBEq]
    have e2 : mSetI (mOp fFdiv (mVar 3) (mVar 1)) (mVar 0) (mVar 2) [some (.cel p), some (.dat (.int k)), some (.dat (.int (j : Int))), some (.dat (.int c)), none] S1 = .next [some (.cel p), some (.dat (.int k)), some (.dat (.int (j : Int))), some (.dat (.int c)), none] (S1.set p (.lst (((ks.set 0 (u + 1)).set j (c / k)).map D.int))) := by
      unfold mSetI
      simp (config := { implicitDefEqProofs := false }) only [g_fdivI (show CDiv c k from ⟨h0, h1⟩), setC_int (u := c / k) hp1 (rfl : (j : Int) = (j : Int)) (by simpa using hlt), EV0, EV1, EV2, List.set_cons_zero, List.set_cons_succ, Bool.not_true, Bool.not_false, eq_self, if_true, if_false, Bool.true_or, Bool.false_or, Bool.or_true, Bool.or_false, Bool.and_true, Bool.true_and, Bool.and_false, Bool.false_and, List.set_set, List.length_cons, List.length_nil, beq_self_eq_true, Bool.false_eq_true, lk, isTy, fIsi, fIsi2, kindOf, wipeE, decide_true, decide_false, Int.reduceEq, Int.reduceLT, Int.reduceLE, Int.reduceSub, Int.reduceAdd, Int.reduceNeg, Int.reduceToNat, Int.reduceNe, Nat.reduceAdd, Nat.reduceLT, Nat.reduceLeDiff, String.reduceEq, String.reduceBEq]
    simp (config := { implicitDefEqProofs := false }) only [e2, g_modI h0, EV0, EV1, EV2, List.set_cons_zero, List.set_cons_succ, Bool.not_true, Bool.not_false, eq_self, if_true, if_false, Bool.true_or, Bool.false_or, Bool.or_true, Bool.or_false, Bool.and_true, Bool.true_and, Bool.and_false, Bool.false_and, List.set_set, List.length_cons, List.length_nil, beq_self_eq_true, Bool.false_eq_true, lk, isTy, fIsi, fIsi2, kindOf, wipeE, decide_true, decide_false, Int.reduceEq, Int.reduceLT, Int.reduceLE, Int.reduceSub, Int.reduceAdd, Int.reduceNeg, Int.reduceToNat, Int.reduceNe, Nat.reduceAdd, Nat.reduceLT, Nat.reduceLeDiff, String.reduceEq, String.reduceBEq]
    refine ⟨c % k, (ks.set 0 (u + 1)).set j (c / k), ?_, Int.emod_nonneg c (by omega), Int.emod_lt_of_pos c h0, by simp⟩
    rw [← hS1, List.set_set]
    rfl
  · rw [decide_eq_false hbig]
    simp (config := { implicitDefEqProofs := false }) only [ixC_int (k := 0) (n := 0) hp1 rfl h00, g_mulI (dw1 _), g_mulI (dw2 _), g_modI dw7, g_modI dw8, g_fdivI (dw3 _), g_fdivI (dw4 _), g_fdivI (dw5 _), g_mulI (dw6 _ _), g_modI h0, EV0, EV1, EV2, List.set_cons_zero, List.set_cons_succ, Bool.not_true, Bool.not_false, eq_self, if_true, if_false, Bool.true_or, Bool.false_or, Bool.or_true, Bool.or_false, Bool.and_true, Bool.true_and, Bool.and_false, Bool.false_and, List.set_set, List.length_cons, List.length_nil, beq_self_eq_true, Bool.false_eq_true, lk, isTy, fIsi, fIsi2, kindOf, wipeE, decide_true, decide_false, Int.reduceEq, Int.reduceLT, Int.reduceLE, Int.reduceSub, Int.reduceAdd, Int.reduceNeg, Int.reduceToNat, Int.reduceNe, Nat.reduceAdd, Nat.reduceLT, Nat.reduceLeDiff, String.reduceEq, String.reduceBEq]
    exact dw9 h0 hS1
end PH

namespace PH
open PySem PySem.Spec PyProof.Rows L2
inductive Cmd where
  | go (k : Int) | turn (n : Int) | mirror | scale (k : Int) | aim (a b : Int) | place (a b : Int) | mark | ret | exch
def Cmd.d : Cmd → D
  | .go k => .tup [.str "go", .int k]
  | .turn k => .tup [.str "turn", .int k]
  | .mirror => .tup [.str "mirror"]
  | .scale k => .tup [.str "scale", .int k]
  | .aim a b => .tup [.str "aim", .int a, .int b]
  | .place a b => .tup [.str "place", .int a, .int b]
  | .mark => .tup [.str "mark"]
  | .ret => .tup [.str "return"]
  | .exch => .tup [.str "exchange"]
def Cmd.Ok : Cmd → Prop
  | .go k => -9 ≤ k ∧ k ≤ 9
  | .turn k => 1 ≤ k ∧ k ≤ 3
  | .scale k => -3 ≤ k ∧ k ≤ 3
  | .aim a b => (-9 ≤ a ∧ a ≤ 9) ∧ -9 ≤ b ∧ b ≤ 9
  | .place a b => (-9 ≤ a ∧ a ≤ 9) ∧ -9 ≤ b ∧ b ≤ 9
  | _ => True
abbrev PL (ks : List Int) : Cell := .lst (ks.map D.int)
theorem PoolAt.next {S : Sto} {p : Nat} {ks ks' : List Int} (h : PoolAt S p ks) (l : ks'.length = ks.length) : PoolAt (S.set p (PL ks')) p ks' := ⟨set_at h.1, by rw [l]; exact h.2⟩
theorem any_cmd_ok {S : Sto} {p : Nat} {ks : List Int} (hP : PoolAt S p ks) : ∃ (c : Cmd) (ks' : List Int), m_L_any_command [.cel p] S = .ok (.dat c.d) (S.set p (PL ks')) ∧ c.Ok ∧ ks'.length = ks.length := by
  obtain ⟨d, k1, e1, h0, h1, l1⟩ := draw_ok hP (k := 9) (by decide) (by decide)
  have P1 := hP.next l1
  have eE : m_L_any_command [.cel p] S = ofOut (b_L_any_command [some (.cel p), none] S) := rfl
  rw [eE]
  unfold b_L_any_command
  simp (config := { implicitDefEqProofs := false }) only [e1, EV0, EV1, EV2, List.set_cons_zero, List.set_cons_succ, Bool.not_true, Bool.not_false, eq_self, if_true, if_false, Bool.true_or, Bool.false_or, Bool.or_true, Bool.or_false, Bool.and_true, Bool.true_and, Bool.and_false, Bool.false_and, List.set_set, List.length_cons, List.length_nil, beq_self_eq_true, Bool.false_eq_true, lk, isTy, fIsi, fIsi2, kindOf, wipeE, decide_true, decide_false, Int.reduceEq, Int.reduceLT, Int.reduceLE, Int.reduceSub, Int.reduceAdd, Int.reduceNeg, Int.reduceToNat, Int.reduceNe, Nat.reduceAdd, Nat.reduceLT, Nat.reduceLeDiff, String.reduceEq, String.reduceBEq]
  obtain ⟨d2, k2, e2, h2, h3, l2⟩ := draw_ok P1 (k := 19) (by decide) (by decide)
  obtain ⟨d3, k3, e3, h4, h5, l3⟩ := draw_ok P1 (k := 3) (by decide) (by decide)
  obtain ⟨d4, k4, e4, h6, h7, l4⟩ := draw_ok P1 (k := 7) (by decide) (by decide)
  obtain ⟨d5, k5, e5, h8, h9, l5⟩ := draw_ok (P1.next l2) (k := 19) (by decide) (by decide)
  simp only [List.set_set] at e2 e3 e4 e5
  rcases (by omega : d = 0 ∨ d = 1 ∨ d = 2 ∨ d = 3 ∨ d = 4 ∨ d = 5 ∨ d = 6 ∨ d = 7 ∨ d = 8) with rfl | rfl | rfl | rfl | rfl | rfl | rfl | rfl | rfl
  · simp (config := { implicitDefEqProofs := false }) only [e2, EV0, EV1, EV2, List.set_cons_zero, List.set_cons_succ, Bool.not_true, Bool.not_false, eq_self, if_true, if_false, Bool.true_or, Bool.false_or, Bool.or_true, Bool.or_false, Bool.and_true, Bool.true_and, Bool.and_false, Bool.false_and, List.set_set, List.length_cons, List.length_nil, beq_self_eq_true, Bool.false_eq_true, lk, isTy, fIsi, fIsi2, kindOf, wipeE, decide_true, decide_false, Int.reduceEq, Int.reduceLT, Int.reduceLE, Int.reduceSub, Int.reduceAdd, Int.reduceNeg, Int.reduceToNat, Int.reduceNe, Nat.reduceAdd, Nat.reduceLT, Nat.reduceLeDiff, String.reduceEq, String.reduceBEq]
    exact ⟨.go (d2 - 9), k2, rfl, ⟨by omega, by omega⟩, by omega⟩
  · simp (config := { implicitDefEqProofs := false }) only [e3, EV0, EV1, EV2, List.set_cons_zero, List.set_cons_succ, Bool.not_true, Bool.not_false, eq_self, if_true, if_false, Bool.true_or, Bool.false_or, Bool.or_true, Bool.or_false, Bool.and_true, Bool.true_and, Bool.and_false, Bool.false_and, List.set_set, List.length_cons, List.length_nil, beq_self_eq_true, Bool.false_eq_true, lk, isTy, fIsi, fIsi2, kindOf, wipeE, decide_true, decide_false, Int.reduceEq, Int.reduceLT, Int.reduceLE, Int.reduceSub, Int.reduceAdd, Int.reduceNeg, Int.reduceToNat, Int.reduceNe, Nat.reduceAdd, Nat.reduceLT, Nat.reduceLeDiff, String.reduceEq, String.reduceBEq]
    exact ⟨.turn (1 + d3), k3, rfl, ⟨by omega, by omega⟩, by omega⟩
  · simp (config := { implicitDefEqProofs := false }) only [e4, EV0, EV1, EV2, List.set_cons_zero, List.set_cons_succ, Bool.not_true, Bool.not_false, eq_self, if_true, if_false, Bool.true_or, Bool.false_or, Bool.or_true, Bool.or_false, Bool.and_true, Bool.true_and, Bool.and_false, Bool.false_and, List.set_set, List.length_cons, List.length_nil, beq_self_eq_true, Bool.false_eq_true, lk, isTy, fIsi, fIsi2, kindOf, wipeE, decide_true, decide_false, Int.reduceEq, Int.reduceLT, Int.reduceLE, Int.reduceSub, Int.reduceAdd, Int.reduceNeg, Int.reduceToNat, Int.reduceNe, Nat.reduceAdd, Nat.reduceLT, Nat.reduceLeDiff, String.reduceEq, String.reduceBEq]
    exact ⟨.scale (d4 - 3), k4, rfl, ⟨by omega, by omega⟩, by omega⟩
  · simp (config := { implicitDefEqProofs := false }) only [ixT0, e2, e5, EV0, EV1, EV2, List.set_cons_zero, List.set_cons_succ, Bool.not_true, Bool.not_false, eq_self, if_true, if_false, Bool.true_or, Bool.false_or, Bool.or_true, Bool.or_false, Bool.and_true, Bool.true_and, Bool.and_false, Bool.false_and, List.set_set, List.length_cons, List.length_nil, beq_self_eq_true, Bool.false_eq_true, lk, isTy, fIsi, fIsi2, kindOf, wipeE, decide_true, decide_false, Int.reduceEq, Int.reduceLT, Int.reduceLE, Int.reduceSub, Int.reduceAdd, Int.reduceNeg, Int.reduceToNat, Int.reduceNe, Nat.reduceAdd, Nat.reduceLT, Nat.reduceLeDiff, String.reduceEq, String.reduceBEq]
    exact ⟨.aim (d2 - 9) (d5 - 9), k5, rfl, ⟨⟨by omega, by omega⟩, by omega, by omega⟩, by omega⟩
  · simp (config := { implicitDefEqProofs := false }) only [ixT1, e2, e5, EV0, EV1, EV2, List.set_cons_zero, List.set_cons_succ, Bool.not_true, Bool.not_false, eq_self, if_true, if_false, Bool.true_or, Bool.false_or, Bool.or_true, Bool.or_false, Bool.and_true, Bool.true_and, Bool.and_false, Bool.false_and, List.set_set, List.length_cons, List.length_nil, beq_self_eq_true, Bool.false_eq_true, lk, isTy, fIsi, fIsi2, kindOf, wipeE, decide_true, decide_false, Int.reduceEq, Int.reduceLT, Int.reduceLE, Int.reduceSub, Int.reduceAdd, Int.reduceNeg, Int.reduceToNat, Int.reduceNe, Nat.reduceAdd, Nat.reduceLT, Nat.reduceLeDiff, String.reduceEq, String.reduceBEq]
    exact ⟨.place (d2 - 9) (d5 - 9), k5, rfl, ⟨⟨by omega, by omega⟩, by omega, by omega⟩, by omega⟩
  · simp (config := { implicitDefEqProofs := false }) only [ixT0, EV0, EV1, EV2, List.set_cons_zero, List.set_cons_succ, Bool.not_true, Bool.not_false, eq_self, if_true, if_false, Bool.true_or, Bool.false_or, Bool.or_true, Bool.or_false, Bool.and_true, Bool.true_and, Bool.and_false, Bool.false_and, List.set_set, List.length_cons, List.length_nil, beq_self_eq_true, Bool.false_eq_true, lk, isTy, fIsi, fIsi2, kindOf, wipeE, decide_true, decide_false, Int.reduceEq, Int.reduceLT, Int.reduceLE, Int.reduceSub, Int.reduceAdd, Int.reduceNeg, Int.reduceToNat, Int.reduceNe, Nat.reduceAdd, Nat.reduceLT, Nat.reduceLeDiff, String.reduceEq, String.reduceBEq]
    exact ⟨.mirror, k1, rfl, trivial, l1⟩
  · simp (config := { implicitDefEqProofs := false }) only [ixT1, EV0, EV1, EV2, List.set_cons_zero, List.set_cons_succ, Bool.not_true, Bool.not_false, eq_self, if_true, if_false, Bool.true_or, Bool.false_or, Bool.or_true, Bool.or_false, Bool.and_true, Bool.true_and, Bool.and_false, Bool.false_and, List.set_set, List.length_cons, List.length_nil, beq_self_eq_true, Bool.false_eq_true, lk, isTy, fIsi, fIsi2, kindOf, wipeE, decide_true, decide_false, Int.reduceEq, Int.reduceLT, Int.reduceLE, Int.reduceSub, Int.reduceAdd, Int.reduceNeg, Int.reduceToNat, Int.reduceNe, Nat.reduceAdd, Nat.reduceLT, Nat.reduceLeDiff, String.reduceEq, String.reduceBEq]
    exact ⟨.mark, k1, rfl, trivial, l1⟩
  · simp (config := { implicitDefEqProofs := false }) only [ixT2, EV0, EV1, EV2, List.set_cons_zero, List.set_cons_succ, Bool.not_true, Bool.not_false, eq_self, if_true, if_false, Bool.true_or, Bool.false_or, Bool.or_true, Bool.or_false, Bool.and_true, Bool.true_and, Bool.and_false, Bool.false_and, List.set_set, List.length_cons, List.length_nil, beq_self_eq_true, Bool.false_eq_true, lk, isTy, fIsi, fIsi2, kindOf, wipeE, decide_true, decide_false, Int.reduceEq, Int.reduceLT, Int.reduceLE, Int.reduceSub, Int.reduceAdd, Int.reduceNeg, Int.reduceToNat, Int.reduceNe, Nat.reduceAdd, Nat.reduceLT, Nat.reduceLeDiff, String.reduceEq, String.reduceBEq]
    exact ⟨.ret, k1, rfl, trivial, l1⟩
  · simp (config := { implicitDefEqProofs := false }) only [ixT3, EV0, EV1, EV2, List.set_cons_zero, List.set_cons_succ, Bool.not_true, Bool.not_false, eq_self, if_true, if_false, Bool.true_or, Bool.false_or, Bool.or_true, Bool.or_false, Bool.and_true, Bool.true_and, Bool.and_false, Bool.false_and, List.set_set, List.length_cons, List.length_nil, beq_self_eq_true, Bool.false_eq_true, lk, isTy, fIsi, fIsi2, kindOf, wipeE, decide_true, decide_false, Int.reduceEq, Int.reduceLT, Int.reduceLE, Int.reduceSub, Int.reduceAdd, Int.reduceNeg, Int.reduceToNat, Int.reduceNe, Nat.reduceAdd, Nat.reduceLT, Nat.reduceLeDiff, String.reduceEq, String.reduceBEq]
    exact ⟨.exch, k1, rfl, trivial, l1⟩
end PH

namespace PH
open PySem PySem.Spec PyProof.Rows L2
def upd2 (S : Sto) (p q : Nat) (ks rs : List Int) : Sto := (S.set p (PL ks)).set q (PL rs)
/-- they may stand there -/
structure Two (S : Sto) (p q n : Nat) : Prop where
  hp : p < S.length
  hq : q < S.length
  ne : p ≠ q
  hn : 2 ≤ n
theorem u2_len {S : Sto} {p q : Nat} {ks rs : List Int} : (upd2 S p q ks rs).length = S.length := by simp [upd2]
theorem Two.app {S : Sto} {p q n : Nat} {c : Cell} (t : Two S p q n) : Two (S ++ [c]) p q n := ⟨by have := t.hp; simp; omega, by have := t.hq; simp; omega, t.ne, t.hn⟩
theorem Two.u2 {S : Sto} {p q n : Nat} {ks rs : List Int} (t : Two S p q n) : Two (upd2 S p q ks rs) p q n := ⟨by rw [u2_len]; exact t.hp, by rw [u2_len]; exact t.hq, t.ne, t.hn⟩
inductive Stt where
  | cmd (c : Cmd) | fin (w : Int) | keep (b : List Stt) | again (b : List Stt) | either (a b : List Stt) | call (g : Int) (s : Bool) (a b : List Stt) | bad | odd (x : D)
mutual
def Stt.d : Stt → D
  | .cmd c => c.d
  | .fin w => .tup [.str "end", .int w]
  | .keep b => .tup [.str "keep", .lst (dsOf b)]
  | .again b => .tup [.str "again", .lst (dsOf b)]
  | .either a b => .tup [.str "either", .lst (dsOf a), .lst (dsOf b)]
  | .call g s a b => .tup [.str "call", .int g, .bl s, .lst [.lst (dsOf a), .lst (dsOf b)]]
  | .bad => .tup [.str "bad"]
  | .odd x => x
def dsOf : List Stt → List D
  | [] => []
  | s :: r => s.d :: dsOf r
end
mutual
/-- of a depth of n at most; calls of the first many -/
def Stt.Ok (many : Int) : Stt → Nat → Prop
  | .cmd c, _ => c.Ok
  | .fin w, _ => 0 ≤ w ∧ w ≤ 1
  | .keep b, n => 0 < n ∧ OkL many b (n - 1)
  | .again b, n => 0 < n ∧ OkL many b (n - 1)
  | .either a b, n => 0 < n ∧ OkL many a (n - 1) ∧ OkL many b (n - 1)
  | .call g _ a b, n => (0 < n ∧ 0 ≤ g ∧ g < many) ∧ OkL many a (n - 1) ∧ OkL many b (n - 1)
  | .bad, _ => True
  | .odd _, _ => False
def OkL (many : Int) : List Stt → Nat → Prop
  | [], _ => True
  | s :: r, n => (s.Ok many n ∧ r.length < 10) ∧ OkL many r n
end
/-- never a statement -/
def WfNo (many : Int) (x : D) : Prop := ∀ (lv : Int) (S : Sto), m_well_formed [.dat x, .dat (.int lv), .dat (.int many)] S = .ok (.dat (.bl false)) S
mutual
/-- the same; values that are no statements may stand in it -/
def Stt.Okx (many : Int) : Stt → Nat → Prop
  | .cmd c, _ => c.Ok
  | .fin w, _ => 0 ≤ w ∧ w ≤ 1
  | .keep b, n => 0 < n ∧ OkLx many b (n - 1)
  | .again b, n => 0 < n ∧ OkLx many b (n - 1)
  | .either a b, n => 0 < n ∧ OkLx many a (n - 1) ∧ OkLx many b (n - 1)
  | .call g _ a b, n => (0 < n ∧ 0 ≤ g ∧ g < many) ∧ OkLx many a (n - 1) ∧ OkLx many b (n - 1)
  | .bad, _ => True
  | .odd x, _ => WfNo many x
def OkLx (many : Int) : List Stt → Nat → Prop
  | [], _ => True
  | s :: r, n => s.Okx many n ∧ OkLx many r n
end
mutual
theorem Stt.Ok.x {many : Int} : ∀ {s : Stt} {n : Nat}, s.Ok many n → s.Okx many n
  | .cmd c, _, h => h
  | .fin w, _, h => h
  | .keep b, n, h => ⟨h.1, OkL.x h.2⟩
  | .again b, n, h => ⟨h.1, OkL.x h.2⟩
  | .either a b, n, h => ⟨h.1, OkL.x h.2.1, OkL.x h.2.2⟩
  | .call g _ a b, n, h => ⟨h.1, OkL.x h.2.1, OkL.x h.2.2⟩
  | .bad, _, _ => trivial
  | .odd x, _, h => h.elim
theorem OkL.x {many : Int} : ∀ {l : List Stt} {n : Nat}, OkL many l n → OkLx many l n
  | [], _, _ => trivial
  | s :: r, n, h => ⟨h.1.1.x, OkL.x h.2⟩
end
def Stt.isOdd : Stt → Bool
  | .odd _ => true
  | _ => false
theorem Stt.Ok.no {many : Int} {s : Stt} {n : Nat} (h : s.Ok many n) : s.isOdd = false := by
  cases s <;> first | rfl | exact h.elim
theorem dsOf_len : ∀ l : List Stt, (dsOf l).length = l.length
  | [] => rfl
  | s :: r => by simp [dsOf, dsOf_len r]
theorem OkL.len {many : Int} : ∀ {l : List Stt} {n : Nat}, OkL many l n → l.length ≤ 10
  | [], _, _ => by simp
  | s :: r, n, h => by have := h.1.2; simp; omega
theorem OkL.snoc {many : Int} {s : Stt} : ∀ {l : List Stt} {n : Nat}, OkL many l n → s.Ok many n → l.length < 10 → OkL many (l ++ [s]) n
  | [], n, _, h, _ => ⟨⟨h, by simp⟩, trivial⟩
  | x :: r, n, ⟨h1, h2⟩, h, hl => ⟨⟨h1.1, by simp at hl ⊢; omega⟩, OkL.snoc h2 h (by simp at hl; omega)⟩
def LS (S : Sto) : Prop := ∀ c ∈ S, ∀ n, c.below n = true
theorem LS.app {S : Sto} {ds : List D} (h : LS S) : LS (S ++ [.lst ds]) := fun c hc n => by
  rcases List.mem_append.mp hc with hc | hc
  · exact h c hc n
  · rw [List.mem_singleton.mp hc]; rfl
theorem LS.set {S : Sto} {ds : List D} {k : Nat} (h : LS S) : LS (S.set k (.lst ds)) := fun c hc n => by
  rcases List.mem_or_eq_of_mem_set hc with hc | hc
  · exact h c hc n
  · rw [hc]; rfl
theorem LS.u2 {S : Sto} {p q : Nat} {ks rs : List Int} (h : LS S) : LS (upd2 S p q ks rs) := h.set.set
theorem LS.take {S : Sto} {n m : Nat} (h : LS S) : ((S.take n).all fun c => c.below m) = true := List.all_eq_true.mpr fun c hc => h c (List.mem_of_mem_take hc) m
/-- a result within a def whose cells go -/
theorem trunc_ok {T : Sto} {n : Nat} {c : Cell} {d : D} (h : LS T) (hn : n = T.length) : trunc n (.ok (.dat d) (T ++ [c])) = .ok (.dat d) T := by
  have e : (T ++ [c]).take n = T := by rw [hn]; simp
  dsimp only [trunc]
  rw [e]
  have := h.take (n := T.length) (m := n)
  rw [List.take_length] at this
  simp [Vl.below, this]
end PH

namespace PH
open PySem PySem.Spec PyProof.Rows L2
theorem sz {n : Nat} (h : n ≤ 1000) : n ≤ sizeLine := by show n ≤ 16777216; omega
end PH

namespace PH
open PySem PySem.Spec PyProof.Rows L2
def Stt.blocks : Stt → List (List Stt)
  | .keep b => [b]
  | .again b => [b]
  | .either a b => [a, b]
  | .call _ _ a b => [a, b]
  | _ => []
def bls (bs : List (List Stt)) : List D := bs.map fun b => .lst (dsOf b)
def Stt.wf (lv : Int) : Stt → Bool
  | .cmd _ => true
  | .fin _ => true
  | .bad => false
  | .odd _ => false
  | _ => !decide (lv = 3)
inductive FR where
  | fault (p : List Int) (m : Int) | okk (m : Int)
abbrev tupI (p : List Int) : D := .tup (p.map D.int)
def FR.d : FR → D
  | .fault p m => .tup [tupI p, .int m]
  | .okk m => .tup [.non, .int m]
def FR.then (r : FR) (k : Int → FR) : FR := match r with
  | .fault p m => .fault p m
  | .okk m => k m
mutual
/-- what stands in the blocks of s, at the path here -/
def ffS (lv : Int) (here : List Int) : Stt → Int → FR
  | .keep b, met => ffL (lv + 1) (here ++ [0]) 0 b met
  | .again b, met => ffL (lv + 1) (here ++ [0]) 0 b met
  | .either a b, met => (ffL (lv + 1) (here ++ [0]) 0 a met).then (ffL (lv + 1) (here ++ [1]) 0 b)
  | .call _ _ a b, met => (ffL (lv + 1) (here ++ [0]) 0 a met).then (ffL (lv + 1) (here ++ [1]) 0 b)
  | _, met => .okk met
def ffL (lv : Int) (path : List Int) (at_ : Int) : List Stt → Int → FR
  | [], met => .okk met
  | s :: r, met => if at_ = 8 ∨ met = 12 ∨ s.wf lv = false then .fault (path ++ [at_]) met else
    (ffS lv (path ++ [at_]) s (met + 1)).then (ffL lv path (at_ + 1) r)
end
end PH

namespace PH
open PySem PySem.Spec PyProof.Rows L2
theorem FR.then_okk {m : Int} {k : Int → FR} : (FR.okk m).then k = k m := rfl
end PH

namespace PH
open PySem PySem.Spec PyProof.Rows L2
theorem lcGo_map {α : Type} {t : Tg} {e : FE} {ρ : Ev} {S : Sto} {f g : α → D} : ∀ {xs : List α}, (∀ x ∈ xs, ∃ ρ1, tgF t (.dat (f x)) ρ = some ρ1 ∧ e ρ1 S = .ok (.dat (g x)) S) → lcGo t mYes e ρ (xs.map f) S = .ok (xs.map g) S
  | [], _ => rfl
  | x :: xs, h => by
    obtain ⟨ρ1, h1, h2⟩ := h x (List.mem_cons_self ..)
    have ih := lcGo_map (xs := xs) fun y hy => h y (List.mem_cons_of_mem _ hy)
    rw [List.map_cons, lcGo]
    simp only [h1, g_yes, h2, if_true, ih, List.map_cons]
theorem kLc_map {α : Type} {cl : Bool} {t : Tg} {e : FE} {ρ : Ev} {S : Sto} {f g : α → D} {xs : List α} {vs : List Nat} (hl : xs.length ≤ sizeLine) (h : ∀ x ∈ xs, ∃ ρ1, tgF t (.dat (f x)) (wipeE ρ vs) = some ρ1 ∧ e ρ1 S = .ok (.dat (g x)) S) : kLc cl t mYes e ρ vs (xs.map f) S = newL cl (xs.map g) S := by
  unfold kLc
  rw [List.length_map, if_pos hl, lcGo_map h]
theorem OkL.mem {many : Int} : ∀ {l : List Stt} {k : Nat}, OkL many l k → ∀ s ∈ l, s.Ok many k
  | [], _, _, s, hs => by cases hs
  | x :: r, k, h, s, hs => by
    rcases List.mem_cons.mp hs with rfl | hs
    · exact h.1.1
    · exact OkL.mem h.2 s hs
end PH

namespace PH
open PySem PySem.Spec PyProof.Rows L2
def bookF (p : Int) : List (List Stt) → Option (Int × List Int)
  | [] => none
  | b :: r => match ffL 0 [] 0 b 0 with
    | .fault q _ => some (p, q)
    | .okk _ => bookF (p + 1) r
end PH

namespace PH
open PySem PySem.Spec PyProof PyProof.Rows L2
mutual
/-- the height -/
def D.ht : D → Nat
  | .lst xs => D.hts xs + 1
  | .tup xs => D.hts xs + 1
  | _ => 0
def D.hts : List D → Nat
  | [] => 0
  | x :: r => max (D.ht x) (D.hts r)
end
mutual
/-- no instances, no dicts; texts that may be compared -/
def D.Pl : D → Prop
  | .lst xs => xs.length ≤ 1000 ∧ D.Pls xs
  | .tup xs => xs.length ≤ 1000 ∧ D.Pls xs
  | .str x => PyData.strOk x = true
  | .ins _ _ _ => False
  | .dct => False
  | _ => True
def D.Pls : List D → Prop
  | [] => True
  | x :: r => D.Pl x ∧ D.Pls r
end
mutual
theorem pl_py : ∀ d : D, d.Pl → ∃ p, d.py = some p ∧ p.canLay0 = true ∧ p.depth = d.ht
  | .non, _ => ⟨_, rfl, rfl, rfl⟩
  | .bl b, _ => ⟨_, rfl, rfl, rfl⟩
  | .int i, _ => ⟨_, rfl, rfl, rfl⟩
  | .str x, h => ⟨_, rfl, h, rfl⟩
  | .lst xs, h => by
    obtain ⟨ps, e1, e2, e3⟩ := pls_py xs h.2
    refine ⟨.list ps, ?_, e2, ?_⟩
    · simp only [D.py, e1]
    · simp only [PyData.depth, D.ht, e3]
  | .tup xs, h => by
    obtain ⟨ps, e1, e2, e3⟩ := pls_py xs h.2
    refine ⟨.tuple ps, ?_, e2, ?_⟩
    · simp only [D.py, e1]
    · simp only [PyData.depth, D.ht, e3]
  | .ins _ _ _, h => h.elim
  | .dct, h => h.elim
theorem pls_py : ∀ ds : List D, D.Pls ds → ∃ ps, D.pys ds = some ps ∧ PyData.canLayAll0 ps = true ∧ PyData.depthAll ps = D.hts ds
  | [], _ => ⟨_, rfl, rfl, rfl⟩
  | d :: r, h => by
    obtain ⟨p, e1, e2, e3⟩ := pl_py d h.1
    obtain ⟨ps, f1, f2, f3⟩ := pls_py r h.2
    refine ⟨p :: ps, ?_, ?_, ?_⟩
    · simp only [D.pys, e1, f1]
    · simp only [PyData.canLayAll0, e2, f2, Bool.and_self]
    · simp only [PyData.depthAll, D.hts, e3, f3]
end
theorem pl_shaped {d : D} {p : PyData} (h : d.Pl) (hd : d.ht ≤ 64) (e : d.py = some p) : SeqAt.shaped p = true := by
  obtain ⟨p', e1, e2, e3⟩ := pl_py d h
  rw [e] at e1
  cases e1
  unfold SeqAt.shaped
  rw [e2, e3, decide_eq_true hd]
  rfl
mutual
theorem Stt.plain {many : Int} : ∀ (s : Stt) (k : Nat), s.Ok many k → s.d.Pl ∧ s.d.ht ≤ 3 * k + 1
  | .cmd c, k, h => by cases c <;> exact ⟨⟨by simp, by simp only [D.Pl, D.Pls, and_true]; decide +kernel⟩, by simp [Stt.d, Cmd.d, D.ht, D.hts]⟩
  | .fin w, k, h => ⟨⟨by simp, by simp only [D.Pl, D.Pls, and_true]; decide +kernel⟩, by simp [Stt.d, D.ht, D.hts]⟩
  | .bad, k, h => ⟨⟨by simp, by simp only [D.Pl, D.Pls, and_true]; decide +kernel⟩, by simp [Stt.d, D.ht, D.hts]⟩
  | .odd x, k, h => h.elim
  | .keep b, k, h => by
    obtain ⟨h1, h2⟩ := dsOf_plain b (k - 1) h.2
    have l1 := h.2.len
    have := h.1
    exact ⟨⟨by simp, by show PyData.strOk _ = true; decide +kernel, ⟨by rw [dsOf_len]; omega, h1⟩, trivial⟩, by simp [Stt.d, D.ht, D.hts]; omega⟩
  | .again b, k, h => by
    obtain ⟨h1, h2⟩ := dsOf_plain b (k - 1) h.2
    have l1 := h.2.len
    have := h.1
    exact ⟨⟨by simp, by show PyData.strOk _ = true; decide +kernel, ⟨by rw [dsOf_len]; omega, h1⟩, trivial⟩, by simp [Stt.d, D.ht, D.hts]; omega⟩
  | .either a b, k, h => by
    obtain ⟨h1, h2⟩ := dsOf_plain a (k - 1) h.2.1
    obtain ⟨h3, h4⟩ := dsOf_plain b (k - 1) h.2.2
    have l1 := h.2.1.len
    have l2 := h.2.2.len
    have := h.1
    exact ⟨⟨by simp, by show PyData.strOk _ = true; decide +kernel, ⟨by rw [dsOf_len]; omega, h1⟩, ⟨by rw [dsOf_len]; omega, h3⟩, trivial⟩, by simp [Stt.d, D.ht, D.hts]; omega⟩
  | .call g f a b, k, h => by
    obtain ⟨h1, h2⟩ := dsOf_plain a (k - 1) h.2.1
    obtain ⟨h3, h4⟩ := dsOf_plain b (k - 1) h.2.2
    have l1 := h.2.1.len
    have l2 := h.2.2.len
    have := h.1.1
    exact ⟨⟨by simp, by show PyData.strOk _ = true; decide +kernel, trivial, trivial, ⟨by simp, ⟨by rw [dsOf_len]; omega, h1⟩, ⟨by rw [dsOf_len]; omega, h3⟩, trivial⟩, trivial⟩, by simp [Stt.d, D.ht, D.hts]; omega⟩
theorem dsOf_plain {many : Int} : ∀ (l : List Stt) (k : Nat), OkL many l k → D.Pls (dsOf l) ∧ D.hts (dsOf l) ≤ 3 * k + 1
  | [], k, _ => ⟨trivial, by simp [dsOf, D.hts]⟩
  | s :: r, k, h => by
    obtain ⟨h1, h2⟩ := Stt.plain s k h.1.1
    obtain ⟨h3, h4⟩ := dsOf_plain r k h.2
    exact ⟨⟨h1, h3⟩, by simp [dsOf, D.hts]; omega⟩
end
end PH

namespace PH
open PySem PySem.Spec PyProof PyProof.Rows L2
theorem rng_cons {lo : Int} {n : Nat} : rngD lo (n + 1) = .int lo :: rngD (lo + 1) n := by
  unfold rngD
  rw [List.range_succ_eq_map, List.map_cons, List.map_map]
  congr 1
  · simp
  · apply List.map_congr_left
    intro k _
    simp only [Function.comp]
    congr 1
    omega
end PH

namespace PH
open PySem PySem.Spec PyProof PyProof.Rows L2
theorem cut_ints {ns : List Int} {lo hi : Option Int} : ∃ ms : List Int, cutD (ns.map D.int) lo hi = ms.map D.int ∧ ms.length ≤ ns.length := by
  refine ⟨(ns.drop (HT.sIx (ns.map D.int).length 0 lo)).take (HT.sIx (ns.map D.int).length (ns.map D.int).length hi - HT.sIx (ns.map D.int).length 0 lo), ?_, ?_⟩
  · simp only [cutD, List.map_take, List.map_drop]
  · simp; omega
theorem pool_ok {ns : List Int} {S : Sto} (hn : ns.length ≤ 63) : ∃ ks : List Int, m_L_pool [.scr ns] S = .ok (.cel S.length) (S ++ [PL ks]) ∧ 2 ≤ ks.length := by
  obtain ⟨ms, e, hl⟩ := cut_ints (ns := ns) (lo := none) (hi := some 63)
  rw [show m_L_pool [.scr ns] S = ofOut (b_L_pool [some (.scr ns), none] S) from rfl]
  unfold b_L_pool
  simp (config := { implicitDefEqProofs := false }) only [e, EV0, EV1, EV2, List.set_cons_zero, List.set_cons_succ, Bool.not_true, Bool.not_false, eq_self, if_true, if_false, Bool.true_or, Bool.false_or, Bool.or_true, Bool.or_false, Bool.and_true, Bool.true_and, Bool.and_false, Bool.false_and, List.set_set, List.length_cons, List.length_nil, beq_self_eq_true, Bool.false_eq_true, lk, isTy, fIsi, fIsi2, kindOf, wipeE, decide_true, decide_false, Int.reduceEq, Int.reduceLT, Int.reduceLE, Int.reduceSub, Int.reduceAdd, Int.reduceNeg, Int.reduceToNat, Int.reduceNe, Nat.reduceAdd, Nat.reduceLT, Nat.reduceLeDiff, String.reduceEq, String.reduceBEq]
  rw [kLc_map (g := D.int) (sz (by omega)) fun i hi => ⟨_, rfl, ?_⟩]
  · cases ms with
    | nil => 
      refine ⟨[0, 0], ?_, by simp⟩
      simp (config := { implicitDefEqProofs := false }) only [List.map_nil, List.isEmpty_nil, g_addL (show [D.int 0].length + [D.int 0].length ≤ sizeLine from sz (by simp)), EV0, EV1, EV2, List.set_cons_zero, List.set_cons_succ, Bool.not_true, Bool.not_false, eq_self, if_true, if_false, Bool.true_or, Bool.false_or, Bool.or_true, Bool.or_false, Bool.and_true, Bool.true_and, Bool.and_false, Bool.false_and, List.set_set, List.length_cons, List.length_nil, beq_self_eq_true, Bool.false_eq_true, lk, isTy, fIsi, fIsi2, kindOf, wipeE, decide_true, decide_false, Int.reduceEq, Int.reduceLT, Int.reduceLE, Int.reduceSub, Int.reduceAdd, Int.reduceNeg, Int.reduceToNat, Int.reduceNe, Nat.reduceAdd, Nat.reduceLT, Nat.reduceLeDiff, String.reduceEq, String.reduceBEq]
      rfl
    | cons i r => 
      refine ⟨0 :: i :: r, ?_, by simp⟩
      simp (config := { implicitDefEqProofs := false }) only [List.map_cons, List.isEmpty_cons, g_addL (show [D.int 0].length + (D.int i :: r.map D.int).length ≤ sizeLine from sz (by simp at *; omega)), EV0, EV1, EV2, List.set_cons_zero, List.set_cons_succ, Bool.not_true, Bool.not_false, eq_self, if_true, if_false, Bool.true_or, Bool.false_or, Bool.or_true, Bool.or_false, Bool.and_true, Bool.true_and, Bool.and_false, Bool.false_and, List.set_set, List.length_cons, List.length_nil, beq_self_eq_true, Bool.false_eq_true, lk, isTy, fIsi, fIsi2, kindOf, wipeE, decide_true, decide_false, Int.reduceEq, Int.reduceLT, Int.reduceLE, Int.reduceSub, Int.reduceAdd, Int.reduceNeg, Int.reduceToNat, Int.reduceNe, Nat.reduceAdd, Nat.reduceLT, Nat.reduceLeDiff, String.reduceEq, String.reduceBEq]
      rfl
  · simp (config := { implicitDefEqProofs := false }) only [EV0, EV1, EV2, List.set_cons_zero, List.set_cons_succ, Bool.not_true, Bool.not_false, eq_self, if_true, if_false, Bool.true_or, Bool.false_or, Bool.or_true, Bool.or_false, Bool.and_true, Bool.true_and, Bool.and_false, Bool.false_and, List.set_set, List.length_cons, List.length_nil, beq_self_eq_true, Bool.false_eq_true, lk, isTy, fIsi, fIsi2, kindOf, wipeE, decide_true, decide_false, Int.reduceEq, Int.reduceLT, Int.reduceLE, Int.reduceSub, Int.reduceAdd, Int.reduceNeg, Int.reduceToNat, Int.reduceNe, Nat.reduceAdd, Nat.reduceLT, Nat.reduceLeDiff, String.reduceEq, String.reduceBEq]
theorem trunc0 {T : Sto} {d : D} : trunc 0 (.ok (.dat d) T) = .ok (.dat d) [] := by simp [trunc, Vl.below]
end PH

namespace PH
open PySem PySem.Spec PyProof PyProof.Rows L2
def Sam (Z : List Nat) (S S' : Sto) : Prop := S'.length = S.length ∧ ∀ i : Nat, i ∉ Z → S'[i]? = S[i]?
theorem Sam.refl {Z : List Nat} {S : Sto} : Sam Z S S := ⟨rfl, fun _ _ => rfl⟩
theorem Sam.trans {Z : List Nat} {S S1 S2 : Sto} (a : Sam Z S S1) (b : Sam Z S1 S2) : Sam Z S S2 := ⟨by rw [b.1, a.1], fun i h => by rw [b.2 i h, a.2 i h]⟩
theorem Sam.set {Z : List Nat} {S : Sto} {k : Nat} {x : Cell} (h : k ∈ Z) : Sam Z S (S.set k x) := ⟨by simp, fun i hi => by
  rw [List.getElem?_set, if_neg (show ¬ k = i from fun e => hi (by rw [← e]; exact h))]⟩
section
variable {p q c N : Nat} {many r l : Int} {S : Sto}
theorem set_ne {S : Sto} {i j : Nat} {x : Cell} (h : i ≠ j) : (S.set i x)[j]? = S[j]? := by rw [List.getElem?_set, if_neg h]
end
section
variable {S : Sto} {cl : Bool} {a b c d e f g h i j : D}
end
end PH

namespace PH
open PySem PySem.Spec PyProof PyProof.Rows L2
mutual
def Stt.Gd (many : Int) : Stt → Nat → Prop
  | .cmd c, _ => c.Ok
  | .fin w, _ => 0 ≤ w ∧ w ≤ 1
  | .keep b, n => 0 < n ∧ GdL many b (n - 1)
  | .again b, n => 0 < n ∧ GdL many b (n - 1)
  | .either a b, n => 0 < n ∧ GdL many a (n - 1) ∧ GdL many b (n - 1)
  | .call g _ a b, n => (0 < n ∧ 0 ≤ g ∧ g < many) ∧ GdL many a (n - 1) ∧ GdL many b (n - 1)
  | .bad, _ => False
  | .odd _, _ => False
def GdL (many : Int) : List Stt → Nat → Prop
  | [], _ => True
  | s :: r, n => s.Gd many n ∧ GdL many r n
end
mutual
def Stt.size : Stt → Nat
  | .keep b => sizeL b + 1
  | .again b => sizeL b + 1
  | .either a b => sizeL a + sizeL b + 1
  | .call _ _ a b => sizeL a + sizeL b + 1
  | _ => 1
def sizeL : List Stt → Nat
  | [] => 0
  | s :: r => s.size + sizeL r
end
theorem size_pos (s : Stt) : 1 ≤ s.size := by cases s <;> simp [Stt.size]
theorem sizeL_len : ∀ l : List Stt, l.length ≤ sizeL l
  | [] => Nat.le_refl _
  | s :: r => by have := sizeL_len r; have := size_pos s; simp [sizeL]; omega
theorem GdL.app {many : Int} : ∀ {l m : List Stt} {n : Nat}, GdL many l n → GdL many m n → GdL many (l ++ m) n
  | [], m, n, _, h => h
  | s :: r, m, n, h, h' => ⟨h.1, GdL.app h.2 h'⟩
mutual
theorem Stt.Gd.ok {many : Int} : ∀ {s : Stt} {n : Nat}, s.Gd many n → s.size ≤ 11 → s.Ok many n
  | .cmd c, n, h, _ => h
  | .fin w, n, h, _ => h
  | .keep b, n, h, hs => ⟨h.1, GdL.ok h.2 (by simp [Stt.size] at hs; omega)⟩
  | .again b, n, h, hs => ⟨h.1, GdL.ok h.2 (by simp [Stt.size] at hs; omega)⟩
  | .either a b, n, h, hs => ⟨h.1, GdL.ok h.2.1 (by simp [Stt.size] at hs; omega), GdL.ok h.2.2 (by simp [Stt.size] at hs; omega)⟩
  | .call g _ a b, n, h, hs => ⟨h.1, GdL.ok h.2.1 (by simp [Stt.size] at hs; omega), GdL.ok h.2.2 (by simp [Stt.size] at hs; omega)⟩
  | .bad, n, h, _ => h.elim
  | .odd _, n, h, _ => h.elim
theorem GdL.ok {many : Int} : ∀ {l : List Stt} {n : Nat}, GdL many l n → sizeL l ≤ 10 → OkL many l n
  | [], n, _, _ => trivial
  | s :: r, n, h, hs => by
    have := sizeL_len r
    have := size_pos s
    simp only [sizeL] at hs
    exact ⟨⟨Stt.Gd.ok h.1 (by omega), by omega⟩, GdL.ok h.2 (by omega)⟩
end
mutual
theorem ffS_good {many : Int} : ∀ {s : Stt} {n : Nat} {lv met : Int} {here : List Int}, s.Gd many n → 0 ≤ lv → lv + n ≤ 3 → s.size ≤ 9 → met + s.size ≤ 13 → 0 ≤ met → ffS lv here s met = .okk (met + s.size - 1)
  | .cmd c, n, lv, met, here, h, h0, h3, h9, h12, hm => by simp [ffS, Stt.size]
  | .fin c, n, lv, met, here, h, h0, h3, h9, h12, hm => by simp [ffS, Stt.size]
  | .bad, n, lv, met, here, h, h0, h3, h9, h12, hm => h.elim
  | .odd _, n, lv, met, here, h, h0, h3, h9, h12, hm => h.elim
  | .keep b, n, lv, met, here, h, h0, h3, h9, h12, hm => by
    have := h.1
    simp only [Stt.size] at h9 h12
    rw [ffS, ffL_good (n := n - 1) h.2 (by omega) (by omega) (by omega) (by omega) hm (by omega), Stt.size]
    congr 1
    omega
  | .again b, n, lv, met, here, h, h0, h3, h9, h12, hm => by
    have := h.1
    simp only [Stt.size] at h9 h12
    rw [ffS, ffL_good (n := n - 1) h.2 (by omega) (by omega) (by omega) (by omega) hm (by omega), Stt.size]
    congr 1
    omega
  | .either a b, n, lv, met, here, h, h0, h3, h9, h12, hm => by
    have := h.1
    simp only [Stt.size] at h9 h12
    rw [ffS, ffL_good (n := n - 1) h.2.1 (by omega) (by omega) (by omega) (by omega) hm (by omega), FR.then_okk, ffL_good (n := n - 1) h.2.2 (by omega) (by omega) (by omega) (by omega) (by omega) (by omega), Stt.size]
    congr 1
    omega
  | .call g f a b, n, lv, met, here, h, h0, h3, h9, h12, hm => by
    have := h.1.1
    simp only [Stt.size] at h9 h12
    rw [ffS, ffL_good (n := n - 1) h.2.1 (by omega) (by omega) (by omega) (by omega) hm (by omega), FR.then_okk, ffL_good (n := n - 1) h.2.2 (by omega) (by omega) (by omega) (by omega) (by omega) (by omega), Stt.size]
    congr 1
    omega
theorem ffL_good {many : Int} : ∀ {l : List Stt} {n : Nat} {lv at_ met : Int} {path : List Int}, GdL many l n → 0 ≤ lv → lv + n ≤ 3 → at_ + sizeL l ≤ 8 → met + sizeL l ≤ 12 → 0 ≤ met → 0 ≤ at_ → ffL lv path at_ l met = .okk (met + sizeL l)
  | [], n, lv, at_, met, path, h, h0, h3, h8, h12, hm, ha => by simp [ffL, sizeL]
  | s :: r, n, lv, at_, met, path, h, h0, h3, h8, h12, hm, ha => by
    have hp := size_pos s
    simp only [sizeL] at h8 h12
    have hw : s.wf lv = true := by
      cases s with
      | cmd c => rfl
      | fin c => rfl
      | bad => exact h.1.elim
      | odd x => exact h.1.elim
      | keep b => have := h.1.1; simp [Stt.wf]; omega
      | again b => have := h.1.1; simp [Stt.wf]; omega
      | either a b => have := h.1.1; simp [Stt.wf]; omega
      | call g f a b => have := h.1.1.1; simp [Stt.wf]; omega
    rw [ffL, if_neg (by rintro (e | e | e) <;> first | omega | (rw [hw] at e; cases e)), ffS_good (n := n) h.1 h0 h3 (by omega) (by omega) (by omega), FR.then_okk, ffL_good (n := n) h.2 h0 h3 (by omega) (by omega) (by omega) (by omega), sizeL]
    congr 1
    omega
end
section
variable {p q c N : Nat} {many : Int}
end
end PH

namespace PH
open PySem PySem.Spec PyProof PyProof.Rows L2
end PH

namespace PH
open PySem PySem.Spec PyProof PyProof.Rows L2
end PH

namespace PH
open PySem PySem.Spec PyProof PyProof.Rows L2
structure Bk (p n N : Nat) (S0 : Sto) (many l : Int) (bs : List (List Stt)) (T : Sto) : Prop where
  ls : LS T
  n2 : 2 ≤ N
  hp : p < n
  len : n + 2 ≤ T.length
  pool : ∃ ks, T[p]? = some (PL ks) ∧ ks.length = N
  call : T[n]? = some (PL [l, many])
  bod : T[n + 1]? = some (.lst (bls bs))
  old : ∀ i, i < n → i ≠ p → T[i]? = S0[i]?
/-- good bodies -/
structure Good (bs : List (List Stt)) : Prop where
  l1 : 1 ≤ bs.length
  l3 : bs.length ≤ 3
  gd : ∀ b ∈ bs, GdL (bs.length : Int) b 3 ∧ sizeL b ≤ 8
theorem Good.ok {bs : List (List Stt)} (h : Good bs) : ∀ b ∈ bs, OkL (bs.length : Int) b 3 := fun b hb => (h.gd b hb).1.ok (by have := (h.gd b hb).2; omega)
theorem good_none : ∀ {bs : List (List Stt)} {p : Int} {many : Int}, (∀ b ∈ bs, GdL many b 3 ∧ sizeL b ≤ 8) → bookF p bs = none
  | [], p, many, _ => rfl
  | b :: r, p, many, h => by
    obtain ⟨h1, h2⟩ := h b (List.mem_cons_self ..)
    rw [bookF, ffL_good (n := 3) h1 (by omega) (by omega) (by omega) (by omega) (by omega) (by omega)]
    exact good_none fun b hb => h b (List.mem_cons_of_mem _ hb)
theorem Good.none {bs : List (List Stt)} (h : Good bs) : bookF 0 bs = none := good_none h.gd
end PH

namespace PH
open PySem PySem.Spec PyProof PyProof.Rows L2
inductive Bd where
  | blk (b : List Stt) | no (x : D)
def Bd.d : Bd → D
  | .blk b => .lst (dsOf b)
  | .no x => x
/-- no list -/
def NoL (x : D) : Prop := ∀ S : Sto, fIsi "list" (.dat x) S = .ok (.dat (.bl false)) S
def Bd.Ok (many : Int) : Bd → Prop
  | .blk b => ∃ k, OkLx many b k
  | .no x => NoL x
def Bd.bad : Bd → Option (List Int)
  | .blk b => match ffL 0 [] 0 b 0 with
    | .fault q _ => some q
    | .okk _ => none
  | .no _ => some []
mutual
theorem Stt.Gd.mono {many many' : Int} (hm : many ≤ many') : ∀ {s : Stt} {n : Nat}, s.Gd many n → s.Gd many' n
  | .cmd c, n, h => h
  | .fin w, n, h => h
  | .keep b, n, h => ⟨h.1, GdL.mono hm h.2⟩
  | .again b, n, h => ⟨h.1, GdL.mono hm h.2⟩
  | .either a b, n, h => ⟨h.1, GdL.mono hm h.2.1, GdL.mono hm h.2.2⟩
  | .call g _ a b, n, h => ⟨⟨h.1.1, h.1.2.1, Int.lt_of_lt_of_le h.1.2.2 hm⟩, GdL.mono hm h.2.1, GdL.mono hm h.2.2⟩
  | .bad, n, h => h.elim
  | .odd _, n, h => h.elim
theorem GdL.mono {many many' : Int} (hm : many ≤ many') : ∀ {l : List Stt} {n : Nat}, GdL many l n → GdL many' l n
  | [], n, _ => trivial
  | s :: r, n, h => ⟨Stt.Gd.mono hm h.1, GdL.mono hm h.2⟩
end
theorem Good.more {bs : List (List Stt)} (h : Good bs) (hl : bs.length < 3) : Good (bs ++ [[]]) := by
  have := h.l1
  refine ⟨by simp, by simp; omega, fun b hb => ?_⟩
  rcases List.mem_append.mp hb with hb | hb
  · exact ⟨(h.gd b hb).1.mono (by simp; omega), (h.gd b hb).2⟩
  · rw [List.mem_singleton.mp hb]
    exact ⟨trivial, by simp [sizeL]⟩
end PH

namespace PH
open PySem PySem.Spec PyProof PyProof.Rows L2
/-- T goes on S -/
structure On (S T : Sto) : Prop where
  ls : LS T
  len : S.length ≤ T.length
  tak : T.take S.length = S
theorem On.refl {S : Sto} (h : LS S) : On S S := ⟨h, Nat.le_refl _, by simp⟩
theorem On.app {S T : Sto} {ds : List D} (h : On S T) : On S (T ++ [.lst ds]) := ⟨h.ls.app, by have := h.len; simp; omega, by rw [List.take_append_of_le_length h.len]; exact h.tak⟩
theorem take_set {T : Sto} {n c : Nat} {x : Cell} (h : n ≤ c) : (T.set c x).take n = T.take n := by
  apply List.ext_getElem?
  intro i
  rw [List.getElem?_take, List.getElem?_take]
  by_cases hi : i < n
  · rw [if_pos hi, if_pos hi, set_ne (by omega)]
  · rw [if_neg hi, if_neg hi]
theorem On.set {S T : Sto} {c : Nat} {ds : List D} (h : On S T) (hc : S.length ≤ c) : On S (T.set c (.lst ds)) := ⟨h.ls.set, by have := h.len; simp; omega, by rw [take_set hc]; exact h.tak⟩
theorem On.kill {S T : Sto} {c : Nat} (h : On S T) (hc : S.length ≤ c) : On S (T.set c .dead) := ⟨fun x hx n => by
  rcases List.mem_or_eq_of_mem_set hx with hx | hx
  · exact h.ls x hx n
  · rw [hx]; rfl, by have := h.len; simp; omega, by rw [take_set hc]; exact h.tak⟩
theorem On.trunc {S T : Sto} {d : D} (h : On S T) (ls : LS S) : PH.trunc S.length (.ok (.dat d) T) = .ok (.dat d) S := by
  dsimp only [PH.trunc]
  rw [h.tak]
  have : (S.all fun c => c.below S.length) = true := List.all_eq_true.mpr fun c hc => ls c hc _
  simp only [Vl.below, this, Bool.and_self, if_true]
theorem On.trans {S T U : Sto} (h : On S T) (k : On T U) : On S U := ⟨k.ls, by have := h.len; have := k.len; omega, by
  have e := k.tak
  have : U.take S.length = (U.take T.length).take S.length := by rw [List.take_take, Nat.min_eq_left h.len]
  rw [this, e]; exact h.tak⟩
end PH

namespace PH
open PySem PySem.Spec PyProof PyProof.Rows L2
end PH

namespace PH
open PySem PySem.Spec PyProof PyProof.Rows L2
theorem GdL.okTop {many : Int} : ∀ {l : List Stt} {n : Nat}, GdL many l n → (∀ s ∈ l, s.size ≤ 9) → l.length ≤ 10 → OkL many l n
  | [], n, _, _, _ => trivial
  | s :: r, n, h, h9, hl => by
    simp only [List.length_cons] at hl
    exact ⟨⟨Stt.Gd.ok h.1 (by have := h9 s (List.mem_cons_self ..); omega), by omega⟩, GdL.okTop h.2 (fun s hs => h9 s (List.mem_cons_of_mem _ hs)) (by omega)⟩
structure Good2 (bs : List (List Stt)) : Prop where
  l1 : 1 ≤ bs.length
  l3 : bs.length ≤ 3
  gd : ∀ b ∈ bs, GdL (bs.length : Int) b 3 ∧ b.length ≤ 8 ∧ sizeL b ≤ 12 ∧ ∀ s ∈ b, s.size ≤ 9
theorem size_mem : ∀ {l : List Stt} {s : Stt}, s ∈ l → s.size ≤ sizeL l
  | x :: r, s, h => by
    rcases List.mem_cons.mp h with rfl | h
    · simp [sizeL]
    · have := size_mem h; simp [sizeL]; omega
theorem Good.two {bs : List (List Stt)} (h : Good bs) : Good2 bs := ⟨h.l1, h.l3, fun b hb => by
  obtain ⟨h1, h2⟩ := h.gd b hb
  have := sizeL_len b
  exact ⟨h1, by omega, by omega, fun s hs => by have := size_mem hs; omega⟩⟩
theorem Good2.ok {bs : List (List Stt)} (h : Good2 bs) : ∀ b ∈ bs, OkL (bs.length : Int) b 3 := fun b hb => by
  obtain ⟨h1, h2, h3, h4⟩ := h.gd b hb
  exact h1.okTop h4 (by omega)
def Cmd.word : Cmd → Str
  | .go _ => "go"
  | .turn _ => "turn"
  | .mirror => "mirror"
  | .scale _ => "scale"
  | .aim _ _ => "aim"
  | .place _ _ => "place"
  | .mark => "mark"
  | .ret => "return"
  | .exch => "exchange"
def Stt.word : Stt → Str
  | .cmd c => c.word
  | .fin _ => "end"
  | .keep _ => "keep"
  | .again _ => "again"
  | .either _ _ => "either"
  | .call _ _ _ _ => "call"
  | _ => "bad"
end PH

namespace PH
open PySem PySem.Spec PyProof PyProof.Rows L2
mutual
def repS (x : D) (k : Nat) : Stt → Stt
  | .keep b => .keep (repL x k b)
  | .again b => .again (repL x k b)
  | .either a b => if k < sizeL a then .either (repL x k a) b else .either a (repL x (k - sizeL a) b)
  | .call g f a b => if k < sizeL a then .call g f (repL x k a) b else .call g f a (repL x (k - sizeL a) b)
  | s => s
def repL (x : D) (k : Nat) : List Stt → List Stt
  | [] => []
  | s :: r => if k = 0 then .odd x :: r else if k < s.size then repS x (k - 1) s :: r else s :: repL x (k - s.size) r
end
mutual
/-- good, or no statements -/
def Stt.Gx (many : Int) : Stt → Nat → Prop
  | .cmd c, _ => c.Ok
  | .fin w, _ => 0 ≤ w ∧ w ≤ 1
  | .keep b, n => 0 < n ∧ GxL many b (n - 1)
  | .again b, n => 0 < n ∧ GxL many b (n - 1)
  | .either a b, n => 0 < n ∧ GxL many a (n - 1) ∧ GxL many b (n - 1)
  | .call g _ a b, n => (0 < n ∧ 0 ≤ g ∧ g < many) ∧ GxL many a (n - 1) ∧ GxL many b (n - 1)
  | .bad, _ => False
  | .odd x, _ => WfNo many x
def GxL (many : Int) : List Stt → Nat → Prop
  | [], _ => True
  | s :: r, n => s.Gx many n ∧ GxL many r n
end
mutual
theorem Stt.Gd.gx {many : Int} : ∀ {s : Stt} {n : Nat}, s.Gd many n → s.Gx many n
  | .cmd c, _, h => h
  | .fin w, _, h => h
  | .keep b, n, h => ⟨h.1, GdL.gx h.2⟩
  | .again b, n, h => ⟨h.1, GdL.gx h.2⟩
  | .either a b, n, h => ⟨h.1, GdL.gx h.2.1, GdL.gx h.2.2⟩
  | .call g _ a b, n, h => ⟨h.1, GdL.gx h.2.1, GdL.gx h.2.2⟩
  | .bad, _, h => h.elim
  | .odd x, _, h => h.elim
theorem GdL.gx {many : Int} : ∀ {l : List Stt} {n : Nat}, GdL many l n → GxL many l n
  | [], _, _ => trivial
  | s :: r, n, h => ⟨h.1.gx, GdL.gx h.2⟩
end
mutual
theorem Stt.Gx.x {many : Int} : ∀ {s : Stt} {n : Nat}, s.Gx many n → s.Okx many n
  | .cmd c, _, h => h
  | .fin w, _, h => h
  | .keep b, n, h => ⟨h.1, GxL.x h.2⟩
  | .again b, n, h => ⟨h.1, GxL.x h.2⟩
  | .either a b, n, h => ⟨h.1, GxL.x h.2.1, GxL.x h.2.2⟩
  | .call g _ a b, n, h => ⟨h.1, GxL.x h.2.1, GxL.x h.2.2⟩
  | .bad, _, h => h.elim
  | .odd x, _, h => h
theorem GxL.x {many : Int} : ∀ {l : List Stt} {n : Nat}, GxL many l n → OkLx many l n
  | [], _, _ => trivial
  | s :: r, n, h => ⟨h.1.x, GxL.x h.2⟩
end
def sg (p : List Int × Stt) : List Int × Bool := (p.1, p.2.isOdd)
def preI (i : Int) (p : List Int × Bool) : List Int × Bool := (i :: p.1, p.2)
/-- P' is P up to k; at k stands what is new -/
def Upto (P P' : List (List Int × Bool)) (k : Nat) : Prop := ∃ (π : List Int) (o : Bool) (rest : List (List Int × Bool)), P[k]? = some (π, o) ∧ P' = P.take k ++ (π, true) :: rest
theorem Upto.map {P P' : List (List Int × Bool)} {k : Nat} {i : Int} (h : Upto P P' k) : Upto (P.map (preI i)) (P'.map (preI i)) k := by
  obtain ⟨π, o, rest, h1, h2⟩ := h
  refine ⟨i :: π, o, rest.map (preI i), by rw [List.getElem?_map, h1]; rfl, ?_⟩
  rw [h2]
  simp [preI]
theorem Upto.left {P P' Q Q' : List (List Int × Bool)} {k : Nat} (h : Upto P P' k) : Upto (P ++ Q) (P' ++ Q') k := by
  obtain ⟨π, o, rest, h1, h2⟩ := h
  have hk := (List.getElem?_eq_some_iff.mp h1).1
  refine ⟨π, o, rest ++ Q', by rw [List.getElem?_append_left hk]; exact h1, ?_⟩
  rw [h2, List.take_append_of_le_length (by omega)]
  simp
theorem Upto.right {P Q Q' : List (List Int × Bool)} {k : Nat} (h : Upto Q Q' k) : Upto (P ++ Q) (P ++ Q') (P.length + k) := by
  obtain ⟨π, o, rest, h1, h2⟩ := h
  refine ⟨π, o, rest, by rw [List.getElem?_append_right (by omega), Nat.add_sub_cancel_left]; exact h1, ?_⟩
  rw [h2, List.take_length_add_append]
  simp
end PH

namespace PH
open PySem PySem.Spec PyProof PyProof.Rows L2
end PH

namespace PH
open PySem PySem.Spec PyProof PyProof.Rows L2
inductive Deed where
  | cmd (c : Cmd) | op | cl
def Deed.d : Deed → D
  | .cmd c => c.d
  | .op => .tup [.str "open"]
  | .cl => .tup [.str "close"]
abbrev CallS := Int × Bool × List Stt × List Stt
def csD (c : CallS) : D := (Stt.call c.1 c.2.1 c.2.2.1 c.2.2.2).d
inductive Task where
  | lst (l : List Stt) (i : Nat) | close | again (b : List Stt) | call (p : Nat) (st : Option CallS)
def Task.d : Task → D
  | .lst l i => .tup [.str "list", .lst (dsOf l), .int (i : Int)]
  | .close => .tup [.str "close"]
  | .again b => .tup [.str "again", .lst (dsOf b)]
  | .call p none => .tup [.str "call", .int (p : Int), .non]
  | .call p (some c) => .tup [.str "call", .int (p : Int), csD c]
/-- the state; stk and act: the top first -/
structure Mc where
  bs : List (List Stt)
  bits : List Int
  taken : Nat
  deeds : List Deed
  stk : List Task
  act : List (List Nat)
  ended : Int
def rvD {α : Type} (f : α → D) (l : List α) : List D := l.reverse.map f
theorem rvD_cons {α : Type} {f : α → D} {x : α} {l : List α} : rvD f (x :: l) = rvD f l ++ [f x] := by simp [rvD]
theorem rvD_len {α : Type} {f : α → D} {l : List α} : (rvD f l).length = l.length := by simp [rvD]
section
variable {S0 : Sto} {m : Mc}
end
theorem szN {n : Nat} (h : n < 10000000) : n < sizeLine := Nat.lt_trans h (by decide)
section
variable {S0 : Sto} {m : Mc}
end
/-- may it be entered -/
def Mc.free (m : Mc) (p : Nat) : Prop := ∀ a k, m.act[p]? = some (k :: a) → k ≠ m.taken
end PH

namespace PH
open PySem PySem.Spec PyProof PyProof.Rows L2
def Task.word : Task → Str
  | .lst _ _ => "list"
  | .close => "close"
  | .again _ => "again"
  | .call _ _ => "call"
theorem wl_next {mt : FT} {mb : FS} {k : Nat} {ρ ρ' : Ev} {S S' : Sto} (h1 : mt ρ S = .ok true S) (h2 : mb ρ S = .next ρ' S') : wloop mt mb (k + 1) ρ S = wloop mt mb k ρ' S' := by
  rw [wloop, h1, g_toS_ok, if_pos rfl, h2]
theorem wl_end {mt : FT} {mb : FS} {k : Nat} {ρ : Ev} {S : Sto} (h1 : mt ρ S = .ok false S) : wloop mt mb (k + 1) ρ S = .next ρ S := by
  rw [wloop, h1, g_toS_ok, if_neg (by simp)]
end PH

namespace PH
open PySem PySem.Spec PyProof PyProof.Rows L2
end PH

namespace PH
open PySem PySem.Spec PyProof PyProof.Rows L2
def OkB (many : Int) (b : List Stt) : Prop := ∃ k, OkL many b k
theorem OkL.b {many : Int} {l : List Stt} {k : Nat} (h : OkL many l k) : OkB many l := ⟨k, h⟩
end PH

namespace PH
open PySem PySem.Spec PyProof PyProof.Rows L2
def Bn (n : Nat) (i : Int) : Prop := i.natAbs < 2 ^ n
structure Pen where
  x : Int
  y : Int
  u : Int
  v : Int
  p : Int
  q : Int
def Pen.ns (z : Pen) : List Int := [z.x, z.y, z.u, z.v, z.p, z.q]
abbrev Pen.ds (z : Pen) : List D := [.int z.x, .int z.y, .int z.u, .int z.v, .int z.p, .int z.q]
abbrev Pen.d (z : Pen) : D := .tup z.ds
def turnN : Nat → Int × Int → Int × Int
  | 0, w => w
  | n + 1, w => turnN n (-w.2, w.1)
def Cmd.run : Cmd → Pen → Pen
  | .go k, z => { z with x := z.x + k * z.u, y := z.y + k * z.v }
  | .turn k, z => { z with u := (turnN k.toNat (z.u, z.v)).1, v := (turnN k.toNat (z.u, z.v)).2 }
  | .mirror, z => { z with v := -z.v }
  | .scale k, z => { z with u := k * z.u, v := k * z.v }
  | .aim a b, z => { z with u := a, v := b }
  | .place a b, z => { z with x := a, y := b }
  | .mark, z => { z with p := z.x, q := z.y }
  | .ret, z => { z with x := z.p, y := z.q }
  | .exch, z => ⟨z.p, z.q, z.u, z.v, z.x, z.y⟩
theorem mul9 {k j : Int} (h : -9 ≤ k ∧ k ≤ 9) : IntMulOk k j := mulL (by omega) (by omega)
theorem mul9r {k j : Int} (h : -9 ≤ k ∧ k ≤ 9) : IntMulOk j k := mulR (by omega) (by omega)
def dot (f : Nat → Int) : Nat → Int
  | 0 => 0
  | n + 1 => dot f n + f n
theorem Bn.mono {a b : Nat} {i : Int} (h : Bn a i) (hab : a ≤ b) : Bn b i := Nat.lt_of_lt_of_le h (Nat.pow_le_pow_right (by decide) hab)
theorem Bn.neg {a : Nat} {i : Int} (ha : Bn a i) : Bn a (-i) := by
  unfold Bn at *
  rwa [Int.natAbs_neg]
theorem Bn.zero {a : Nat} : Bn a 0 := by
  show 0 < 2 ^ a
  exact Nat.two_pow_pos a
theorem Bn.dot {a : Nat} {f : Nat → Int} : ∀ {n : Nat}, (∀ j, j < n → Bn a (f j)) → (dot f n).natAbs ≤ n * 2 ^ a
  | 0, _ => by simp [PH.dot]
  | n + 1, h => by
    have h1 := Bn.dot (n := n) fun j hj => h j (by omega)
    have h2 : (f n).natAbs < 2 ^ a := h n (by omega)
    have e : PH.dot f (n + 1) = PH.dot f n + f n := rfl
    rw [e, Nat.succ_mul]
    omega
def gt (M : List Int) (i : Nat) : Int := M.getD i 0
def imgAt (M : List Int) (z : Pen) (i : Nat) : Int := dot (fun j => gt M (7 * i + j) * gt ((1 : Int) :: z.ns) j) 7
theorem dot_congr {f g : Nat → Int} : ∀ {n : Nat}, (∀ k, k < n → f k = g k) → dot f n = dot g n
  | 0, _ => rfl
  | n + 1, h => by
    show dot f n + f n = dot g n + g n
    rw [dot_congr fun k hk => h k (by omega), h n (by omega)]
theorem dot_zero : ∀ n : Nat, dot (fun _ => 0) n = 0
  | 0 => rfl
  | n + 1 => by
    show dot (fun _ => 0) n + 0 = 0
    rw [dot_zero n]; rfl
theorem dot_add (f g : Nat → Int) : ∀ n : Nat, dot (fun k => f k + g k) n = dot f n + dot g n
  | 0 => rfl
  | n + 1 => by
    show dot (fun k => f k + g k) n + (f n + g n) = dot f n + f n + (dot g n + g n)
    rw [dot_add f g n]; omega
theorem dot_mulL (c : Int) (f : Nat → Int) : ∀ n : Nat, dot (fun k => c * f k) n = c * dot f n
  | 0 => by simp [dot]
  | n + 1 => by
    show dot (fun k => c * f k) n + c * f n = c * (dot f n + f n)
    rw [dot_mulL c f n, Int.mul_add]
theorem dot_swap (c : Nat → Int) (b : Nat → Nat → Int) (a : Nat → Int) (m : Nat) : ∀ n : Nat, dot (fun k => c k * dot (fun l => b k l * a l) m) n = dot (fun l => dot (fun k => c k * b k l) n * a l) m
  | 0 => by
    show 0 = dot (fun l => 0 * a l) m
    rw [dot_congr (g := fun _ => 0) fun k _ => Int.zero_mul _, dot_zero]
  | n + 1 => by
    show dot (fun k => c k * dot (fun l => b k l * a l) m) n + c n * dot (fun l => b n l * a l) m = dot (fun l => (dot (fun k => c k * b k l) n + c n * b n l) * a l) m
    rw [dot_swap c b a m n, ← dot_mulL, ← dot_add]
    exact dot_congr fun l _ => by rw [Int.add_mul, Int.mul_assoc]
def delta (i j : Nat) : Int := if i = j then 1 else 0
theorem dot_delta (x : Nat → Int) (j : Nat) : ∀ n : Nat, dot (fun k => x k * delta k j) n = if j < n then x j else 0
  | 0 => rfl
  | n + 1 => by
    show dot (fun k => x k * delta k j) n + x n * delta n j = _
    rw [dot_delta x j n]
    unfold delta
    by_cases h : n = j
    · subst h
      rw [if_neg (by omega), if_pos rfl, if_pos (by omega)]; omega
    · rw [if_neg h, Int.mul_zero, Int.add_zero]
      by_cases h2 : j < n
      · rw [if_pos h2, if_pos (by omega)]
      · rw [if_neg h2, if_neg (by omega)]
/-- a matrix by its numbers -/
@[irreducible] def mx (f : Nat → Nat → Int) : List Int := (List.range 49).map fun t => f (t / 7) (t % 7)
theorem mx_len (f : Nat → Nat → Int) : (mx f).length = 49 := by
  unfold mx
  simp
theorem gt_range {f : Nat → Int} {n t : Nat} (h : t < n) : gt ((List.range n).map f) t = f t := by
  unfold gt
  rw [List.getD_eq_getElem?_getD, List.getElem?_map, List.getElem?_range h]
  rfl
theorem gt_mx {f : Nat → Nat → Int} {i j : Nat} (hi : i < 7) (hj : j < 7) : gt (mx f) (7 * i + j) = f i j := by
  unfold mx
  rw [gt_range (by omega), show (7 * i + j) / 7 = i by omega, show (7 * i + j) % 7 = j by omega]
theorem mx_bd {f : Nat → Nat → Int} {a : Nat} (h : ∀ i j, i < 7 → j < 7 → Bn a (f i j)) : ∀ x ∈ mx f, Bn a x := fun x hx => by
  unfold mx at hx
  obtain ⟨t, ht, rfl⟩ := List.mem_map.mp hx
  have := List.mem_range.mp ht
  exact h _ _ (by omega) (by omega)
/-- rows put one behind another -/
def rows (f : Nat → Nat → Int) (n : Nat) : List Int := (List.range n).flatMap fun i => (List.range 7).map (f i)
theorem rows_succ (f : Nat → Nat → Int) (n : Nat) : rows f (n + 1) = rows f n ++ (List.range 7).map (f n) := by
  unfold rows
  rw [show List.range (n + 1) = List.range n ++ [n] from List.range_succ, List.flatMap_append]
  simp only [List.flatMap_cons, List.flatMap_nil, List.append_nil]
theorem rows_len (f : Nat → Nat → Int) : ∀ n, (rows f n).length = 7 * n
  | 0 => rfl
  | n + 1 => by rw [rows_succ, List.length_append, rows_len f n]; simp; omega
theorem rows_map (f : Nat → Nat → Int) : ∀ n, rows f n = (List.range (7 * n)).map fun t => f (t / 7) (t % 7)
  | 0 => rfl
  | n + 1 => by
    rw [rows_succ, rows_map f n, show 7 * (n + 1) = 7 * n + 7 by omega, List.range_add, List.map_append, List.map_map]
    congr 1
    apply List.map_congr_left
    intro j hj
    have := List.mem_range.mp hj
    show f n j = f ((7 * n + j) / 7) ((7 * n + j) % 7)
    rw [show (7 * n + j) / 7 = n by omega, show (7 * n + j) % 7 = j by omega]
theorem rows_mx (f : Nat → Nat → Int) : rows f 7 = mx f := by
  unfold mx
  exact rows_map f 7
/-- A, then B -/
def compM (A B : List Int) : List Int := mx fun i j => dot (fun k => gt B (7 * i + k) * gt A (7 * k + j)) 7
theorem compM_len (A B : List Int) : (compM A B).length = 49 := mx_len _
@[irreducible] def unitM : List Int := mx delta
theorem unit_len : unitM.length = 49 := by
  unfold unitM
  exact mx_len _
def zeroP : Pen := ⟨0, 0, 0, 0, 0, 0⟩
def unitP (j : Nat) : Pen := ⟨delta 0 j, delta 1 j, delta 2 j, delta 3 j, delta 4 j, delta 5 j⟩
/-- the numbers of the vector -/
def vc (z : Pen) (i : Nat) : Int := gt ((1 : Int) :: z.ns) i
def probeF (r : Pen → Pen) (i j : Nat) : Int := if j = 0 then vc (r zeroP) i else vc (r (unitP (j - 1))) i - vc (r zeroP) i
@[irreducible] def probeM (r : Pen → Pen) : List Int := mx (probeF r)
theorem probeM_len (r : Pen → Pen) : (probeM r).length = 49 := by
  unfold probeM
  exact mx_len _
/-- M is the matrix of r -/
def MatOf (r : Pen → Pen) (M : List Int) : Prop := M.length = 49 ∧ ∀ z i, i < 7 → vc (r z) i = imgAt M z i
theorem lt7 {j : Nat} (h : j < 7) : j = 0 ∨ j = 1 ∨ j = 2 ∨ j = 3 ∨ j = 4 ∨ j = 5 ∨ j = 6 := by omega
theorem imgAt_zero (M : List Int) (i : Nat) : imgAt M zeroP i = gt M (7 * i) := by
  simp [imgAt, dot, zeroP, Pen.ns, gt]
theorem imgAt_comp (A B : List Int) (z w : Pen) (hw : ∀ k, k < 7 → vc w k = imgAt A z k) (i : Nat) (hi : i < 7) : imgAt (compM A B) z i = imgAt B w i := by
  unfold imgAt
  rw [dot_congr (g := fun j => dot (fun k => gt B (7 * i + k) * gt A (7 * k + j)) 7 * vc z j) fun j hj => by
    unfold compM
    rw [gt_mx hi hj]
    rfl]
  rw [← dot_swap (fun k => gt B (7 * i + k)) (fun k j => gt A (7 * k + j)) (fun j => vc z j) 7 7]
  exact dot_congr fun k hk => by
    show _ * imgAt A z k = _ * vc w k
    rw [hw k hk]
theorem MatOf.comp {r s : Pen → Pen} {A B : List Int} (h : MatOf r A) (k : MatOf s B) : MatOf (fun z => s (r z)) (compM A B) := ⟨compM_len _ _, fun z i hi => by rw [k.2 _ _ hi, imgAt_comp A B z (r z) (fun l hl => h.2 _ _ hl) i hi]⟩
theorem MatOf.unit : MatOf (fun z => z) unitM := ⟨unit_len, fun z i hi => by
  unfold imgAt
  rw [dot_congr (g := fun j => vc z j * delta j i) fun j hj => by
    unfold unitM
    rw [gt_mx hi hj, Int.mul_comm]
    unfold delta
    by_cases e : i = j
    · rw [if_pos e, if_pos e.symm]; rfl
    · rw [if_neg e, if_neg fun z => e z.symm, Int.mul_zero, Int.mul_zero]]
  rw [dot_delta, if_pos hi]⟩
/-- a map whose numbers are affine in the numbers -/
theorem MatOf.of {r : Pen → Pen} (h : ∀ z i, i < 7 → vc (r z) i = dot (fun j => probeF r i j * vc z j) 7) : MatOf r (probeM r) := ⟨probeM_len r, fun z i hi => by
  rw [h z i hi]
  unfold imgAt
  exact dot_congr fun j hj => by
    unfold probeM
    rw [gt_mx hi hj]
    rfl⟩
end PH

namespace PH
open PySem PySem.Spec PyProof PyProof.Rows L2
theorem g_kAsg6 {i j k l m n : Nat} {a b c d e f : D} {ρ : Ev} {S : Sto} : kAsg (.tp [i, j, k, l, m, n]) ρ (.dat (.tup [a, b, c, d, e, f])) S = .next ((((((ρ.set i (some (.dat a))).set j (some (.dat b))).set k (some (.dat c))).set l (some (.dat d))).set m (some (.dat e))).set n (some (.dat f))) S := rfl
end PH

namespace PH
open PySem PySem.Spec PyProof PyProof.Rows L2
def twoS (S0 : Sto) (xs ys : List D) : Sto := S0 ++ [.lst xs, .lst ys]
section
variable {S0 : Sto} {xs ys : List D}
theorem two_0 : (twoS S0 xs ys)[S0.length]? = some (.lst xs) := by simp [twoS]
theorem two_1 : (twoS S0 xs ys)[S0.length + 1]? = some (.lst ys) := by simp [twoS]
theorem two_s0 {c : List D} : (twoS S0 xs ys).set S0.length (.lst c) = twoS S0 c ys := by simp [twoS]
theorem two_s1 {c : List D} : (twoS S0 xs ys).set (S0.length + 1) (.lst c) = twoS S0 xs c := by
  rw [twoS, List.set_append_right _ _ (by omega), show S0.length + 1 - S0.length = 1 by omega]; rfl
theorem two_take {c : Cell} : ((twoS S0 xs ys).set S0.length c).take S0.length = S0 := by simp [twoS]
theorem two_app0 {ρ : Ev} {b : FE} {d : D} (F : xs.length < 5000000) (hb : b ρ (twoS S0 xs ys) = .ok (.dat d) (twoS S0 xs ys)) : kApp b ρ (.cel S0.length) (twoS S0 xs ys) = .ok (.dat .non) (twoS S0 (xs ++ [d]) ys) := by
  rw [g_kApp two_0, hb, g_bind_ok, g_fApp two_0 (szN (by omega)), two_s0]
theorem two_app1 {ρ : Ev} {b : FE} {d : D} (F : ys.length < 5000000) (hb : b ρ (twoS S0 xs ys) = .ok (.dat d) (twoS S0 xs ys)) : kApp b ρ (.cel (S0.length + 1)) (twoS S0 xs ys) = .ok (.dat .non) (twoS S0 xs (ys ++ [d])) := by
  rw [g_kApp two_1, hb, g_bind_ok, g_fApp two_1 (szN (by omega)), two_s1]
theorem two_pop1 {d : D} : fPop (.cel (S0.length + 1)) (twoS S0 xs (ys ++ [d])) = .ok (.dat d) (twoS S0 xs ys) := by
  simp only [fPop, two_1]
  rw [show (ys ++ [d])[(ys ++ [d]).length - 1]? = some d by simp]
  dsimp only
  rw [List.dropLast_concat, two_s1]
theorem two_new : S0 ++ [.lst xs] ++ [.lst ys] = twoS S0 xs ys := by simp [twoS]
end
theorem cut_04 {a b c d e f : D} : cutD [a, b, c, d, e, f] none (some 4) = [a, b, c, d] := by
  unfold cutD
  rw [HT.sIx_none, show ((4 : Int)) = ((4 : Nat) : Int) from rfl, HT.sIx_nat]
  simp
theorem cut_4 {a b c d e f : D} : cutD [a, b, c, d, e, f] (some 4) none = [e, f] := by
  unfold cutD
  rw [HT.sIx_none, show ((4 : Int)) = ((4 : Nat) : Int) from rfl, HT.sIx_nat]
  simp
structure Ps where
  pens : List Pen
  z : Pen
  stk : List Pen
def keepP (t z : Pen) : Pen := ⟨t.x, t.y, t.u, t.v, z.p, z.q⟩
def deedP : Deed → Ps → Option Ps
  | .cmd c, s => some ⟨s.pens ++ [c.run s.z], c.run s.z, s.stk⟩
  | .op, s => some ⟨s.pens, s.z, s.z :: s.stk⟩
  | .cl, s => match s.stk with
    | [] => none
    | t :: k => some ⟨s.pens, keepP t s.z, k⟩
def deedsP : List Deed → Ps → Option Ps
  | [], s => some s
  | d :: r, s => match deedP d s with
    | none => none
    | some s' => deedsP r s'
def Deed.Ok : Deed → Prop
  | .cmd c => c.Ok
  | _ => True
theorem cmd_ix0 {c : Cmd} {S : Sto} : fIx (.dat c.d) (.dat (.int 0)) S = .ok (.dat (.str c.word)) S := by
  cases c <;> exact ixT0
theorem word_ne {c : Cmd} {w : Str} (h : w = "open" ∨ w = "close" ∨ w = "hold" ∨ w = "shut") : decide (c.word = w) = false := by
  rcases h with rfl | rfl | rfl | rfl <;> cases c <;> rfl
end PH

namespace PH
open PySem PySem.Spec PyProof PyProof.Rows L2
def Deed.l : Deed → D
  | .cmd c => c.d
  | .op => .tup [.str "hold"]
  | .cl => .tup [.str "shut"]
theorem ixL2 {a b c : D} {r : List D} {S : Sto} : fIx (.dat (.lst (a :: b :: c :: r))) (.dat (.int 2)) S = .ok (.dat c) S := g_ixL (atI_nat (j := 2) rfl)
theorem move_ok {c : Cmd} {z : Pen} {S : Sto} (h : c.Ok) : m_L_move [.dat z.d, .dat c.d] S = .ok (.dat (c.run z).d) S := by
  rw [E_L_move]
  unfold b_L_move
  cases c with
  | go k =>
    simp (config := { implicitDefEqProofs := false }) only [g_kAsg6, Pen.d, Pen.ds, Cmd.d, ixT0, ixT1, ixT2, g_addT, List.length_cons, List.length_nil, sz, List.cons_append, List.nil_append, g_mulI (mul9 h), EV0, EV1, EV2, List.set_cons_zero, List.set_cons_succ, Bool.not_true, Bool.not_false, eq_self, if_true, if_false, Bool.true_or, Bool.false_or, Bool.or_true, Bool.or_false, Bool.and_true, Bool.true_and, Bool.and_false, Bool.false_and, List.set_set, List.length_cons, List.length_nil, beq_self_eq_true, Bool.false_eq_true, lk, isTy, fIsi, fIsi2, kindOf, wipeE, decide_true, decide_false, Int.reduceEq, Int.reduceLT, Int.reduceLE, Int.reduceSub, Int.reduceAdd, Int.reduceNeg, Int.reduceToNat, Int.reduceNe, Nat.reduceAdd, Nat.reduceLT, Nat.reduceLeDiff, String.reduceEq, String.reduceBEq]
    rfl
  | turn k =>
    obtain ⟨h1, h2⟩ := h
    rcases (by omega : k = 1 ∨ k = 2 ∨ k = 3) with rfl | rfl | rfl
    · simp (config := { implicitDefEqProofs := false }) only [g_kAsg6, Pen.d, Pen.ds, Cmd.d, ixT0, ixT1, ixT2, ixL0, ixL1, ixL2, g_addT, List.length_cons, List.length_nil, sz, List.cons_append, List.nil_append, Int.sub_self, EV0, EV1, EV2, List.set_cons_zero, List.set_cons_succ, Bool.not_true, Bool.not_false, eq_self, if_true, if_false, Bool.true_or, Bool.false_or, Bool.or_true, Bool.or_false, Bool.and_true, Bool.true_and, Bool.and_false, Bool.false_and, List.set_set, List.length_cons, List.length_nil, beq_self_eq_true, Bool.false_eq_true, lk, isTy, fIsi, fIsi2, kindOf, wipeE, decide_true, decide_false, Int.reduceEq, Int.reduceLT, Int.reduceLE, Int.reduceSub, Int.reduceAdd, Int.reduceNeg, Int.reduceToNat, Int.reduceNe, Nat.reduceAdd, Nat.reduceLT, Nat.reduceLeDiff, String.reduceEq, String.reduceBEq]
      rfl
    · simp (config := { implicitDefEqProofs := false }) only [g_kAsg6, Pen.d, Pen.ds, Cmd.d, ixT0, ixT1, ixT2, ixL0, ixL1, ixL2, g_addT, List.length_cons, List.length_nil, sz, List.cons_append, List.nil_append, show (2 : Int) - 1 = 1 from rfl, EV0, EV1, EV2, List.set_cons_zero, List.set_cons_succ, Bool.not_true, Bool.not_false, eq_self, if_true, if_false, Bool.true_or, Bool.false_or, Bool.or_true, Bool.or_false, Bool.and_true, Bool.true_and, Bool.and_false, Bool.false_and, List.set_set, List.length_cons, List.length_nil, beq_self_eq_true, Bool.false_eq_true, lk, isTy, fIsi, fIsi2, kindOf, wipeE, decide_true, decide_false, Int.reduceEq, Int.reduceLT, Int.reduceLE, Int.reduceSub, Int.reduceAdd, Int.reduceNeg, Int.reduceToNat, Int.reduceNe, Nat.reduceAdd, Nat.reduceLT, Nat.reduceLeDiff, String.reduceEq, String.reduceBEq]
      rfl
    · simp (config := { implicitDefEqProofs := false }) only [g_kAsg6, Pen.d, Pen.ds, Cmd.d, ixT0, ixT1, ixT2, ixL0, ixL1, ixL2, g_addT, List.length_cons, List.length_nil, sz, List.cons_append, List.nil_append, show (3 : Int) - 1 = 2 from rfl, EV0, EV1, EV2, List.set_cons_zero, List.set_cons_succ, Bool.not_true, Bool.not_false, eq_self, if_true, if_false, Bool.true_or, Bool.false_or, Bool.or_true, Bool.or_false, Bool.and_true, Bool.true_and, Bool.and_false, Bool.false_and, List.set_set, List.length_cons, List.length_nil, beq_self_eq_true, Bool.false_eq_true, lk, isTy, fIsi, fIsi2, kindOf, wipeE, decide_true, decide_false, Int.reduceEq, Int.reduceLT, Int.reduceLE, Int.reduceSub, Int.reduceAdd, Int.reduceNeg, Int.reduceToNat, Int.reduceNe, Nat.reduceAdd, Nat.reduceLT, Nat.reduceLeDiff, String.reduceEq, String.reduceBEq]
      show Res.ok (Vl.dat (D.tup [.int z.x, .int z.y, .int z.v, .int (- z.u), .int z.p, .int z.q])) S = Res.ok (Vl.dat (D.tup [.int z.x, .int z.y, .int (- -z.v), .int (- z.u), .int z.p, .int z.q])) S
      rw [Int.neg_neg]
  | mirror => simp (config := { implicitDefEqProofs := false }) only [g_kAsg6, Pen.d, Pen.ds, Cmd.d, ixT0, ixT1, ixT2, g_addT, List.length_cons, List.length_nil, sz, List.cons_append, List.nil_append, EV0, EV1, EV2, List.set_cons_zero, List.set_cons_succ, Bool.not_true, Bool.not_false, eq_self, if_true, if_false, Bool.true_or, Bool.false_or, Bool.or_true, Bool.or_false, Bool.and_true, Bool.true_and, Bool.and_false, Bool.false_and, List.set_set, List.length_cons, List.length_nil, beq_self_eq_true, Bool.false_eq_true, lk, isTy, fIsi, fIsi2, kindOf, wipeE, decide_true, decide_false, Int.reduceEq, Int.reduceLT, Int.reduceLE, Int.reduceSub, Int.reduceAdd, Int.reduceNeg, Int.reduceToNat, Int.reduceNe, Nat.reduceAdd, Nat.reduceLT, Nat.reduceLeDiff, String.reduceEq, String.reduceBEq]; rfl
  | scale k =>
    simp (config := { implicitDefEqProofs := false }) only [g_kAsg6, Pen.d, Pen.ds, Cmd.d, ixT0, ixT1, ixT2, g_addT, List.length_cons, List.length_nil, sz, List.cons_append, List.nil_append, g_mulI (mul9r (show -9 ≤ k ∧ k ≤ 9 by have := h.1; have := h.2; omega)), EV0, EV1, EV2, List.set_cons_zero, List.set_cons_succ, Bool.not_true, Bool.not_false, eq_self, if_true, if_false, Bool.true_or, Bool.false_or, Bool.or_true, Bool.or_false, Bool.and_true, Bool.true_and, Bool.and_false, Bool.false_and, List.set_set, List.length_cons, List.length_nil, beq_self_eq_true, Bool.false_eq_true, lk, isTy, fIsi, fIsi2, kindOf, wipeE, decide_true, decide_false, Int.reduceEq, Int.reduceLT, Int.reduceLE, Int.reduceSub, Int.reduceAdd, Int.reduceNeg, Int.reduceToNat, Int.reduceNe, Nat.reduceAdd, Nat.reduceLT, Nat.reduceLeDiff, String.reduceEq, String.reduceBEq]
    show Res.ok (Vl.dat (D.tup [.int z.x, .int z.y, .int (z.u * k), .int (z.v * k), .int z.p, .int z.q])) S = Res.ok (Vl.dat (D.tup [.int z.x, .int z.y, .int (k * z.u), .int (k * z.v), .int z.p, .int z.q])) S
    rw [Int.mul_comm z.u, Int.mul_comm z.v]
  | aim a b => simp (config := { implicitDefEqProofs := false }) only [g_kAsg6, Pen.d, Pen.ds, Cmd.d, ixT0, ixT1, ixT2, g_addT, List.length_cons, List.length_nil, sz, List.cons_append, List.nil_append, EV0, EV1, EV2, List.set_cons_zero, List.set_cons_succ, Bool.not_true, Bool.not_false, eq_self, if_true, if_false, Bool.true_or, Bool.false_or, Bool.or_true, Bool.or_false, Bool.and_true, Bool.true_and, Bool.and_false, Bool.false_and, List.set_set, List.length_cons, List.length_nil, beq_self_eq_true, Bool.false_eq_true, lk, isTy, fIsi, fIsi2, kindOf, wipeE, decide_true, decide_false, Int.reduceEq, Int.reduceLT, Int.reduceLE, Int.reduceSub, Int.reduceAdd, Int.reduceNeg, Int.reduceToNat, Int.reduceNe, Nat.reduceAdd, Nat.reduceLT, Nat.reduceLeDiff, String.reduceEq, String.reduceBEq]; rfl
  | place a b => simp (config := { implicitDefEqProofs := false }) only [g_kAsg6, Pen.d, Pen.ds, Cmd.d, ixT0, ixT1, ixT2, g_addT, List.length_cons, List.length_nil, sz, List.cons_append, List.nil_append, EV0, EV1, EV2, List.set_cons_zero, List.set_cons_succ, Bool.not_true, Bool.not_false, eq_self, if_true, if_false, Bool.true_or, Bool.false_or, Bool.or_true, Bool.or_false, Bool.and_true, Bool.true_and, Bool.and_false, Bool.false_and, List.set_set, List.length_cons, List.length_nil, beq_self_eq_true, Bool.false_eq_true, lk, isTy, fIsi, fIsi2, kindOf, wipeE, decide_true, decide_false, Int.reduceEq, Int.reduceLT, Int.reduceLE, Int.reduceSub, Int.reduceAdd, Int.reduceNeg, Int.reduceToNat, Int.reduceNe, Nat.reduceAdd, Nat.reduceLT, Nat.reduceLeDiff, String.reduceEq, String.reduceBEq]; rfl
  | mark => simp (config := { implicitDefEqProofs := false }) only [g_kAsg6, Pen.d, Pen.ds, Cmd.d, ixT0, ixT1, ixT2, g_addT, List.length_cons, List.length_nil, sz, List.cons_append, List.nil_append, EV0, EV1, EV2, List.set_cons_zero, List.set_cons_succ, Bool.not_true, Bool.not_false, eq_self, if_true, if_false, Bool.true_or, Bool.false_or, Bool.or_true, Bool.or_false, Bool.and_true, Bool.true_and, Bool.and_false, Bool.false_and, List.set_set, List.length_cons, List.length_nil, beq_self_eq_true, Bool.false_eq_true, lk, isTy, fIsi, fIsi2, kindOf, wipeE, decide_true, decide_false, Int.reduceEq, Int.reduceLT, Int.reduceLE, Int.reduceSub, Int.reduceAdd, Int.reduceNeg, Int.reduceToNat, Int.reduceNe, Nat.reduceAdd, Nat.reduceLT, Nat.reduceLeDiff, String.reduceEq, String.reduceBEq]; rfl
  | ret => simp (config := { implicitDefEqProofs := false }) only [g_kAsg6, Pen.d, Pen.ds, Cmd.d, ixT0, ixT1, ixT2, g_addT, List.length_cons, List.length_nil, sz, List.cons_append, List.nil_append, EV0, EV1, EV2, List.set_cons_zero, List.set_cons_succ, Bool.not_true, Bool.not_false, eq_self, if_true, if_false, Bool.true_or, Bool.false_or, Bool.or_true, Bool.or_false, Bool.and_true, Bool.true_and, Bool.and_false, Bool.false_and, List.set_set, List.length_cons, List.length_nil, beq_self_eq_true, Bool.false_eq_true, lk, isTy, fIsi, fIsi2, kindOf, wipeE, decide_true, decide_false, Int.reduceEq, Int.reduceLT, Int.reduceLE, Int.reduceSub, Int.reduceAdd, Int.reduceNeg, Int.reduceToNat, Int.reduceNe, Nat.reduceAdd, Nat.reduceLT, Nat.reduceLeDiff, String.reduceEq, String.reduceBEq]; rfl
  | exch => simp (config := { implicitDefEqProofs := false }) only [g_kAsg6, Pen.d, Pen.ds, Cmd.d, ixT0, ixT1, ixT2, g_addT, List.length_cons, List.length_nil, sz, List.cons_append, List.nil_append, EV0, EV1, EV2, List.set_cons_zero, List.set_cons_succ, Bool.not_true, Bool.not_false, eq_self, if_true, if_false, Bool.true_or, Bool.false_or, Bool.or_true, Bool.or_false, Bool.and_true, Bool.true_and, Bool.and_false, Bool.false_and, List.set_set, List.length_cons, List.length_nil, beq_self_eq_true, Bool.false_eq_true, lk, isTy, fIsi, fIsi2, kindOf, wipeE, decide_true, decide_false, Int.reduceEq, Int.reduceLT, Int.reduceLE, Int.reduceSub, Int.reduceAdd, Int.reduceNeg, Int.reduceToNat, Int.reduceNe, Nat.reduceAdd, Nat.reduceLT, Nat.reduceLeDiff, String.reduceEq, String.reduceBEq]; rfl
theorem lp_loop {S0 : Sto} {a0 : Option Vl} : ∀ (ds : List Deed) (s s' : Ps), (∀ d ∈ ds, d.Ok) → deedsP ds s = some s' → s.pens.length + s.stk.length + ds.length ≤ 1000000 →
    loop (.nm 4) w_L_pens_1 (ds.map Deed.l) [a0, some (.dat s.z.d), some (.cel S0.length), some (.cel (S0.length + 1)), none] (twoS S0 (s.pens.map Pen.d) (rvD Pen.d s.stk)) = .next [a0, some (.dat s'.z.d), some (.cel S0.length), some (.cel (S0.length + 1)), none] (twoS S0 (s'.pens.map Pen.d) (rvD Pen.d s'.stk))
  | [], s, s', _, h, _ => by cases h; rfl
  | d :: r, s, s', ok, h, hl => by
    rw [List.length_cons] at hl
    have okd := ok d (List.mem_cons_self ..)
    rw [List.map_cons, loop]
    simp only [tgF, putEv]
    rw [w_L_pens_1]
    cases d with
    | cmd c =>
      have ih := lp_loop (S0 := S0) (a0 := a0) r ⟨s.pens ++ [c.run s.z], c.run s.z, s.stk⟩ s' (fun d hd => ok d (List.mem_cons_of_mem _ hd)) h (by simp; omega)
      simp (config := { implicitDefEqProofs := false }) only [Deed.l, cmd_ix0, word_ne (c := c) (w := "hold") (.inr (.inr (.inl rfl))), word_ne (c := c) (w := "shut") (.inr (.inr (.inr rfl))), move_ok (show c.Ok from okd), two_app0 (d := (c.run s.z).d) (S0 := S0) (xs := s.pens.map Pen.d) (ys := rvD Pen.d s.stk) (by rw [List.length_map]; omega), EV0, EV1, EV2, List.set_cons_zero, List.set_cons_succ, Bool.not_true, Bool.not_false, eq_self, if_true, if_false, Bool.true_or, Bool.false_or, Bool.or_true, Bool.or_false, Bool.and_true, Bool.true_and, Bool.and_false, Bool.false_and, List.set_set, List.length_cons, List.length_nil, beq_self_eq_true, Bool.false_eq_true, lk, isTy, fIsi, fIsi2, kindOf, wipeE, decide_true, decide_false, Int.reduceEq, Int.reduceLT, Int.reduceLE, Int.reduceSub, Int.reduceAdd, Int.reduceNeg, Int.reduceToNat, Int.reduceNe, Nat.reduceAdd, Nat.reduceLT, Nat.reduceLeDiff, String.reduceEq, String.reduceBEq]
      rw [← w_L_pens_1, ← ih]
      simp only [List.map_append, List.map_cons, List.map_nil]
    | op =>
      have ih := lp_loop (S0 := S0) (a0 := a0) r ⟨s.pens, s.z, s.z :: s.stk⟩ s' (fun d hd => ok d (List.mem_cons_of_mem _ hd)) h (by simp; omega)
      simp (config := { implicitDefEqProofs := false }) only [Deed.l, ixT0, two_app1 (d := s.z.d) (S0 := S0) (xs := s.pens.map Pen.d) (ys := rvD Pen.d s.stk) (by rw [rvD_len]; omega), EV0, EV1, EV2, List.set_cons_zero, List.set_cons_succ, Bool.not_true, Bool.not_false, eq_self, if_true, if_false, Bool.true_or, Bool.false_or, Bool.or_true, Bool.or_false, Bool.and_true, Bool.true_and, Bool.and_false, Bool.false_and, List.set_set, List.length_cons, List.length_nil, beq_self_eq_true, Bool.false_eq_true, lk, isTy, fIsi, fIsi2, kindOf, wipeE, decide_true, decide_false, Int.reduceEq, Int.reduceLT, Int.reduceLE, Int.reduceSub, Int.reduceAdd, Int.reduceNeg, Int.reduceToNat, Int.reduceNe, Nat.reduceAdd, Nat.reduceLT, Nat.reduceLeDiff, String.reduceEq, String.reduceBEq]
      rw [← w_L_pens_1, ← ih]
      simp only [rvD_cons]
    | cl =>
      cases hk : s.stk with
      | nil => simp [deedsP, deedP, hk] at h
      | cons t k =>
        simp only [deedsP, deedP, hk] at h
        have ih := lp_loop (S0 := S0) (a0 := a0) r ⟨s.pens, keepP t s.z, k⟩ s' (fun d hd => ok d (List.mem_cons_of_mem _ hd)) h (by simp; rw [hk] at hl; simp at hl; omega)
        rw [rvD_cons]
        simp (config := { implicitDefEqProofs := false }) only [Deed.l, ixT0, two_pop1, cut_4, cut_04, g_addT, List.length_cons, List.length_nil, sz, List.cons_append, List.nil_append, EV0, EV1, EV2, List.set_cons_zero, List.set_cons_succ, Bool.not_true, Bool.not_false, eq_self, if_true, if_false, Bool.true_or, Bool.false_or, Bool.or_true, Bool.or_false, Bool.and_true, Bool.true_and, Bool.and_false, Bool.false_and, List.set_set, List.length_cons, List.length_nil, beq_self_eq_true, Bool.false_eq_true, lk, isTy, fIsi, fIsi2, kindOf, wipeE, decide_true, decide_false, Int.reduceEq, Int.reduceLT, Int.reduceLE, Int.reduceSub, Int.reduceAdd, Int.reduceNeg, Int.reduceToNat, Int.reduceNe, Nat.reduceAdd, Nat.reduceLT, Nat.reduceLeDiff, String.reduceEq, String.reduceBEq]
        rw [← w_L_pens_1, ← ih]
        rfl
theorem lpens_ok {S : Sto} {ds : List Deed} {z : Pen} {s' : Ps} (ls : LS S) (ok : ∀ d ∈ ds, d.Ok) (h : deedsP ds ⟨[], z, []⟩ = some s') (hl : ds.length ≤ 900000) :
    m_L_pens [.dat (.lst (ds.map Deed.l)), .dat z.d] S = .ok (.dat (.lst [.lst (s'.pens.map Pen.d), s'.z.d])) S := by
  have lp := lp_loop (S0 := S) (a0 := some (.dat (.lst (ds.map Deed.l)))) ds ⟨[], z, []⟩ s' ok h (by simp; omega)
  have lsb : (S.all fun c => c.below S.length) = true := List.all_eq_true.mpr fun c hc => ls c hc _
  simp only [List.map_nil, rvD, List.reverse_nil] at lp
  rw [E_L_pens]
  unfold b_L_pens
  simp (config := { implicitDefEqProofs := false }) only [List.length_append, List.length_cons, List.length_nil, Nat.zero_add, two_new, lp, g_kFrz (two_0 (S0 := S)), EV0, EV1, EV2, List.set_cons_zero, List.set_cons_succ, Bool.not_true, Bool.not_false, eq_self, if_true, if_false, Bool.true_or, Bool.false_or, Bool.or_true, Bool.or_false, Bool.and_true, Bool.true_and, Bool.and_false, Bool.false_and, List.set_set, List.length_cons, List.length_nil, beq_self_eq_true, Bool.false_eq_true, lk, isTy, fIsi, fIsi2, kindOf, wipeE, decide_true, decide_false, Int.reduceEq, Int.reduceLT, Int.reduceLE, Int.reduceSub, Int.reduceAdd, Int.reduceNeg, Int.reduceToNat, Int.reduceNe, Nat.reduceAdd, Nat.reduceLT, Nat.reduceLeDiff, String.reduceEq, String.reduceBEq]
  dsimp only [ofOut, trunc]
  rw [two_take, show (Vl.below S.length (Vl.dat (D.lst [D.lst (s'.pens.map Pen.d), s'.z.d])) && S.all fun c => c.below S.length) = true by rw [lsb]; rfl, if_pos rfl]
end PH

namespace PH
open PySem PySem.Spec PyProof PyProof.Rows L2
abbrev mD (M : List Int) : D := .lst (M.map D.int)
theorem gt_atD {M : List Int} {i : Nat} (h : i < M.length) : (M.map D.int)[i]? = some (.int (gt M i)) := by
  rw [List.getElem?_map, List.getElem?_eq_getElem h]
  show some (D.int M[i]) = some (D.int (M.getD i 0))
  rw [List.getD_eq_getElem?_getD, List.getElem?_eq_getElem h]
  rfl
def keptM (M : List Int) : List Int := mx fun i j => if i = 0 ∨ 4 < i then gt M (7 * i + j) else gt M 0 * delta i j
theorem keptM_len (M : List Int) : (keptM M).length = 49 := mx_len _
end PH

namespace PH
open PySem PySem.Spec PyProof PyProof.Rows L2
theorem delta_dec {k j : Nat} : (if decide ((0 + (k : Int)) = (j : Int)) = true then (1 : Int) else 0) = delta k j := by
  unfold delta
  by_cases h : k = j
  · subst h; simp
  · rw [decide_eq_false (by omega), if_neg h]; rfl
theorem unitP_2 {cl : Bool} {j : Nat} {S : Sto} {a0 a1 a2 a3 a4 a6 : Option Vl} : kLc cl (.nm 6) mYes (m1 fInt (mOp fEq (mVar 6) (mVar 5))) [a0, a1, a2, a3, a4, some (.dat (.int (j : Int))), a6] [6] (rngD 0 6) S = newL cl (unitP j).ds S := by
  rw [show rngD 0 6 = (List.range 6).map (fun k : Nat => D.int (0 + (k : Int))) from rfl, kLc_map (g := fun k : Nat => D.int (delta k j)) (sz (by decide)) fun k _ => ⟨_, rfl, ?_⟩]
  · rfl
  · simp (config := { implicitDefEqProofs := false }) only [EV0, EV1, EV2, List.set_cons_zero, List.set_cons_succ, Bool.not_true, Bool.not_false, eq_self, if_true, if_false, Bool.true_or, Bool.false_or, Bool.or_true, Bool.or_false, Bool.and_true, Bool.true_and, Bool.and_false, Bool.false_and, List.set_set, List.length_cons, List.length_nil, beq_self_eq_true, Bool.false_eq_true, lk, isTy, fIsi, fIsi2, kindOf, wipeE, decide_true, decide_false, Int.reduceEq, Int.reduceLT, Int.reduceLE, Int.reduceSub, Int.reduceAdd, Int.reduceNeg, Int.reduceToNat, Int.reduceNe, Nat.reduceAdd, Nat.reduceLT, Nat.reduceLeDiff, String.reduceEq, String.reduceBEq]
    rw [delta_dec]
theorem rng6 {S : Sto} : kRng1 (.dat (.int 6)) S = .ok (rngD 0 6) S := by rw [g_kRng1 (by decide) (by decide)]; rfl
theorem ixP {z : Pen} {t : Int} {n : Nat} {S : Sto} (e : t = (n : Int)) (h : n < 6) : fIx (.dat z.d) (.dat (.int t)) S = .ok (.dat (.int (gt z.ns n))) S := by
  rw [e]
  exact g_ixT (atI_nat (gt_atD (M := z.ns) h))
theorem ixLn {xs : List D} {t : Int} {n : Nat} {d : D} {S : Sto} (e : t = (n : Int)) (h : xs[n]? = some d) : fIx (.dat (.lst xs)) (.dat (.int t)) S = .ok (.dat d) S := by
  rw [e]
  exact g_ixL (atI_nat h)
end PH

namespace PH
open PySem PySem.Spec PyProof PyProof.Rows L2
structure Ms where
  m : List Int
  stk : List (List Int)
/-- the bounds of all together -/
def MbL : List (List Int) → Nat → Prop
  | [], _ => True
  | M :: k, n => ∃ a, 0 < a ∧ a ≤ n ∧ M.length = 49 ∧ (∀ x ∈ M, Bn a x) ∧ MbL k (n - a)
theorem MbL.mono : ∀ {l : List (List Int)} {n m : Nat}, MbL l n → n ≤ m → MbL l m
  | [], _, _, _, _ => trivial
  | M :: k, n, m, ⟨a, h0, h1, h2, h3, h4⟩, h => ⟨a, h0, by omega, h2, h3, h4.mono (by omega)⟩
section
variable {S0 : Sto} {xs : List D}
theorem one_0 : (S0 ++ [Cell.lst xs])[S0.length]? = some (.lst xs) := by simp
theorem one_s {c : Cell} : (S0 ++ [Cell.lst xs]).set S0.length c = S0 ++ [c] := by simp
theorem one_app {ρ : Ev} {b : FE} {d : D} (F : xs.length < 5000000) (hb : b ρ (S0 ++ [.lst xs]) = .ok (.dat d) (S0 ++ [.lst xs])) : kApp b ρ (.cel S0.length) (S0 ++ [.lst xs]) = .ok (.dat .non) (S0 ++ [.lst (xs ++ [d])]) := by
  rw [g_kApp one_0, hb, g_bind_ok, g_fApp one_0 (szN (by omega)), one_s]
end
theorem matOf_0 {f : Pen → Pen} {M : List Int} (h : MatOf f M) : gt M 0 = 1 := by
  have := h.2 zeroP 0 (by decide)
  rw [imgAt_zero] at this
  exact this.symm
theorem MatOf.kept {f : Pen → Pen} {M : List Int} (h : MatOf f M) : MatOf (fun y => keepP y (f y)) (keptM M) := ⟨keptM_len M, fun z i hi => by
  by_cases e : i = 0 ∨ 4 < i
  · have e2 : imgAt (keptM M) z i = imgAt M z i := by
      unfold imgAt
      refine dot_congr fun j hj => ?_
      unfold keptM
      rw [gt_mx hi hj, if_pos e]
    rw [e2, ← h.2 z i hi]
    rcases (by omega : i = 0 ∨ i = 5 ∨ i = 6) with rfl | rfl | rfl <;> rfl
  · have e2 : imgAt (keptM M) z i = vc z i := by
      unfold imgAt
      rw [dot_congr (g := fun j => vc z j * delta j i) fun j hj => by
        unfold keptM
        rw [gt_mx hi hj, if_neg e, matOf_0 h, Int.one_mul, Int.mul_comm]
        unfold delta
        by_cases e3 : i = j
        · rw [if_pos e3, if_pos e3.symm]; rfl
        · rw [if_neg e3, if_neg fun z => e3 z.symm, Int.mul_zero, Int.mul_zero]]
      rw [dot_delta, if_pos hi]
    rw [e2]
    rcases (by omega : i = 1 ∨ i = 2 ∨ i = 3 ∨ i = 4) with rfl | rfl | rfl | rfl <;> rfl⟩
inductive Chain : List (List Int) → (Pen → List Pen) → Prop
  | nil : Chain [] (fun _ => [])
  | cons {P : List Int} {k : List (List Int)} {ts : Pen → List Pen} {f : Pen → Pen} : MatOf f P → Chain k ts → Chain (P :: k) (fun z => f ((ts z).headD z) :: ts z)
def Inv (s : Ms) (p : Pen → Ps) : Prop := ∃ (ts : Pen → List Pen) (f : Pen → Pen), Chain s.stk ts ∧ MatOf f s.m ∧ ∀ z, (p z).stk = ts z ∧ (p z).z = f ((ts z).headD z)
end PH

namespace PH
open PySem PySem.Spec PyProof PyProof.Rows L2
theorem pw40 {S : Sto} : fPow (.dat (.int 10)) (.dat (.int 40)) S = .ok (.dat (.int 10000000000000000000000000000000000000000)) S := rfl
theorem dw10 (a : Int) : IntMulOk a 69621 := mulR (by decide) (by decide)
theorem number_ok {S : Sto} {p : Nat} {ks : List Int} (hP : PoolAt S p ks) : ∃ (d : Int) (ks' : List Int), m_L_number [.cel p] S = .ok (.dat (.int d)) (S.set p (PL ks')) ∧ Bn 137 d ∧ ks'.length = ks.length := by
  obtain ⟨d1, k1, e1, h0, h1, l1⟩ := draw_ok hP (k := 3) (by decide) (by decide)
  have P1 := hP.next l1
  rw [E_L_number]
  unfold b_L_number
  by_cases hd : d1 = 0
  · subst hd
    obtain ⟨d2, k2, e2, h2, h3, l2⟩ := draw_ok P1 (k := 9) (by decide) (by decide)
    simp only [List.set_set] at e2
    simp (config := { implicitDefEqProofs := false }) only [e1, e2, EV0, EV1, EV2, List.set_cons_zero, List.set_cons_succ, Bool.not_true, Bool.not_false, eq_self, if_true, if_false, Bool.true_or, Bool.false_or, Bool.or_true, Bool.or_false, Bool.and_true, Bool.true_and, Bool.and_false, Bool.false_and, List.set_set, List.length_cons, List.length_nil, beq_self_eq_true, Bool.false_eq_true, lk, isTy, fIsi, fIsi2, kindOf, wipeE, decide_true, decide_false, Int.reduceEq, Int.reduceLT, Int.reduceLE, Int.reduceSub, Int.reduceAdd, Int.reduceNeg, Int.reduceToNat, Int.reduceNe, Nat.reduceAdd, Nat.reduceLT, Nat.reduceLeDiff, String.reduceEq, String.reduceBEq]
    exact ⟨d2 - 4, k2, rfl, by unfold Bn; omega, by omega⟩
  · obtain ⟨u, hu⟩ : ∃ u, k1[0]? = some u := ⟨k1[0]'(by have := hP.2; omega), by simp [show 0 < k1.length by have := hP.2; omega]⟩
    have hl2 : 2 ≤ k1.length := P1.2
    have hp1 := set_at (d := .lst ((k1.set 0 (u + 1)).map D.int)) P1.1
    rw [List.set_set] at hp1
    have e2 : (mAugI (fun x y => x + y) (mVar 0) (mC (.int 0)) (mC (.int 1))) [some (.cel p), some (.dat (.int d1)), none, none] (S.set p (PL k1)) = .next [some (.cel p), some (.dat (.int d1)), none, none] (S.set p (PL (k1.set 0 (u + 1)))) := by
      rw [augI_int rfl rfl rfl P1.1 rfl hu, List.set_set]
    have hn : (1 : Int) + (u + 1) % ((k1.length : Int) - 1) = ((1 + ((u + 1) % ((k1.length : Int) - 1)).toNat : Nat) : Int) := by
      have := Int.emod_nonneg (u + 1) (show ((k1.length : Int) - 1) ≠ 0 by omega)
      omega
    have hlt : 1 + ((u + 1) % ((k1.length : Int) - 1)).toNat < k1.length := by
      have := Int.emod_lt_of_pos (u + 1) (show 0 < ((k1.length : Int) - 1) by omega)
      have := Int.emod_nonneg (u + 1) (show ((k1.length : Int) - 1) ≠ 0 by omega)
      omega
    generalize hj : 1 + ((u + 1) % ((k1.length : Int) - 1)).toNat = j at hn hlt
    obtain ⟨c, hc⟩ : ∃ c, (k1.set 0 (u + 1))[j]? = some c := ⟨(k1.set 0 (u + 1))[j]'(by simpa using hlt), by simp [hlt]⟩
    have h00 : (k1.set 0 (u + 1))[0]? = some (u + 1) := by
      rw [List.getElem?_set, if_pos rfl, if_pos (by omega)]
    have lk1 : (k1.set 0 (u + 1)).length = k1.length := by simp
    have P2 : PoolAt (S.set p (PL (k1.set 0 (u + 1)))) p (k1.set 0 (u + 1)) := ⟨hp1, by rw [lk1]; exact hl2⟩
    obtain ⟨d3, k3, e3, h4, h5, l3⟩ := draw_ok P2 (k := 2) (by decide) (by decide)
    rw [List.set_set] at e3
    generalize hk : k1.set 0 (u + 1) = kk at *
    simp (config := { implicitDefEqProofs := false }) only [e1, decide_eq_false hd, e2, ixC_int (k := 0) (n := 0) hp1 rfl h00, g_lenC hp1, List.length_map, lk1, g_modI (show (0 : Int) < (k1.length : Int) - 1 by omega), hn, ixC_int hp1 rfl hc, g_mulI (dw2 _), g_mulI (dw10 _), pw40, g_modI (show (0 : Int) < 10000000000000000000000000000000000000000 by decide), e3, EV0, EV1, EV2, List.set_cons_zero, List.set_cons_succ, Bool.not_true, Bool.not_false, eq_self, if_true, if_false, Bool.true_or, Bool.false_or, Bool.or_true, Bool.or_false, Bool.and_true, Bool.true_and, Bool.and_false, Bool.false_and, List.set_set, List.length_cons, List.length_nil, beq_self_eq_true, Bool.false_eq_true, lk, isTy, fIsi, fIsi2, kindOf, wipeE, decide_true, decide_false, Int.reduceEq, Int.reduceLT, Int.reduceLE, Int.reduceSub, Int.reduceAdd, Int.reduceNeg, Int.reduceToNat, Int.reduceNe, Nat.reduceAdd, Nat.reduceLT, Nat.reduceLeDiff, String.reduceEq, String.reduceBEq]
    have b0 := Int.emod_nonneg (c * 48271 + (u + 1) * 69621) (show (10000000000000000000000000000000000000000 : Int) ≠ 0 by decide)
    have b1 := Int.emod_lt_of_pos (c * 48271 + (u + 1) * 69621) (show (0 : Int) < 10000000000000000000000000000000000000000 by decide)
    generalize (c * 48271 + (u + 1) * 69621) % 10000000000000000000000000000000000000000 = v at b0 b1
    rcases (by omega : d3 = 0 ∨ d3 = 1) with rfl | rfl
    · simp (config := { implicitDefEqProofs := false }) only [EV0, EV1, EV2, List.set_cons_zero, List.set_cons_succ, Bool.not_true, Bool.not_false, eq_self, if_true, if_false, Bool.true_or, Bool.false_or, Bool.or_true, Bool.or_false, Bool.and_true, Bool.true_and, Bool.and_false, Bool.false_and, List.set_set, List.length_cons, List.length_nil, beq_self_eq_true, Bool.false_eq_true, lk, isTy, fIsi, fIsi2, kindOf, wipeE, decide_true, decide_false, Int.reduceEq, Int.reduceLT, Int.reduceLE, Int.reduceSub, Int.reduceAdd, Int.reduceNeg, Int.reduceToNat, Int.reduceNe, Nat.reduceAdd, Nat.reduceLT, Nat.reduceLeDiff, String.reduceEq, String.reduceBEq]
      exact ⟨v, k3, rfl, by unfold Bn; omega, by omega⟩
    · simp (config := { implicitDefEqProofs := false }) only [EV0, EV1, EV2, List.set_cons_zero, List.set_cons_succ, Bool.not_true, Bool.not_false, eq_self, if_true, if_false, Bool.true_or, Bool.false_or, Bool.or_true, Bool.or_false, Bool.and_true, Bool.true_and, Bool.and_false, Bool.false_and, List.set_set, List.length_cons, List.length_nil, beq_self_eq_true, Bool.false_eq_true, lk, isTy, fIsi, fIsi2, kindOf, wipeE, decide_true, decide_false, Int.reduceEq, Int.reduceLT, Int.reduceLE, Int.reduceSub, Int.reduceAdd, Int.reduceNeg, Int.reduceToNat, Int.reduceNe, Nat.reduceAdd, Nat.reduceLT, Nat.reduceLeDiff, String.reduceEq, String.reduceBEq]
      exact ⟨5 - v, k3, rfl, by unfold Bn; omega, by omega⟩
theorem pool_same {S : Sto} {p : Nat} {ks : List Int} (h : PoolAt S p ks) : S.set p (PL ks) = S := by
  obtain ⟨h1, _⟩ := h
  obtain ⟨hp, e⟩ := List.getElem?_eq_some_iff.mp h1
  rw [show (PL ks : Cell) = S[p] from e.symm, List.set_getElem_self]
theorem probe_in {S : Sto} {r : Pen → Pen} {a0 : Option Vl} {i : Nat} {xs : List Int} (hi : i < 6) (hx : xs.length ≤ 100) : ∀ (n j : Nat), n + j = 6 →
    loop (.nm 5) w_L_probe_2 (rngD (j : Int) n) [a0, some (.dat (r zeroP).d), some (.dat (.lst ((List.range 6).map fun j => (r (unitP j)).d))), some (.cel S.length), some (.dat (.int (i : Int))), none, none] (S ++ [.lst ((xs ++ (List.range (j + 1)).map (probeF r (i + 1))).map D.int)]) = .next [a0, some (.dat (r zeroP).d), some (.dat (.lst ((List.range 6).map fun j => (r (unitP j)).d))), some (.cel S.length), some (.dat (.int (i : Int))), none, none] (S ++ [.lst ((xs ++ (List.range 7).map (probeF r (i + 1))).map D.int)])
  | 0, j, e => by
    obtain rfl : j = 6 := by omega
    rfl
  | n + 1, j, e => by
    have ih := probe_in (S := S) (r := r) (a0 := a0) (i := i) (xs := xs) hi hx n (j + 1) (by omega)
    rw [rng_cons, loop]
    simp only [tgF, putEv]
    rw [w_L_probe_2]
    have hb : ∀ {T : Sto} {a3 a6 : Option Vl}, (mOp fSub (mOp fIx (mOp fIx (mVar 2) (mVar 5)) (mVar 4)) (mOp fIx (mVar 1) (mVar 4))) [a0, some (.dat (r zeroP).d), some (.dat (.lst ((List.range 6).map fun j => (r (unitP j)).d))), a3, some (.dat (.int (i : Int))), some (.dat (.int (j : Int))), a6] T = .ok (.dat (.int (probeF r (i + 1) (j + 1)))) T := by
      intro T a3 a6
      have i1 : fIx (.dat (.lst ((List.range 6).map fun j => (r (unitP j)).d))) (.dat (.int (j : Int))) T = .ok (.dat (r (unitP j)).d) T := ixLn (n := j) rfl (by rw [List.getElem?_map, List.getElem?_range (by omega)]; rfl)
      simp (config := { implicitDefEqProofs := false }) only [i1, ixP (z := r (unitP j)) (t := (i : Int)) (n := i) rfl hi, ixP (z := r zeroP) (t := (i : Int)) (n := i) rfl hi, EV0, EV1, EV2, List.set_cons_zero, List.set_cons_succ, Bool.not_true, Bool.not_false, eq_self, if_true, if_false, Bool.true_or, Bool.false_or, Bool.or_true, Bool.or_false, Bool.and_true, Bool.true_and, Bool.and_false, Bool.false_and, List.set_set, List.length_cons, List.length_nil, beq_self_eq_true, Bool.false_eq_true, lk, isTy, fIsi, fIsi2, kindOf, wipeE, decide_true, decide_false, Int.reduceEq, Int.reduceLT, Int.reduceLE, Int.reduceSub, Int.reduceAdd, Int.reduceNeg, Int.reduceToNat, Int.reduceNe, Nat.reduceAdd, Nat.reduceLT, Nat.reduceLeDiff, String.reduceEq, String.reduceBEq]
      rfl
    simp (config := { implicitDefEqProofs := false }) only [EV0, EV1, EV2, List.set_cons_zero, List.set_cons_succ, Bool.not_true, Bool.not_false, eq_self, if_true, if_false, Bool.true_or, Bool.false_or, Bool.or_true, Bool.or_false, Bool.and_true, Bool.true_and, Bool.and_false, Bool.false_and, List.set_set, List.length_cons, List.length_nil, beq_self_eq_true, Bool.false_eq_true, lk, isTy, fIsi, fIsi2, kindOf, wipeE, decide_true, decide_false, Int.reduceEq, Int.reduceLT, Int.reduceLE, Int.reduceSub, Int.reduceAdd, Int.reduceNeg, Int.reduceToNat, Int.reduceNe, Nat.reduceAdd, Nat.reduceLT, Nat.reduceLeDiff, String.reduceEq, String.reduceBEq]
    rw [one_app (by simp; omega) hb]
    simp (config := { implicitDefEqProofs := false }) only [EV0, EV1, EV2, List.set_cons_zero, List.set_cons_succ, Bool.not_true, Bool.not_false, eq_self, if_true, if_false, Bool.true_or, Bool.false_or, Bool.or_true, Bool.or_false, Bool.and_true, Bool.true_and, Bool.and_false, Bool.false_and, List.set_set, List.length_cons, List.length_nil, beq_self_eq_true, Bool.false_eq_true, lk, isTy, fIsi, fIsi2, kindOf, wipeE, decide_true, decide_false, Int.reduceEq, Int.reduceLT, Int.reduceLE, Int.reduceSub, Int.reduceAdd, Int.reduceNeg, Int.reduceToNat, Int.reduceNe, Nat.reduceAdd, Nat.reduceLT, Nat.reduceLeDiff, String.reduceEq, String.reduceBEq]
    rw [← w_L_probe_2, show ((j : Int) + 1) = ((j + 1 : Nat) : Int) by omega, ← ih, List.range_succ (n := j + 1)]
    simp only [List.map_append, List.map_cons, List.map_nil, List.append_assoc]
theorem probe_out {S : Sto} {r : Pen → Pen} {a0 : Option Vl} : ∀ (n i : Nat), n + i = 6 →
    loop (.nm 4) w_L_probe_3 (rngD (i : Int) n) [a0, some (.dat (r zeroP).d), some (.dat (.lst ((List.range 6).map fun j => (r (unitP j)).d))), some (.cel S.length), none, none, none] (S ++ [.lst ((rows (probeF r) (i + 1)).map D.int)]) = .next [a0, some (.dat (r zeroP).d), some (.dat (.lst ((List.range 6).map fun j => (r (unitP j)).d))), some (.cel S.length), none, none, none] (S ++ [.lst ((rows (probeF r) 7).map D.int)])
  | 0, i, e => by
    obtain rfl : i = 6 := by omega
    rfl
  | n + 1, i, e => by
    have ih := probe_out (S := S) (r := r) (a0 := a0) n (i + 1) (by omega)
    have hlen : (rows (probeF r) (i + 1)).length ≤ 100 := by rw [rows_len]; omega
    have inn := probe_in (S := S) (r := r) (a0 := a0) (i := i) (xs := rows (probeF r) (i + 1)) (by omega) hlen 6 0 rfl
    rw [g_cast0, Nat.zero_add] at inn
    rw [rng_cons, loop]
    simp only [tgF, putEv]
    rw [w_L_probe_3]
    have ha : kApp (mOp fIx (mVar 1) (mVar 4)) [a0, some (.dat (r zeroP).d), some (.dat (.lst ((List.range 6).map fun j => (r (unitP j)).d))), some (.cel S.length), some (.dat (.int (i : Int))), none, none] (.cel S.length) (S ++ [.lst ((rows (probeF r) (i + 1)).map D.int)]) = .ok (.dat .non) (S ++ [.lst ((rows (probeF r) (i + 1) ++ (List.range 1).map (probeF r (i + 1))).map D.int)]) := by
      rw [one_app (d := .int (probeF r (i + 1) 0)) (by simp; omega) (by simp (config := { implicitDefEqProofs := false }) only [ixP (z := r zeroP) (t := (i : Int)) (n := i) rfl (by omega), EV0, EV1, EV2, List.set_cons_zero, List.set_cons_succ, Bool.not_true, Bool.not_false, eq_self, if_true, if_false, Bool.true_or, Bool.false_or, Bool.or_true, Bool.or_false, Bool.and_true, Bool.true_and, Bool.and_false, Bool.false_and, List.set_set, List.length_cons, List.length_nil, beq_self_eq_true, Bool.false_eq_true, lk, isTy, fIsi, fIsi2, kindOf, wipeE, decide_true, decide_false, Int.reduceEq, Int.reduceLT, Int.reduceLE, Int.reduceSub, Int.reduceAdd, Int.reduceNeg, Int.reduceToNat, Int.reduceNe, Nat.reduceAdd, Nat.reduceLT, Nat.reduceLeDiff, String.reduceEq, String.reduceBEq]; rfl)]
      simp only [List.map_append]
      rfl
    simp (config := { implicitDefEqProofs := false }) only [ha, rng6, inn, EV0, EV1, EV2, List.set_cons_zero, List.set_cons_succ, Bool.not_true, Bool.not_false, eq_self, if_true, if_false, Bool.true_or, Bool.false_or, Bool.or_true, Bool.or_false, Bool.and_true, Bool.true_and, Bool.and_false, Bool.false_and, List.set_set, List.length_cons, List.length_nil, beq_self_eq_true, Bool.false_eq_true, lk, isTy, fIsi, fIsi2, kindOf, wipeE, decide_true, decide_false, Int.reduceEq, Int.reduceLT, Int.reduceLE, Int.reduceSub, Int.reduceAdd, Int.reduceNeg, Int.reduceToNat, Int.reduceNe, Nat.reduceAdd, Nat.reduceLT, Nat.reduceLeDiff, String.reduceEq, String.reduceBEq]
    rw [← w_L_probe_3, show ((i : Int) + 1) = ((i + 1 : Nat) : Int) by omega, ← ih, rows_succ (probeF r) (i + 1)]
theorem probe_ok {S : Sto} {ds : List Deed} {p' : Pen → Ps} (ls : LS S) (ok : ∀ d ∈ ds, d.Ok) (h : ∀ z, deedsP ds ⟨[], z, []⟩ = some (p' z)) (hl : ds.length ≤ 900000) :
    m_L_probe [.dat (.lst (ds.map Deed.l))] S = .ok (.dat (mD (probeM fun z => (p' z).z))) S := by
  have pz := fun (z : Pen) => lpens_ok (S := S) ls ok (h z) hl
  generalize hr : (fun z => (p' z).z) = r
  have pr : ∀ z, (p' z).z = r z := fun z => by rw [← hr]
  have lp := probe_out (S := S) (r := r) (a0 := some (.dat (.lst (ds.map Deed.l)))) 6 0 rfl
  rw [g_cast0, Nat.zero_add] at lp
  rw [E_L_probe]
  unfold b_L_probe
  have hz : (mTup (mCons (mC (.int 0)) (mCons (mC (.int 0)) (mCons (mC (.int 0)) (mCons (mC (.int 0)) (mCons (mC (.int 0)) (mCons (mC (.int 0)) mNil))))))) [some (.dat (.lst (ds.map Deed.l))), none, none, none, none, none, none] S = .ok (.dat zeroP.d) S := rfl
  have hc : mLc false (mRng1 (mC (.int 6))) (.nm 5) mYes e_L_probe_1 [5] [some (.dat (.lst (ds.map Deed.l))), some (.dat (r zeroP).d), none, none, none, none, none] S = .ok (.dat (.lst ((List.range 6).map fun j => (r (unitP j)).d))) S := by
    simp (config := { implicitDefEqProofs := false }) only [rng6, EV0, EV1, EV2, List.set_cons_zero, List.set_cons_succ, Bool.not_true, Bool.not_false, eq_self, if_true, if_false, Bool.true_or, Bool.false_or, Bool.or_true, Bool.or_false, Bool.and_true, Bool.true_and, Bool.and_false, Bool.false_and, List.set_set, List.length_cons, List.length_nil, beq_self_eq_true, Bool.false_eq_true, lk, isTy, fIsi, fIsi2, kindOf, wipeE, decide_true, decide_false, Int.reduceEq, Int.reduceLT, Int.reduceLE, Int.reduceSub, Int.reduceAdd, Int.reduceNeg, Int.reduceToNat, Int.reduceNe, Nat.reduceAdd, Nat.reduceLT, Nat.reduceLeDiff, String.reduceEq, String.reduceBEq]
    rw [show rngD 0 6 = (List.range 6).map (fun k : Nat => D.int (0 + (k : Int))) from rfl, kLc_map (g := fun j : Nat => (r (unitP j)).d) (sz (by decide)) fun k hk => ⟨_, rfl, ?_⟩]
    · rfl
    · unfold e_L_probe_1
      rw [Int.zero_add]
      simp (config := { implicitDefEqProofs := false }) only [rng6, unitP_2, show D.tup (unitP k).ds = (unitP k).d from rfl, pz, ixL1, pr, EV0, EV1, EV2, List.set_cons_zero, List.set_cons_succ, Bool.not_true, Bool.not_false, eq_self, if_true, if_false, Bool.true_or, Bool.false_or, Bool.or_true, Bool.or_false, Bool.and_true, Bool.true_and, Bool.and_false, Bool.false_and, List.set_set, List.length_cons, List.length_nil, beq_self_eq_true, Bool.false_eq_true, lk, isTy, fIsi, fIsi2, kindOf, wipeE, decide_true, decide_false, Int.reduceEq, Int.reduceLT, Int.reduceLE, Int.reduceSub, Int.reduceAdd, Int.reduceNeg, Int.reduceToNat, Int.reduceNe, Nat.reduceAdd, Nat.reduceLT, Nat.reduceLeDiff, String.reduceEq, String.reduceBEq]
  have hu : (mLst true (mCons (mC (.int 1)) (mCons (mC (.int 0)) (mCons (mC (.int 0)) (mCons (mC (.int 0)) (mCons (mC (.int 0)) (mCons (mC (.int 0)) (mCons (mC (.int 0)) mNil)))))))) [some (.dat (.lst (ds.map Deed.l))), some (.dat (r zeroP).d), some (.dat (.lst ((List.range 6).map fun j => (r (unitP j)).d))), none, none, none, none] S = .ok (.cel S.length) (S ++ [.lst ((rows (probeF r) 1).map D.int)]) := by
    rw [show rows (probeF r) 1 = [1, 0, 0, 0, 0, 0, 0] from rfl]
    rfl
  simp (config := { implicitDefEqProofs := false }) only [hz, pz, ixL1, pr, hc, hu, rng6, lp, g_kFrz one_0, EV0, EV1, EV2, List.set_cons_zero, List.set_cons_succ, Bool.not_true, Bool.not_false, eq_self, if_true, if_false, Bool.true_or, Bool.false_or, Bool.or_true, Bool.or_false, Bool.and_true, Bool.true_and, Bool.and_false, Bool.false_and, List.set_set, List.length_cons, List.length_nil, beq_self_eq_true, Bool.false_eq_true, lk, isTy, fIsi, fIsi2, kindOf, wipeE, decide_true, decide_false, Int.reduceEq, Int.reduceLT, Int.reduceLE, Int.reduceSub, Int.reduceAdd, Int.reduceNeg, Int.reduceToNat, Int.reduceNe, Nat.reduceAdd, Nat.reduceLT, Nat.reduceLeDiff, String.reduceEq, String.reduceBEq]
  rw [ofOut, show (S ++ [Cell.lst ((rows (probeF r) 7).map D.int)]).set S.length Cell.dead = S ++ [Cell.dead] from one_s, trunc_ok ls rfl, rows_mx]
  unfold probeM
  rfl
end PH

namespace LA
abbrev Vc := Nat → Int
def S : Nat → (Nat → Int) → Int
  | 0, _ => 0
  | n + 1, f => S n f + f n
theorem S_congr {f g : Nat → Int} : ∀ {n : Nat}, (∀ i, i < n → f i = g i) → S n f = S n g
  | 0, _ => rfl
  | n + 1, h => by rw [S, S, S_congr fun i hi => h i (by omega), h n (by omega)]
theorem S_zero {f : Nat → Int} : ∀ {n : Nat}, (∀ i, i < n → f i = 0) → S n f = 0
  | 0, _ => rfl
  | n + 1, h => by rw [S, S_zero fun i hi => h i (by omega), h n (by omega)]; rfl
theorem S_add {f g : Nat → Int} : ∀ {n : Nat}, S n (fun i => f i + g i) = S n f + S n g
  | 0 => rfl
  | n + 1 => by simp only [S, S_add]; omega
theorem S_mul {f : Nat → Int} {a : Int} : ∀ {n : Nat}, S n (fun i => a * f i) = a * S n f
  | 0 => by simp [S]
  | n + 1 => by simp only [S, S_mul, Int.mul_add]
theorem S_neg {f : Nat → Int} {n : Nat} : S n (fun i => -f i) = -S n f := by
  have := S_mul (f := f) (a := -1) (n := n)
  rw [show (fun i => -f i) = fun i => -1 * f i from funext fun i => by omega, this]
  omega
theorem S_sub {f g : Nat → Int} {n : Nat} : S n (fun i => f i - g i) = S n f - S n g := by
  have := S_add (f := f) (g := fun i => -g i) (n := n)
  rw [S_neg] at this
  rw [show (fun i => f i - g i) = fun i => f i + -g i from funext fun i => by omega, this]
  omega
theorem S_one {f : Nat → Int} {i : Nat} : ∀ {n : Nat}, i < n → (∀ j, j < n → j ≠ i → f j = 0) → S n f = f i
  | 0, h, _ => by omega
  | n + 1, h, hz => by
    rw [S]
    by_cases e : i = n
    · subst e
      rw [S_zero fun j hj => hz j (by omega) (by omega)]
      omega
    · rw [S_one (n := n) (by omega) fun j hj hne => hz j (by omega) hne, hz n (by omega) (by omega)]
      omega
theorem S_swap {f : Nat → Nat → Int} {m : Nat} : ∀ {n : Nat}, S n (fun i => S m (f i)) = S m (fun j => S n (fun i => f i j))
  | 0 => (S_zero fun j _ => rfl).symm
  | n + 1 => by
    rw [S, S_swap, ← S_add]
    rfl
/-- all but one -/
def skip (i0 i : Nat) : Nat := if i < i0 then i else i + 1
theorem S_skip {f : Nat → Int} {i0 : Nat} : ∀ {n : Nat}, i0 < n + 1 → S (n + 1) f = S n (fun i => f (skip i0 i)) + f i0
  | 0, h => by
    have : i0 = 0 := by omega
    subst this
    simp [S]
  | n + 1, h => by
    rw [S]
    by_cases e : i0 = n + 1
    · subst e
      congr 1
      exact S_congr fun i hi => by unfold skip; rw [if_pos hi]
    · rw [S_skip (i0 := i0) (n := n) (by omega), S]
      have : skip i0 n = n + 1 := by exact if_neg (show ¬ n < i0 by omega)
      rw [this]
      omega
theorem skip_lt {i0 i n : Nat} (hi : i < n) (h : i0 < n + 1) : skip i0 i < n + 1 := by unfold skip; split <;> omega
theorem skip_ne {i0 i : Nat} : skip i0 i ≠ i0 := by unfold skip; split <;> omega
theorem dep : ∀ (m n : Nat) (A : Nat → Vc), m < n → ∃ e : Nat → Int, (∃ i, i < n ∧ e i ≠ 0) ∧ ∀ j, j < m → S n (fun i => e i * A i j) = 0
  | 0, n, A, h => ⟨fun _ => 1, ⟨0, h, by decide⟩, fun j hj => by omega⟩
  | m + 1, n, A, h => by
    by_cases hz : ∀ i, i < n → A i m = 0
    · obtain ⟨e, h1, h2⟩ := dep m n A (by omega)
      refine ⟨e, h1, fun j hj => ?_⟩
      by_cases hj2 : j < m
      · exact h2 j hj2
      · have : j = m := by omega
        subst this
        exact S_zero fun i hi => by rw [hz i hi, Int.mul_zero]
    · obtain ⟨i0, h0⟩ := Classical.not_forall.mp hz
      have hi0 : i0 < n := Classical.byContradiction fun q => h0 fun q2 => absurd q2 q
      have ha : A i0 m ≠ 0 := fun q => h0 fun _ => q
      obtain ⟨n, rfl⟩ : ∃ k, n = k + 1 := ⟨n - 1, by omega⟩
      obtain ⟨e, ⟨t, ht, het⟩, h2⟩ := dep m n (fun i x => A i0 m * A (skip i0 i) x - A (skip i0 i) m * A i0 x) (by omega)
      -- the coefficients
      let E : Nat → Int := fun i => if i = i0 then -(S n fun t => e t * A (skip i0 t) m) else (if i < i0 then e i else e (i - 1)) * A i0 m
      have hE : ∀ t, E (skip i0 t) = e t * A i0 m := fun t => by
        show (if skip i0 t = i0 then _ else _) = _
        rw [if_neg skip_ne]
        by_cases h : t < i0
        · rw [show skip i0 t = t from if_pos h, if_pos h]
        · rw [show skip i0 t = t + 1 from if_neg h, if_neg (by omega)]
          rfl
      have hE0 : E i0 = -(S n fun t => e t * A (skip i0 t) m) := if_pos rfl
      refine ⟨E, ⟨skip i0 t, skip_lt ht hi0, by rw [hE]; exact Int.mul_ne_zero het ha⟩, fun j hj => ?_⟩
      rw [S_skip hi0, hE0]
      have e1 : S n (fun i => E (skip i0 i) * A (skip i0 i) j) = S n fun i => e i * (A i0 m * A (skip i0 i) j) := S_congr fun i _ => by rw [hE, Int.mul_assoc]
      have e2 : S n (fun i => e i * (A i0 m * A (skip i0 i) j - A (skip i0 i) m * A i0 j)) = S n (fun i => e i * (A i0 m * A (skip i0 i) j)) - (S n fun t => e t * A (skip i0 t) m) * A i0 j := by
        have e3 : (S n fun t => e t * A (skip i0 t) m) * A i0 j = S n fun t => A i0 j * (e t * A (skip i0 t) m) := by rw [S_mul, Int.mul_comm]
        rw [e3, ← S_sub]
        exact S_congr fun i _ => by
          rw [Int.mul_sub]
          congr 1
          rw [Int.mul_comm (A i0 j), Int.mul_assoc]
      have e4 : S n (fun i => e i * (A i0 m * A (skip i0 i) j - A (skip i0 i) m * A i0 j)) = 0 := by
        by_cases hj2 : j < m
        · exact h2 j hj2
        · have : j = m := by omega
          subst this
          exact S_zero fun i _ => by rw [Int.mul_comm (A i0 j), Int.sub_self, Int.mul_zero]
      rw [e1, Int.neg_mul]
      omega
def lin (a : Int) (v : Vc) (b : Int) (w : Vc) : Vc := fun x => a * v x + b * w x
def zv : Vc := fun _ => 0
inductive Sp (G : Vc → Prop) : Vc → Prop
  | gen {v : Vc} : G v → Sp G v
  | zero : Sp G zv
  | lin {v w : Vc} (a b : Int) : Sp G v → Sp G w → Sp G (lin a v b w)
  | div {v : Vc} (k : Int) : k ≠ 0 → Sp G (fun x => k * v x) → Sp G v
section
variable {G G' : Vc → Prop} {v w : Vc}
theorem Sp.mono (h : ∀ v, G v → Sp G' v) (k : Sp G v) : Sp G' v := by
  induction k with
  | gen g => exact h _ g
  | zero => exact .zero
  | lin a b _ _ i1 i2 => exact .lin a b i1 i2
  | div c hc _ ih => exact .div c hc ih
theorem Sp.smul (a : Int) (h : Sp G v) : Sp G (fun x => a * v x) := by
  have := Sp.lin a 0 h (Sp.zero (G := G))
  rwa [show LA.lin a v 0 zv = fun x => a * v x from funext fun x => by show a * v x + 0 * 0 = _; omega] at this
theorem Sp.sub2 (a b : Int) (h : Sp G v) (k : Sp G w) : Sp G (fun x => a * v x - b * w x) := by
  have := Sp.lin a (-b) h k
  rwa [show LA.lin a v (-b) w = fun x => a * v x - b * w x from funext fun x => by show a * v x + -b * w x = _; rw [Int.neg_mul]; omega] at this
theorem Sp.sum {b : Nat → Vc} {c : Nat → Int} : ∀ {n : Nat}, (∀ i, i < n → Sp G (b i)) → Sp G (fun x => S n fun i => c i * b i x)
  | 0, _ => .zero
  | n + 1, h => by
    have h1 := Sp.sum (c := c) (n := n) fun i hi => h i (by omega)
    have := Sp.lin 1 (c n) h1 (h n (by omega))
    rwa [show LA.lin 1 (fun x => S n fun i => c i * b i x) (c n) (b n) = fun x => S (n + 1) fun i => c i * b i x from funext fun x => by show 1 * _ + _ = _; rw [Int.one_mul]; rfl] at this
end
/-- a family spans -/
def Fam (k : Nat) (b : Nat → Vc) : Vc → Prop := fun v => ∃ i, i < k ∧ v = b i
theorem Sp.comb {k : Nat} {b : Nat → Vc} {v : Vc} (h : Sp (Fam k b) v) : ∃ (d : Int) (c : Nat → Int), d ≠ 0 ∧ ∀ x, d * v x = S k fun i => c i * b i x := by
  induction h with
  | gen g =>
    obtain ⟨i, hi, rfl⟩ := g
    refine ⟨1, fun j => if j = i then 1 else 0, by decide, fun x => ?_⟩
    rw [S_one hi fun j _ hne => by show (if j = i then 1 else 0) * b j x = 0; rw [if_neg hne, Int.zero_mul]]
    show 1 * b i x = (if i = i then 1 else 0) * b i x
    rw [if_pos rfl]
  | zero => exact ⟨1, fun _ => 0, by decide, fun x => by rw [S_zero fun i _ => Int.zero_mul _]; rfl⟩
  | @lin v w a e _ _ i1 i2 =>
    obtain ⟨d1, c1, h1, e1⟩ := i1
    obtain ⟨d2, c2, h2, e2⟩ := i2
    refine ⟨d1 * d2, fun i => a * d2 * c1 i + e * d1 * c2 i, Int.mul_ne_zero h1 h2, fun x => ?_⟩
    have : S k (fun i => (a * d2 * c1 i + e * d1 * c2 i) * b i x) = a * d2 * (d1 * v x) + e * d1 * (d2 * w x) := by
      rw [e1, e2, ← S_mul, ← S_mul, ← S_add]
      exact S_congr fun i _ => by rw [Int.add_mul, Int.mul_assoc (a * d2), Int.mul_assoc (e * d1)]
    rw [this]
    show d1 * d2 * (a * v x + e * w x) = _
    rw [Int.mul_add]
    congr 1 <;> ac_rfl
  | @div v c hc _ ih =>
    obtain ⟨d, f, h1, e1⟩ := ih
    exact ⟨d * c, f, Int.mul_ne_zero h1 hc, fun x => by rw [← e1, Int.mul_assoc]⟩
theorem Sp.of_comb {k : Nat} {b : Nat → Vc} {v : Vc} {d : Int} {c : Nat → Int} (hd : d ≠ 0) (h : ∀ x, d * v x = S k fun i => c i * b i x) : Sp (Fam k b) v := by
  refine .div d hd ?_
  rw [show (fun x => d * v x) = fun x => S k fun i => c i * b i x from funext h]
  exact Sp.sum fun i hi => .gen ⟨i, hi, rfl⟩
def Indep (k : Nat) (b : Nat → Vc) : Prop := ∀ c : Nat → Int, (∀ x, (S k fun i => c i * b i x) = 0) → ∀ i, i < k → c i = 0
/-- independent vectors in a span are not more than what spans it -/
theorem steinitz {k m : Nat} {a b : Nat → Vc} (ha : Indep k a) (h : ∀ i, i < k → Sp (Fam m b) (a i)) : k ≤ m := by
  apply Classical.byContradiction
  intro hlt
  have h1 : ∀ i : Nat, ∃ (d : Int) (c : Nat → Int), i < k → d ≠ 0 ∧ ∀ x, d * a i x = S m fun j => c j * b j x := fun i => by
    by_cases hi : i < k
    · obtain ⟨d, c, h1, h2⟩ := (h i hi).comb
      exact ⟨d, c, fun _ => ⟨h1, h2⟩⟩
    · exact ⟨0, fun _ => 0, fun q => absurd q hi⟩
  obtain ⟨d, hd⟩ := Classical.skolem.mp h1
  obtain ⟨C, hC⟩ := Classical.skolem.mp hd
  obtain ⟨e, ⟨t, ht, het⟩, h2⟩ := dep m k C (by omega)
  have key := ha (fun i => e i * d i) (fun x => by
    have : S k (fun i => e i * d i * a i x) = S k fun i => S m fun j => b j x * (e i * C i j) := S_congr fun i hi => by
      rw [Int.mul_assoc, (hC i hi).2 x, ← S_mul]
      exact S_congr fun j _ => by rw [Int.mul_comm (b j x), Int.mul_assoc]
    rw [this, S_swap]
    exact S_zero fun j hj => by rw [S_mul, h2 j hj, Int.mul_zero]) t ht
  rcases Int.mul_eq_zero.mp key with q | q
  · exact het q
  · exact (hC t ht).1 q
end LA

namespace LA
structure Cn (k : Nat) (b : Nat → Vc) (q : Nat → Nat) : Prop where
  pos : ∀ i, i < k → 0 < b i (q i)
  low : ∀ i x, i < k → x < q i → b i x = 0
  off : ∀ i j, i < k → j < k → i ≠ j → b i (q j) = 0
  prim : ∀ i, i < k → ∃ (n : Nat) (u : Nat → Int), (S n fun x => u x * b i x) = 1
  asc : ∀ i j, i < j → j < k → q i < q j
section
variable {k k' : Nat} {b b' : Nat → Vc} {q q' : Nat → Nat} {v : Vc} {d : Int} {c : Nat → Int}
theorem Cn.coord (h : Cn k b q) (e : ∀ x, d * v x = S k fun i => c i * b i x) {j : Nat} (hj : j < k) : d * v (q j) = c j * b j (q j) := by
  rw [e, S_one hj fun i hi hne => by rw [h.off i j hi hj hne, Int.mul_zero]]
theorem Cn.indep (h : Cn k b q) : Indep k b := fun c e i hi => by
  have e1 := h.coord (d := 1) (v := zv) (c := c) (fun x => by rw [e]; rfl) hi
  have e2 : c i * b i (q i) = 0 := by rw [← e1]; rfl
  rcases Int.mul_eq_zero.mp e2 with z | z
  · exact z
  · have := h.pos i hi
    omega
theorem Cn.vanish (h : Cn k b q) (s : Sp (Fam k b) v) (z : ∀ j, j < k → v (q j) = 0) (x : Nat) : v x = 0 := by
  obtain ⟨d, c, hd, e⟩ := s.comb
  have hc : ∀ j, j < k → c j = 0 := fun j hj => by
    have e1 := h.coord e hj
    rw [z j hj, Int.mul_zero] at e1
    rcases Int.mul_eq_zero.mp e1.symm with y | y
    · exact y
    · have := h.pos j hj
      omega
  have := e x
  rw [S_zero fun i hi => by rw [hc i hi, Int.zero_mul]] at this
  rcases Int.mul_eq_zero.mp this with y | y
  · exact absurd y hd
  · exact y
/-- a vector of the span that is zero at the other pivots is a multiple -/
theorem Cn.mult (h : Cn k b q) (s : Sp (Fam k b) v) {i : Nat} (hi : i < k) (z : ∀ j, j < k → j ≠ i → v (q j) = 0) : ∃ s : Int, ∀ x, v x = s * b i x := by
  obtain ⟨d, c, hd, e⟩ := s.comb
  have hc : ∀ j, j < k → j ≠ i → c j = 0 := fun j hj hne => by
    have e1 := h.coord e hj
    rw [z j hj hne, Int.mul_zero] at e1
    rcases Int.mul_eq_zero.mp e1.symm with y | y
    · exact y
    · have := h.pos j hj
      omega
  have e2 : ∀ x, d * v x = c i * b i x := fun x => by
    rw [e, S_one hi fun j hj hne => by rw [hc j hj hne, Int.zero_mul]]
  obtain ⟨n, u, hu⟩ := h.prim i hi
  have e3 : c i = d * S n fun x => u x * v x := by
    have e4 : (S n fun x => u x * (c i * b i x)) = c i := by
      have : (S n fun x => u x * (c i * b i x)) = S n fun x => c i * (u x * b i x) := S_congr fun x _ => by ac_rfl
      rw [this, S_mul, hu, Int.mul_one]
    rw [← e4, ← S_mul]
    exact S_congr fun x _ => by rw [← e2]; ac_rfl
  refine ⟨S n fun x => u x * v x, fun x => ?_⟩
  have := e2 x
  rw [e3, Int.mul_assoc] at this
  exact Int.eq_of_mul_eq_mul_left hd this
/-- where a vector begins -/
def Lead (v : Vc) (p : Nat) : Prop := v p ≠ 0 ∧ ∀ x, x < p → v x = 0
theorem least {P : Nat → Prop} : ∀ {n : Nat}, P n → ∃ m, P m ∧ m ≤ n ∧ ∀ j, j < m → ¬ P j := fun {n} h => by
  induction n using Nat.strongRecOn with
  | ind n ih =>
    by_cases hj : ∃ j, j < n ∧ P j
    · obtain ⟨j, h1, h2⟩ := hj
      obtain ⟨m, h3, h4, h5⟩ := ih j h1 h2
      exact ⟨m, h3, by omega, h5⟩
    · exact ⟨n, h, Nat.le_refl _, fun j h1 h2 => hj ⟨j, h1, h2⟩⟩
theorem Cn.asc' (h : Cn k b q) {i j : Nat} (hij : i ≤ j) (hj : j < k) : q i ≤ q j := by
  rcases Nat.lt_or_ge i j with l | l
  · exact Nat.le_of_lt (h.asc i j l hj)
  · have : i = j := by omega
    subst this
    exact Nat.le_refl _
theorem Cn.lead (h : Cn k b q) (s : Sp (Fam k b) v) {p : Nat} (l : Lead v p) : ∃ i, i < k ∧ q i = p := by
  obtain ⟨d, c, hd, e⟩ := s.comb
  have ex : ∃ i, i < k ∧ c i ≠ 0 := Classical.byContradiction fun hn => l.1 (by
    have := e p
    rw [S_zero fun i hi => by
      have : c i = 0 := Classical.byContradiction fun y => hn ⟨i, hi, y⟩
      rw [this, Int.zero_mul]] at this
    rcases Int.mul_eq_zero.mp this with y | y
    · exact absurd y hd
    · exact y)
  obtain ⟨i0, h0⟩ := ex
  obtain ⟨i, ⟨hi, hci⟩, _, hlo⟩ := least (P := fun i => i < k ∧ c i ≠ 0) h0
  have hz : ∀ j, j < i → c j = 0 := fun j hj => Classical.byContradiction fun y => hlo j hj ⟨by omega, y⟩
  have vq : v (q i) ≠ 0 := fun z => by
    have e1 := h.coord e hi
    rw [z, Int.mul_zero] at e1
    rcases Int.mul_eq_zero.mp e1.symm with y | y
    · exact hci y
    · have := h.pos i hi
      omega
  refine ⟨i, hi, Classical.byContradiction fun hne => ?_⟩
  rcases Nat.lt_or_ge (q i) p with y | y
  · exact vq (l.2 _ y)
  · apply l.1
    have := e p
    rw [S_zero fun j hj => by
      rcases Nat.lt_or_ge j i with y2 | y2
      · rw [hz j y2, Int.zero_mul]
      · rw [h.low j p hj (by have := h.asc' y2 hj; omega), Int.mul_zero]] at this
    rcases Int.mul_eq_zero.mp this with y | y
    · exact absurd y hd
    · exact y
theorem Cn.isLead (h : Cn k b q) {i : Nat} (hi : i < k) : Lead (b i) (q i) := ⟨by have := h.pos i hi; omega, fun x hx => h.low i x hi hx⟩
/-- one canonical family for each span -/
theorem Cn.unique (h : Cn k b q) (h' : Cn k' b' q') (s : ∀ v, Sp (Fam k b) v → Sp (Fam k' b') v) (s' : ∀ v, Sp (Fam k' b') v → Sp (Fam k b) v) : k = k' ∧ ∀ i, i < k → q i = q' i ∧ ∀ x, b i x = b' i x := by
  have m1 : ∀ i, i < k → ∃ j, j < k' ∧ q' j = q i := fun i hi => h'.lead (s _ (.gen ⟨i, hi, rfl⟩)) (h.isLead hi)
  have m2 : ∀ j, j < k' → ∃ i, i < k ∧ q i = q' j := fun j hj => h.lead (s' _ (.gen ⟨j, hj, rfl⟩)) (h'.isLead hj)
  have key : ∀ i, (i < k → i < k' ∧ q i = q' i) ∧ (i < k' → i < k ∧ q i = q' i) := fun i => by
    induction i using Nat.strongRecOn with
    | ind i ih =>
      have a1 : i < k → i < k' := fun hi => by
        obtain ⟨m, hm, e⟩ := m1 i hi
        rcases Nat.lt_or_ge m i with y | y
        · have := ((ih m y).2 hm).2
          have := h.asc m i y hi
          omega
        · omega
      have a2 : i < k' → i < k := fun hi => by
        obtain ⟨m, hm, e⟩ := m2 i hi
        rcases Nat.lt_or_ge m i with y | y
        · have := ((ih m y).1 hm).2
          have := h'.asc m i y hi
          omega
        · omega
      have eq : i < k → i < k' → q i = q' i := fun hi hi' => by
        obtain ⟨m, hm, e⟩ := m1 i hi
        obtain ⟨l, hl, e2⟩ := m2 i hi'
        have y1 : i ≤ m := Nat.le_of_not_lt fun y => by
          have := ((ih m y).2 hm).2
          have := h.asc m i y hi
          omega
        have y2 : i ≤ l := Nat.le_of_not_lt fun y => by
          have := ((ih l y).1 hl).2
          have := h'.asc l i y hi'
          omega
        have := h'.asc' y1 hm
        have := h.asc' y2 hl
        omega
      exact ⟨fun hi => ⟨a1 hi, eq hi (a1 hi)⟩, fun hi => ⟨a2 hi, eq (a2 hi) hi⟩⟩
  have hk : k = k' := by
    rcases Nat.lt_trichotomy k k' with y | y | y
    · have := ((key k).2 y).1; omega
    · exact y
    · have := ((key k').1 y).1; omega
  subst hk
  refine ⟨rfl, fun i hi => ⟨((key i).1 hi).2, ?_⟩⟩
  have eq : ∀ j, j < k → q j = q' j := fun j hj => ((key j).1 hj).2
  obtain ⟨t, ht⟩ := h'.mult (s _ (.gen ⟨i, hi, rfl⟩)) hi fun j hj hne => by rw [← eq j hj]; exact h.off i j hi hj (Ne.symm hne)
  obtain ⟨t', ht'⟩ := h.mult (s' _ (.gen ⟨i, hi, rfl⟩)) hi fun j hj hne => by rw [eq j hj]; exact h'.off i j hi hj (Ne.symm hne)
  have p1 := h.pos i hi
  have p2 := h'.pos i hi
  rw [← eq i hi] at p2
  have e1 := ht (q i)
  have e2 := ht' (q i)
  have tp : 0 < t := Classical.byContradiction fun y => by
    have : t * b' i (q i) ≤ 0 := Int.mul_nonpos_of_nonpos_of_nonneg (by omega) (by omega)
    omega
  have tp' : 0 < t' := Classical.byContradiction fun y => by
    have : t' * b i (q i) ≤ 0 := Int.mul_nonpos_of_nonpos_of_nonneg (by omega) (by omega)
    omega
  have tt : t * t' = 1 := by
    have e3 : (t * t') * b i (q i) = 1 * b i (q i) := by
      rw [Int.mul_assoc, ← e2, ← e1, Int.one_mul]
    exact Int.eq_of_mul_eq_mul_right (by omega) e3
  have t1 : t = 1 := by
    have h1 : t ∣ 1 := ⟨t', tt.symm⟩
    have := Int.le_of_dvd (by decide) h1
    omega
  intro x
  rw [ht x, t1, Int.one_mul]
end
theorem indep_part : ∀ (m : Nat) (V : Nat → Vc), ∃ (k : Nat) (σ : Nat → Nat), (∀ i, i < k → σ i < m) ∧ Indep k (fun i => V (σ i)) ∧ ∀ i, i < m → Sp (Fam k fun i => V (σ i)) (V i)
  | 0, V => ⟨0, fun _ => 0, fun i hi => by omega, fun c _ i hi => by omega, fun i hi => by omega⟩
  | m + 1, V => by
    obtain ⟨k, σ, h1, h2, h3⟩ := indep_part m V
    by_cases hs : Sp (Fam k fun i => V (σ i)) (V m)
    · refine ⟨k, σ, fun i hi => by have := h1 i hi; omega, h2, fun i hi => ?_⟩
      by_cases e : i = m
      · rw [e]; exact hs
      · exact h3 i (by omega)
    · let τ : Nat → Nat := fun i => if i < k then σ i else m
      have t1 : ∀ i, i < k → τ i = σ i := fun i hi => if_pos hi
      have t2 : τ k = m := if_neg (by omega)
      have up : ∀ v, Sp (Fam k fun i => V (σ i)) v → Sp (Fam (k + 1) fun i => V (τ i)) v := fun v h => h.mono fun w ⟨i, hi, e⟩ => .gen ⟨i, by omega, by rw [e]; show V (σ i) = V (τ i); rw [t1 i hi]⟩
      refine ⟨k + 1, τ, fun i hi => ?_, fun c hc => ?_, fun i hi => ?_⟩
      · by_cases e : i < k
        · rw [t1 i e]; have := h1 i e; omega
        · have : i = k := by omega
          rw [this, t2]; omega
      · have hsum : ∀ x, (S k fun i => c i * V (σ i) x) + c k * V m x = 0 := fun x => by
          have this : (S k fun i => c i * V (τ i) x) + c k * V (τ k) x = 0 := hc x
          rw [t2] at this
          rw [← this]
          congr 1
          exact S_congr fun i hi => by rw [t1 i hi]
        have ck : c k = 0 := Classical.byContradiction fun hn => hs (Sp.of_comb (d := -c k) (c := c) (by omega) fun x => by
          have := hsum x
          rw [Int.neg_mul]
          omega)
        intro i hi
        by_cases e : i < k
        · refine h2 c (fun x => ?_) i e
          have := hsum x
          rw [ck, Int.zero_mul] at this
          show (S k fun i => c i * V (σ i) x) = 0
          omega
        · have : i = k := by omega
          rw [this, ck]
      · by_cases e : i = m
        · exact .gen ⟨k, by omega, by show V i = V (τ k); rw [t2, e]⟩
        · exact up _ (h3 i (by omega))
end LA

namespace LA
theorem pigeon : ∀ (R N : Nat) (f : Nat → Nat), (∀ i, i < N → f i < R) → R < N → ∃ i j, i < j ∧ j < N ∧ f i = f j
  | 0, N, f, h, hN => absurd (h 0 hN) (by omega)
  | R + 1, N, f, h, hN => by
    obtain ⟨N, rfl⟩ : ∃ M, N = M + 1 := ⟨N - 1, by omega⟩
    by_cases hit : ∃ i, i < N ∧ f i = f N
    · obtain ⟨i, h1, h2⟩ := hit
      exact ⟨i, N, h1, by omega, h2⟩
    · have nh : ∀ i, i < N → f i ≠ f N := fun i hi e => hit ⟨i, hi, e⟩
      obtain ⟨i, j, h1, h2, h3⟩ := pigeon R N (fun i => if f i = R then f N else f i) (fun i hi => by
        have a := h i (by omega)
        have b := h N (by omega)
        have c := nh i hi
        show (if f i = R then f N else f i) < R
        split <;> omega) (by omega)
      refine ⟨i, j, h1, by omega, ?_⟩
      have c1 := nh i (by omega)
      have c2 := nh j h2
      have h3 : (if f i = R then f N else f i) = (if f j = R then f N else f j) := h3
      split at h3 <;> split at h3 <;> omega
def dig (C n j : Nat) : Nat := n / C ^ j % C
theorem dig_eq {C : Nat} (hC : 0 < C) : ∀ (k n n' : Nat), n < C ^ k → n' < C ^ k → (∀ j, j < k → dig C n j = dig C n' j) → n = n'
  | 0, n, n', h, h', _ => by simp at h h'; omega
  | k + 1, n, n', h, h', e => by
    have e0 : n % C = n' % C := by
      have := e 0 (by omega)
      unfold dig at this
      simpa using this
    have st : ∀ m j, dig C (m / C) j = dig C m (j + 1) := fun m j => by
      unfold dig
      rw [Nat.div_div_eq_div_mul, Nat.pow_succ, Nat.mul_comm]
    have lt : ∀ m, m < C ^ (k + 1) → m / C < C ^ k := fun m hm => Nat.div_lt_of_lt_mul (by rw [Nat.mul_comm, ← Nat.pow_succ]; exact hm)
    have := dig_eq hC k (n / C) (n' / C) (lt n h) (lt n' h') fun j hj => by rw [st, st]; exact e (j + 1) (by omega)
    rw [← Nat.div_add_mod n C, ← Nat.div_add_mod n' C, this, e0]
def enc (D : Nat) (y : Nat → Nat) : Nat → Nat
  | 0 => 0
  | m + 1 => enc D y m + y m * D ^ m
theorem enc_lt {D : Nat} {y : Nat → Nat} : ∀ {m : Nat}, (∀ l, l < m → y l < D) → enc D y m < D ^ m
  | 0, _ => by simp [enc]
  | m + 1, h => by
    have h1 := enc_lt (m := m) fun l hl => h l (by omega)
    have h2 := h m (by omega)
    rw [enc, Nat.pow_succ]
    have : y m * D ^ m + D ^ m ≤ D * D ^ m := by
      have := Nat.mul_le_mul_right (D ^ m) (show y m + 1 ≤ D by omega)
      rwa [Nat.add_mul, Nat.one_mul] at this
    rw [Nat.mul_comm (D ^ m) D]
    omega
theorem enc_inj {D : Nat} {y y' : Nat → Nat} : ∀ {m : Nat}, (∀ l, l < m → y l < D) → (∀ l, l < m → y' l < D) → enc D y m = enc D y' m → ∀ l, l < m → y l = y' l
  | 0, _, _, _, l, hl => by omega
  | m + 1, h, h', e, l, hl => by
    have a := enc_lt (m := m) fun l hl => h l (by omega)
    have a' := enc_lt (m := m) fun l hl => h' l (by omega)
    rw [enc, enc] at e
    have hm : y m = y' m := by
      rcases Nat.lt_trichotomy (y m) (y' m) with z | z | z
      · have := Nat.mul_le_mul_right (D ^ m) (show y m + 1 ≤ y' m by omega)
        rw [Nat.add_mul, Nat.one_mul] at this
        omega
      · exact z
      · have := Nat.mul_le_mul_right (D ^ m) (show y' m + 1 ≤ y m by omega)
        rw [Nat.add_mul, Nat.one_mul] at this
        omega
    rw [hm] at e
    by_cases hl2 : l = m
    · rw [hl2]; exact hm
    · exact enc_inj (fun l hl => h l (by omega)) (fun l hl => h' l (by omega)) (Nat.add_right_cancel e) l (by omega)
theorem S_le {f : Nat → Int} {B : Int} : ∀ {n : Nat}, (∀ i, i < n → f i ≤ B) → S n f ≤ n * B
  | 0, _ => by simp [S]
  | n + 1, h => by
    have h1 := S_le (n := n) fun i hi => h i (by omega)
    have h2 := h n (by omega)
    rw [S]
    have : ((n + 1 : Nat) : Int) * B = n * B + B := by rw [Int.natCast_add, Int.add_mul]; simp
    omega
theorem S_abs {f : Nat → Int} {B : Int} {n : Nat} (h : ∀ i, i < n → -B ≤ f i ∧ f i ≤ B) : -(n * B) ≤ S n f ∧ S n f ≤ n * B := by
  refine ⟨?_, S_le fun i hi => (h i hi).2⟩
  have := S_le (f := fun i => -f i) (B := B) (n := n) fun i hi => by have := (h i hi).1; show -f i ≤ B; omega
  rw [S_neg] at this
  omega
theorem mul_abs {a b A B : Int} (h1 : -A ≤ a ∧ a ≤ A) (h2 : -B ≤ b ∧ b ≤ B) : -(A * B) ≤ a * b ∧ a * b ≤ A * B := by
  have e : (a * b).natAbs ≤ A.toNat * B.toNat := by
    rw [Int.natAbs_mul]
    exact Nat.mul_le_mul (by omega) (by omega)
  have hA : (A.toNat : Int) = A := by omega
  have hB : (B.toNat : Int) = B := by omega
  have : ((A.toNat * B.toNat : Nat) : Int) = A * B := by rw [Int.natCast_mul, hA, hB]
  omega
/-- Siegel: fewer equations than unknowns have a small solution -/
theorem siegel {m k M : Nat} {a : Nat → Nat → Int} (hmk : m < k) (hM : 0 < M) (ha : ∀ l j, l < m → j < k → -(M : Int) ≤ a l j ∧ a l j ≤ M) :
    ∃ c : Nat → Int, (∃ j, j < k ∧ c j ≠ 0) ∧ (∀ j, -(((2 * k * M) ^ m : Nat) : Int) ≤ c j ∧ c j ≤ ((2 * k * M) ^ m : Nat)) ∧ ∀ l, l < m → (S k fun j => c j * a l j) = 0 := by
  generalize hCd : (2 * k * M) ^ m = C
  have dlt : ∀ n j, dig (C + 1) n j < C + 1 := fun n j => Nat.mod_lt _ (by omega)
  -- the value of an equation
  let v : Nat → Nat → Int := fun n l => S k fun j => (dig (C + 1) n j : Int) * a l j
  have vb : ∀ n l, l < m → -((k : Int) * ((C : Int) * M)) ≤ v n l ∧ v n l ≤ k * ((C : Int) * M) := fun n l hl =>
    S_abs fun j hj => mul_abs ⟨by have := dlt n j; omega, by have := dlt n j; omega⟩ (ha l j hl hj)
  let y : Nat → Nat → Nat := fun n l => (v n l + k * ((C : Int) * M)).toNat
  have yb : ∀ n l, l < m → y n l < 2 * k * M * (C + 1) := fun n l hl => by
    obtain ⟨h1, h2⟩ := vb n l hl
    have e : ((2 * k * M * (C + 1) : Nat) : Int) = 2 * ((k : Int) * ((C : Int) * M)) + ((2 * k * M : Nat) : Int) := by
      have : (2 * k * M * (C + 1) : Nat) = 2 * (k * (C * M)) + 2 * k * M := by rw [Nat.mul_add, Nat.mul_one]; congr 1; ac_rfl
      rw [this, Int.natCast_add, Int.natCast_mul, Int.natCast_mul, Int.natCast_mul]
      rfl
    have p : 0 < 2 * k * M := Nat.mul_pos (by omega) hM
    show (v n l + (k : Int) * ((C : Int) * M)).toNat < 2 * k * M * (C + 1)
    generalize (k : Int) * ((C : Int) * M) = T at *
    generalize 2 * k * M * (C + 1) = Q at *
    generalize 2 * k * M = P at *
    omega
  have hR : (2 * k * M * (C + 1)) ^ m < (C + 1) ^ k := by
    rw [Nat.mul_pow, hCd]
    have h1 : C * (C + 1) ^ m < (C + 1) ^ (m + 1) := by
      rw [Nat.pow_succ, Nat.mul_comm]
      exact Nat.mul_lt_mul_of_pos_left (by omega) (Nat.pow_pos (by omega))
    exact Nat.lt_of_lt_of_le h1 (Nat.pow_le_pow_right (by omega) hmk)
  obtain ⟨n, n', h1, h2, h3⟩ := pigeon _ ((C + 1) ^ k) (fun n => enc (2 * k * M * (C + 1)) (y n) m) (fun n _ => enc_lt (yb n)) hR
  refine ⟨fun j => (dig (C + 1) n j : Int) - dig (C + 1) n' j, Classical.byContradiction fun hn => ?_, fun j => ⟨by have := dlt n j; have := dlt n' j; dsimp only; omega, by have := dlt n j; have := dlt n' j; dsimp only; omega⟩, fun l hl => ?_⟩
  · have := dig_eq (C := C + 1) (by omega) k n n' (by omega) h2 fun j hj => Classical.byContradiction fun hd => hn ⟨j, hj, by dsimp only; omega⟩
    omega
  · have e := enc_inj (yb n) (yb n') h3 l hl
    have e2 : v n l = v n' l := by
      have a1 := vb n l hl
      have a2 := vb n' l hl
      have e : (v n l + k * ((C : Int) * M)).toNat = (v n' l + k * ((C : Int) * M)).toNat := e
      omega
    have : (S k fun j => ((dig (C + 1) n j : Int) - dig (C + 1) n' j) * a l j) = v n l - v n' l := by
      show _ = (S k fun j => (dig (C + 1) n j : Int) * a l j) - (S k fun j => (dig (C + 1) n' j : Int) * a l j)
      rw [← S_sub]
      exact S_congr fun j _ => by rw [Int.sub_mul]
    rw [this, e2]
    omega
/-- the numbers of a canonical family, by those of vectors with the same span -/
theorem Cn.bound {k m M : Nat} {b : Nat → Vc} {q : Nat → Nat} {V : Nat → Vc} (h : Cn k b q) (hM : 0 < M) (hV : ∀ j x, j < m → -(M : Int) ≤ V j x ∧ V j x ≤ M) (s1 : ∀ j, j < m → Sp (Fam k b) (V j)) (s2 : ∀ i, i < k → Sp (Fam m V) (b i)) {i : Nat} (hi : i < k) (x : Nat) :
    -(((2 * k * M) ^ k : Nat) : Int) ≤ b i x ∧ b i x ≤ ((2 * k * M) ^ k : Nat) := by
  obtain ⟨k2, σ, t1, t2, t3⟩ := indep_part m V
  have kk : k = k2 := by
    have a1 : k ≤ k2 := steinitz h.indep fun i hi => (s2 i hi).mono fun v ⟨j, hj, e⟩ => by rw [e]; exact t3 j hj
    have a2 : k2 ≤ k := steinitz t2 fun i hi => s1 _ (t1 i hi)
    omega
  subst kk
  obtain ⟨k, rfl⟩ : ∃ n, k = n + 1 := ⟨k - 1, by omega⟩
  -- the other pivots
  obtain ⟨c, ⟨j0, hj0, hc0⟩, c2, c3⟩ := siegel (m := k) (k := k + 1) (M := M) (a := fun l j => V (σ j) (q (skip i l))) (by omega) hM fun l j _ hj => hV _ _ (t1 j hj)
  let u : Vc := fun x => S (k + 1) fun j => c j * V (σ j) x
  have us : Sp (Fam (k + 1) b) u := Sp.sum fun j hj => s1 _ (t1 j hj)
  obtain ⟨t, ht⟩ := h.mult us hi fun j hj hne => by
    obtain ⟨l, hl, e⟩ : ∃ l, l < k ∧ skip i l = j := by
      by_cases hji : j < i
      · exact ⟨j, by omega, if_pos hji⟩
      · exact ⟨j - 1, by omega, by unfold skip; rw [if_neg (by omega)]; omega⟩
    have := c3 l hl
    rw [e] at this
    exact this
  have t0 : t ≠ 0 := fun z => hc0 (t2 c (fun x => by have := ht x; rw [z, Int.zero_mul] at this; exact this) j0 hj0)
  have ub : -(((k + 1 : Nat) : Int) * (((2 * (k + 1) * M) ^ k : Nat) * (M : Int))) ≤ u x ∧ u x ≤ ((k + 1 : Nat) : Int) * (((2 * (k + 1) * M) ^ k : Nat) * (M : Int)) := S_abs fun j hj => mul_abs (c2 j) (hV _ x (t1 j hj))
  have e : (((2 * (k + 1) * M) ^ (k + 1) : Nat) : Int) = 2 * (((k + 1 : Nat) : Int) * (((2 * (k + 1) * M) ^ k : Nat) * (M : Int))) := by
    have : (2 * (k + 1) * M) ^ (k + 1) = 2 * ((k + 1) * ((2 * (k + 1) * M) ^ k * M)) := by rw [Nat.pow_succ]; ac_rfl
    rw [this, Int.natCast_mul, Int.natCast_mul, Int.natCast_mul]
    rfl
  have le : (b (i) x).natAbs ≤ (u x).natAbs := by
    rw [ht x, Int.natAbs_mul]
    exact Nat.le_mul_of_pos_left _ (by omega)
  omega
end LA

namespace LA
def fn (l : List Int) : Vc := fun x => l.getD x 0
def pivotL : List Int → Nat
  | [] => 0
  | x :: r => if x = 0 then pivotL r + 1 else 0
def gcdN (l : List Int) : Nat := l.foldl (fun g x => Nat.gcd g x.natAbs) 0
theorem fn_cons0 {x : Int} {r : List Int} : fn (x :: r) 0 = x := rfl
theorem fn_consS {x : Int} {r : List Int} {i : Nat} : fn (x :: r) (i + 1) = fn r i := rfl
theorem fn_out {l : List Int} {x : Nat} (h : l.length ≤ x) : fn l x = 0 := by
  unfold fn
  rw [List.getD_eq_getElem?_getD, List.getElem?_eq_none h]
  rfl
theorem fn_at {l : List Int} {x : Nat} (h : x < l.length) : fn l x = l[x] := by
  unfold fn
  rw [List.getD_eq_getElem?_getD, List.getElem?_eq_getElem h]
  rfl
theorem fn_ext {a b : List Int} (hl : a.length = b.length) (h : ∀ x, fn a x = fn b x) : a = b := by
  apply List.ext_getElem hl
  intro i h1 h2
  have := h i
  rwa [fn_at h1, fn_at h2] at this
theorem piv_le : ∀ l : List Int, pivotL l ≤ l.length
  | [] => Nat.le_refl _
  | x :: r => by
    have := piv_le r
    unfold pivotL
    split <;> simp <;> omega
theorem piv_low : ∀ {l : List Int} {x : Nat}, x < pivotL l → fn l x = 0
  | [], x, h => by simp [pivotL] at h
  | y :: r, x, h => by
    unfold pivotL at h
    split at h
    · rename_i hy
      cases x with
      | zero => rw [fn_cons0, hy]
      | succ x => rw [fn_consS]; exact piv_low (by omega)
    · omega
theorem piv_at : ∀ {l : List Int}, pivotL l < l.length → fn l (pivotL l) ≠ 0
  | [], h => by simp at h
  | y :: r, h => by
    unfold pivotL at h ⊢
    split at h
    · rename_i hy
      rw [if_pos hy, fn_consS]
      exact piv_at (by simpa using h)
    · rename_i hy
      rw [if_neg hy, fn_cons0]
      exact hy
theorem piv_all {l : List Int} (h : pivotL l = l.length) (x : Nat) : fn l x = 0 := by
  rcases Nat.lt_or_ge x l.length with y | y
  · exact piv_low (by omega)
  · exact fn_out y
theorem piv_of {l : List Int} {p : Nat} (h : Lead (fn l) p) : pivotL l = p := by
  have hp : p < l.length := Nat.lt_of_not_le fun y => h.1 (fn_out y)
  rcases Nat.lt_trichotomy (pivotL l) p with y | y | y
  · exact absurd (h.2 _ y) (piv_at (by omega))
  · exact y
  · exact absurd (piv_low y) h.1
theorem piv_nz {l : List Int} {x : Nat} (h : fn l x ≠ 0) : pivotL l < l.length := by
  have := piv_le l
  rcases Nat.lt_or_ge (pivotL l) l.length with y | y
  · exact y
  · exact absurd (piv_all (by omega) x) h
theorem bez (a b : Nat) : ∃ x y : Int, x * a + y * b = (Nat.gcd a b : Int) := by
  induction a, b using Nat.gcd.induction with
  | H0 n => exact ⟨0, 1, by simp⟩
  | H1 m n hm ih =>
    obtain ⟨x, y, e⟩ := ih
    rw [← Nat.gcd_rec] at e
    refine ⟨y - x * (n / m : Nat), x, ?_⟩
    rw [← e]
    have h := Nat.div_add_mod n m
    have h2 : (n : Int) = m * (n / m : Nat) + (n % m : Nat) := by rw [← Int.natCast_mul, ← Int.natCast_add, h]
    rw [Int.sub_mul]
    have : x * (n : Int) = x * m * (n / m : Nat) + x * (n % m : Nat) := by
      have h3 : x * (n : Int) = x * ((m : Int) * ((n / m : Nat) : Int) + ((n % m : Nat) : Int)) := congrArg (fun t => x * t) h2
      rw [h3, Int.mul_add, ← Int.mul_assoc]
    rw [this]
    have e3 : x * ((n / m : Nat) : Int) * m = x * m * ((n / m : Nat) : Int) := by ac_rfl
    omega
theorem gcd_fold : ∀ (l : List Int) (g : Nat), (l.foldl (fun g x => Nat.gcd g x.natAbs) g ∣ g ∧ ∀ x ∈ l, ((l.foldl (fun g x => Nat.gcd g x.natAbs) g : Nat) : Int) ∣ x) ∧ ∃ (a : Int) (u : Nat → Int), a * g + (S l.length fun i => u i * fn l i) = ((l.foldl (fun g x => Nat.gcd g x.natAbs) g : Nat) : Int)
  | [], g => ⟨⟨Nat.dvd_refl _, fun x h => by cases h⟩, 1, fun _ => 0, by simp [S]⟩
  | y :: r, g => by
    obtain ⟨⟨h1, h2⟩, a, u, e⟩ := gcd_fold r (Nat.gcd g y.natAbs)
    obtain ⟨p, q, e2⟩ := bez g y.natAbs
    refine ⟨⟨Nat.dvd_trans h1 (Nat.gcd_dvd_left _ _), fun x hx => ?_⟩, a * p, fun i => if i = 0 then a * q * y.sign else u (i - 1), ?_⟩
    · rcases List.mem_cons.mp hx with rfl | hx
      · exact Int.natAbs_dvd_natAbs.mp (by rw [Int.natAbs_natCast]; exact Nat.dvd_trans h1 (Nat.gcd_dvd_right _ _))
      · exact h2 x hx
    · rw [List.foldl_cons, ← e, ← e2]
      have sh : ∀ (f : Nat → Int) (n : Nat), S (n + 1) f = f 0 + S n (fun i => f (i + 1)) := fun f n => by
        have := S_skip (f := f) (i0 := 0) (n := n) (by omega)
        rw [this, show (fun i => f (skip 0 i)) = fun i => f (i + 1) from funext fun i => by unfold skip; rw [if_neg (by omega)]]
        omega
      rw [List.length_cons, sh]
      have z : ∀ i, (if i + 1 = 0 then a * q * y.sign else u (i + 1 - 1)) = u i := fun i => by rw [if_neg (by omega)]; rfl
      simp only [z, fn_consS, fn_cons0, if_true]
      have sg : a * q * y.sign * y = a * q * (y.natAbs : Int) := by
        rw [Int.mul_assoc]
        congr 1
        rcases Int.lt_trichotomy y 0 with z | z | z
        · rw [Int.sign_eq_neg_one_of_neg z]; omega
        · rw [z]; rfl
        · rw [Int.sign_eq_one_of_pos z]; omega
      rw [sg, Int.mul_add]
      have e3 : a * (p * (g : Int)) = a * p * g := by rw [Int.mul_assoc]
      have e4 : a * (q * (y.natAbs : Int)) = a * q * (y.natAbs : Int) := by rw [Int.mul_assoc]
      omega
theorem gcd_dvd {l : List Int} (x : Nat) : (gcdN l : Int) ∣ fn l x := by
  rcases Nat.lt_or_ge x l.length with y | y
  · rw [fn_at y]; exact (gcd_fold l 0).1.2 _ (List.getElem_mem y)
  · rw [fn_out y]; exact Int.dvd_zero _
theorem gcd_bez (l : List Int) : ∃ u : Nat → Int, (S l.length fun i => u i * fn l i) = (gcdN l : Int) := by
  obtain ⟨a, u, e⟩ := (gcd_fold l 0).2
  exact ⟨u, by rw [← show a * ((0 : Nat) : Int) + (S l.length fun i => u i * fn l i) = (gcdN l : Int) from e]; simp⟩
theorem gcd_pos {l : List Int} {x : Nat} (h : fn l x ≠ 0) : 0 < gcdN l := by
  rcases Nat.eq_zero_or_pos (gcdN l) with z | z
  · have := gcd_dvd (l := l) x
    rw [z] at this
    exact absurd (Int.zero_dvd.mp this) h
  · exact z
end LA

namespace LA
/-- the span of a list of rows -/
def Mem (B : List (List Int)) : Vc → Prop := fun v => ∃ b, b ∈ B ∧ v = fn b
abbrev SpL (B : List (List Int)) (v : Vc) : Prop := Sp (Mem B) v
structure CnL (n : Nat) (B : List (List Int)) : Prop where
  len : ∀ b, b ∈ B → b.length = n
  pos : ∀ b, b ∈ B → 0 < fn b (pivotL b)
  off : ∀ b, b ∈ B → ∀ c, c ∈ B → pivotL b ≠ pivotL c → fn b (pivotL c) = 0
  prim : ∀ b, b ∈ B → gcdN b = 1
  asc : B.Pairwise fun a b => pivotL a < pivotL b
theorem CnL.nil {n : Nat} : CnL n [] := ⟨fun _ h => (nomatch h), fun _ h => (nomatch h), fun _ h => (nomatch h), fun _ h => (nomatch h), List.Pairwise.nil⟩
section
variable {n : Nat} {B : List (List Int)} {b c row r : List Int} {v : Vc}
theorem CnL.plt (h : CnL n B) (hb : b ∈ B) : pivotL b < n := by
  have := piv_nz (l := b) (x := pivotL b) (by have := h.pos b hb; omega)
  rwa [h.len b hb] at this
theorem CnL.eq_of (h : CnL n B) (hb : b ∈ B) (hc : c ∈ B) (e : pivotL b = pivotL c) : b = c := by
  obtain ⟨i, hi, rfl⟩ := List.mem_iff_getElem.mp hb
  obtain ⟨j, hj, rfl⟩ := List.mem_iff_getElem.mp hc
  have a := List.pairwise_iff_getElem.mp h.asc
  rcases Nat.lt_trichotomy i j with l | l | l
  · have := a i j hi hj l; omega
  · subst l; rfl
  · have := a j i hj hi l; omega
/-- as a family -/
def fam (B : List (List Int)) : Nat → Vc := fun i => fn (B.getD i [])
def pivs (B : List (List Int)) : Nat → Nat := fun i => pivotL (B.getD i [])
theorem getD_at {i : Nat} (h : i < B.length) : B.getD i [] = B[i] := by
  rw [List.getD_eq_getElem?_getD, List.getElem?_eq_getElem h]; rfl
theorem mem_fam : Mem B v ↔ Fam B.length (fam B) v := by
  constructor
  · rintro ⟨b, hb, rfl⟩
    obtain ⟨i, hi, rfl⟩ := List.mem_iff_getElem.mp hb
    exact ⟨i, hi, by unfold fam; rw [getD_at hi]⟩
  · rintro ⟨i, hi, rfl⟩
    exact ⟨B[i], List.getElem_mem hi, by unfold fam; rw [getD_at hi]⟩
theorem sp_fam : SpL B v ↔ Sp (Fam B.length (fam B)) v := ⟨fun h => h.mono fun w hw => .gen (mem_fam.mp hw), fun h => h.mono fun w hw => .gen (mem_fam.mpr hw)⟩
theorem CnL.cn (h : CnL n B) : Cn B.length (fam B) (pivs B) where
  pos := fun i hi => by unfold fam pivs; rw [getD_at hi]; exact h.pos _ (List.getElem_mem hi)
  low := fun i x hi hx => by unfold fam; unfold pivs at hx; rw [getD_at hi] at hx ⊢; exact piv_low hx
  off := fun i j hi hj hne => by
    unfold fam pivs
    rw [getD_at hi, getD_at hj]
    refine h.off _ (List.getElem_mem hi) _ (List.getElem_mem hj) fun e => ?_
    have a := List.pairwise_iff_getElem.mp h.asc
    rcases Nat.lt_or_ge i j with l | l
    · have := a i j hi hj l; omega
    · have := a j i hj hi (by omega); omega
  prim := fun i hi => by
    obtain ⟨u, e⟩ := gcd_bez B[i]
    refine ⟨B[i].length, u, ?_⟩
    unfold fam
    rw [getD_at hi, e, h.prim _ (List.getElem_mem hi)]
    rfl
  asc := fun i j hij hj => by
    unfold pivs
    rw [getD_at (by omega), getD_at hj]
    exact List.pairwise_iff_getElem.mp h.asc i j (by omega) hj hij
/-- one canonical basis for each span -/
theorem CnL.unique {C : List (List Int)} (h : CnL n B) (k : CnL n C) (s : ∀ v, SpL B v ↔ SpL C v) : B = C := by
  obtain ⟨e1, e2⟩ := h.cn.unique k.cn (fun v hv => sp_fam.mp ((s v).mp (sp_fam.mpr hv))) (fun v hv => sp_fam.mp ((s v).mpr (sp_fam.mpr hv)))
  apply List.ext_getElem e1
  intro i h1 h2
  have := (e2 i h1).2
  refine fn_ext ((h.len _ (List.getElem_mem h1)).trans (k.len _ (List.getElem_mem h2)).symm) fun x => ?_
  have := this x
  unfold fam at this
  rwa [getD_at h1, getD_at h2] at this
/-- a vector of the span that is zero at all pivots -/
theorem CnL.vanish (h : CnL n B) (s : SpL B v) (z : ∀ b, b ∈ B → v (pivotL b) = 0) (x : Nat) : v x = 0 :=
  h.cn.vanish (sp_fam.mp s) (fun j hj => by unfold pivs; rw [getD_at hj]; exact z _ (List.getElem_mem hj)) x
def sgD (l : List Int) : Int := if fn l (pivotL l) < 0 then -(gcdN l : Int) else gcdN l
def primL (l : List Int) : List Int := if pivotL l = l.length then l else l.map fun x => Int.fdiv x (sgD l)
theorem prim_len : (primL r).length = r.length := by unfold primL; split <;> simp
theorem map_fn {f : Int → Int} {l : List Int} (h0 : f 0 = 0) (x : Nat) : fn (l.map f) x = f (fn l x) := by
  rcases Nat.lt_or_ge x l.length with y | y
  · rw [fn_at (by simpa using y), fn_at y, List.getElem_map]
  · rw [fn_out (by simpa using y), fn_out y, h0]
theorem sgd_ne (h : pivotL r < r.length) : sgD r ≠ 0 := by
  have := gcd_pos (piv_at h)
  unfold sgD
  split <;> omega
theorem prim_fn (h : pivotL r < r.length) (x : Nat) : sgD r * fn (primL r) x = fn r x := by
  unfold primL
  rw [if_neg (by omega), map_fn (f := fun x => Int.fdiv x (sgD r)) (Int.zero_fdiv _)]
  have d : sgD r ∣ fn r x := by
    unfold sgD
    split
    · exact Int.neg_dvd.mpr (gcd_dvd x)
    · exact gcd_dvd x
  rw [Int.fdiv_eq_ediv_of_dvd d]
  exact Int.mul_ediv_cancel' d
theorem prim_lead (h : pivotL r < r.length) : pivotL (primL r) = pivotL r ∧ 0 < fn (primL r) (pivotL r) := by
  have e := prim_fn h
  have hp := piv_at h
  have hg := gcd_pos hp
  refine ⟨piv_of ⟨fun z => hp (by rw [← e, z, Int.mul_zero]), fun x hx => ?_⟩, ?_⟩
  · have := e x
    rw [piv_low hx] at this
    rcases Int.mul_eq_zero.mp this with y | y
    · exact absurd y (sgd_ne h)
    · exact y
  · have := e (pivotL r)
    unfold sgD at this
    apply Classical.byContradiction
    intro hn
    split at this
    · rename_i hneg
      have : 0 ≤ -(gcdN r : Int) * fn (primL r) (pivotL r) := Int.mul_nonneg_of_nonpos_of_nonpos (by omega) (by omega)
      omega
    · have : (gcdN r : Int) * fn (primL r) (pivotL r) ≤ 0 := Int.mul_nonpos_of_nonneg_of_nonpos (by omega) (by omega)
      omega
theorem prim_gcd (h : pivotL r < r.length) : gcdN (primL r) = 1 := by
  obtain ⟨u, hu⟩ := gcd_bez r
  have e : (gcdN r : Int) = sgD r * S r.length fun i => u i * fn (primL r) i := by
    rw [← hu, ← S_mul]
    exact S_congr fun i _ => by rw [← prim_fn h]; ac_rfl
  -- the divisor of the primitive row divides 1
  have d1 : ((gcdN (primL r) : Nat) : Int) ∣ S r.length fun i => u i * fn (primL r) i := by
    have : ∀ m, ((gcdN (primL r) : Nat) : Int) ∣ S m fun i => u i * fn (primL r) i := fun m => by
      induction m with
      | zero => exact Int.dvd_zero _
      | succ m ih => exact Int.dvd_add ih (Int.dvd_trans (gcd_dvd m) (Int.dvd_mul_left _ _))
    exact this _
  have hg := gcd_pos (piv_at h)
  have s1 : (S r.length fun i => u i * fn (primL r) i) = 1 ∨ (S r.length fun i => u i * fn (primL r) i) = -1 := by
    generalize (S r.length fun i => u i * fn (primL r) i) = t at e
    unfold sgD at e
    split at e
    · right
      have e2 : (gcdN r : Int) * (-t) = (gcdN r : Int) * 1 := by rw [Int.mul_one, Int.mul_neg, ← Int.neg_mul]; exact e.symm
      have := Int.eq_of_mul_eq_mul_left (by omega) e2
      omega
    · left
      have e2 : (gcdN r : Int) * t = (gcdN r : Int) * 1 := by rw [Int.mul_one]; exact e.symm
      exact Int.eq_of_mul_eq_mul_left (by omega) e2
  have d2 : ((gcdN (primL r) : Nat) : Int) ∣ 1 := by
    rcases s1 with y | y
    · rwa [y] at d1
    · rw [y] at d1; exact Int.dvd_neg.mp d1
  have := Int.le_of_dvd (by decide) d2
  have p : 0 < gcdN (primL r) := gcd_pos (x := pivotL r) (by have := (prim_lead h).2; omega)
  omega
theorem sp_prim {G : Vc → Prop} (h : pivotL r < r.length) (s : Sp G (fn r)) : Sp G (fn (primL r)) := .div (sgD r) (sgd_ne h) (by rw [show (fun x => sgD r * fn (primL r) x) = fn r from funext (prim_fn h)]; exact s)
theorem prim_sp {G : Vc → Prop} (h : pivotL r < r.length) (s : Sp G (fn (primL r))) : Sp G (fn r) := by
  have := Sp.smul (sgD r) s
  rwa [show (fun x => sgD r * fn (primL r) x) = fn r from funext (prim_fn h)] at this
theorem prim_zero (h : pivotL r = r.length) : primL r = r := if_pos h
def combL (s : Int) (row : List Int) (f : Int) (base : List Int) : List Int := List.zipWith (fun a b => s * a - f * b) row base
theorem comb_fn {s f : Int} {row base : List Int} (hl : row.length = base.length) (x : Nat) : fn (combL s row f base) x = s * fn row x - f * fn base x := by
  rcases Nat.lt_or_ge x row.length with y | y
  · rw [fn_at (by simp [combL]; omega), fn_at y, fn_at (by omega)]
    simp [combL]
  · rw [fn_out (by simp [combL]; omega), fn_out y, fn_out (by omega)]
    omega
def clrL (row base : List Int) : List Int := if fn row (pivotL base) = 0 then row else primL (combL (fn base (pivotL base)) row (fn row (pivotL base)) base)
theorem clr_len (h : row.length = n) (k : r.length = n) : (clrL row r).length = n := by
  unfold clrL
  split
  · exact h
  · rw [prim_len]; simp [combL]; omega
structure Clr (b r c : List Int) : Prop where
  piv : pivotL c = pivotL b
  pos : 0 < fn c (pivotL b)
  zero : fn c (pivotL r) = 0
  off : ∀ x, fn b x = 0 → fn r x = 0 → fn c x = 0
  prim : gcdN c = 1
  sp1 : ∀ G : Vc → Prop, Sp G (fn b) → Sp G (fn r) → Sp G (fn c)
  sp2 : ∀ G : Vc → Prop, Sp G (fn c) → Sp G (fn r) → Sp G (fn b)
theorem clr_ok (hl : b.length = r.length) (hb : 0 < fn b (pivotL b)) (hg : gcdN b = 1) (hr : 0 < fn r (pivotL r)) (hz : fn r (pivotL b) = 0) : Clr b r (clrL b r) := by
  unfold clrL
  by_cases h0 : fn b (pivotL r) = 0
  · rw [if_pos h0]
    exact ⟨rfl, hb, h0, fun x h _ => h, hg, fun G h _ => h, fun G h _ => h⟩
  · rw [if_neg h0]
    have hlt : pivotL b < pivotL r := by
      rcases Nat.lt_trichotomy (pivotL b) (pivotL r) with y | y | y
      · exact y
      · rw [y] at hz; omega
      · exact absurd (piv_low y) h0
    have e := comb_fn (s := fn r (pivotL r)) (f := fn b (pivotL r)) hl
    have ld : pivotL (combL (fn r (pivotL r)) b (fn b (pivotL r)) r) = pivotL b := by
      refine piv_of ⟨?_, fun x hx => ?_⟩
      · rw [e, hz, Int.mul_zero, Int.sub_zero]
        exact Int.mul_ne_zero (by omega) (by omega)
      · rw [e, piv_low hx, piv_low (show x < pivotL r by omega)]
        omega
    have zl : (combL (fn r (pivotL r)) b (fn b (pivotL r)) r).length = r.length := by simp [combL]; omega
    have hp : pivotL (combL (fn r (pivotL r)) b (fn b (pivotL r)) r) < (combL (fn r (pivotL r)) b (fn b (pivotL r)) r).length := by
      rw [ld, zl, ← hl]
      exact piv_nz (x := pivotL b) (by omega)
    obtain ⟨p1, p2⟩ := prim_lead hp
    have pf := prim_fn hp
    have z0 : ∀ x, fn (combL (fn r (pivotL r)) b (fn b (pivotL r)) r) x = 0 → fn (primL (combL (fn r (pivotL r)) b (fn b (pivotL r)) r)) x = 0 := fun x hx => by
      have := pf x
      rw [hx] at this
      rcases Int.mul_eq_zero.mp this with y | y
      · exact absurd y (sgd_ne hp)
      · exact y
    have fe : fn (combL (fn r (pivotL r)) b (fn b (pivotL r)) r) = fun x => fn r (pivotL r) * fn b x - fn b (pivotL r) * fn r x := funext e
    refine ⟨p1.trans ld, by rw [ld] at p2; exact p2, z0 _ (by rw [e, Int.mul_comm (fn b _), Int.sub_self]), fun x h1 h2 => z0 x (by rw [e, h1, h2]; omega), prim_gcd hp, fun G h1 h2 => ?_, fun G h1 h2 => ?_⟩
    · refine sp_prim hp ?_
      rw [fe]
      exact h1.sub2 _ _ h2
    · have h3 := prim_sp hp h1
      have h4 := Sp.lin 1 (fn b (pivotL r)) h3 h2
      refine .div (fn r (pivotL r)) (by omega) ?_
      rwa [show lin 1 (fn (combL (fn r (pivotL r)) b (fn b (pivotL r)) r)) (fn b (pivotL r)) (fn r) = fun x => fn r (pivotL r) * fn b x from funext fun x => by
        show 1 * fn (combL _ _ _ _) x + fn b (pivotL r) * fn r x = _
        rw [e]; omega] at h4
end
end LA

namespace LA
def mulS (row base : List Int) (m : Int) : Int := if fn row (pivotL base) = 0 then m else Int.fdiv (m * fn base (pivotL base)) (gcdN [m, fn base (pivotL base)])
def mulL (B : List (List Int)) (row : List Int) : Int := B.foldl (fun m base => mulS row base m) 1
def facL (m : Int) (row base : List Int) : Int := Int.fdiv m (fn base (pivotL base)) * fn row (pivotL base)
def subL (f : Int) (rest base : List Int) : List Int := List.zipWith (fun a b => a - f * b) rest base
def redS (m : Int) (row rest base : List Int) : List Int := if facL m row base = 0 then rest else subL (facL m row base) rest base
def redL (B : List (List Int)) (row : List Int) : List Int := B.foldl (redS (mulL B row) row) (row.map fun x => mulL B row * x)
theorem gcd2 (a b : Int) : gcdN [a, b] = Nat.gcd a.natAbs b.natAbs := by simp [gcdN]
/-- the multiple: positive, and divided by the pivots that count -/
theorem mulS_ok {row base : List Int} {m : Int} (hm : 0 < m) (hp : 0 < fn base (pivotL base)) : 0 < mulS row base m ∧ m ∣ mulS row base m ∧ (fn row (pivotL base) ≠ 0 → fn base (pivotL base) ∣ mulS row base m) ∧ mulS row base m ≤ m * fn base (pivotL base) := by
  unfold mulS
  split
  · rename_i h
    exact ⟨hm, Int.dvd_refl _, fun q => absurd h q, by have := Int.mul_le_mul_of_nonneg_left (show 1 ≤ fn base (pivotL base) by omega) (show 0 ≤ m by omega); omega⟩
  · generalize fn base (pivotL base) = p at *
    rw [gcd2]
    have d1 : ((Nat.gcd m.natAbs p.natAbs : Nat) : Int) ∣ m := Int.natAbs_dvd_natAbs.mp (by rw [Int.natAbs_natCast]; exact Nat.gcd_dvd_left _ _)
    have d2 : ((Nat.gcd m.natAbs p.natAbs : Nat) : Int) ∣ p := Int.natAbs_dvd_natAbs.mp (by rw [Int.natAbs_natCast]; exact Nat.gcd_dvd_right _ _)
    have gp : 0 < Nat.gcd m.natAbs p.natAbs := Nat.gcd_pos_of_pos_left _ (by omega)
    generalize Nat.gcd m.natAbs p.natAbs = g at *
    obtain ⟨a, ha⟩ := d1
    obtain ⟨b, hb⟩ := d2
    have e : Int.fdiv (m * p) (g : Int) = m * b := by
      rw [hb, show m * ((g : Int) * b) = (g : Int) * (m * b) by ac_rfl]
      rw [Int.fdiv_eq_ediv_of_dvd (Int.dvd_mul_right _ _)]
      exact Int.mul_ediv_cancel_left _ (by omega)
    have e2 : m * b = a * p := by rw [ha, hb]; ac_rfl
    have bp : 0 < b := by
      apply Classical.byContradiction
      intro hn
      have : (g : Int) * b ≤ 0 := Int.mul_nonpos_of_nonneg_of_nonpos (by omega) (by omega)
      omega
    have bl : b ≤ p := by
      rw [hb]
      have := Int.mul_le_mul_of_nonneg_right (show (1 : Int) ≤ g by omega) (show 0 ≤ b by omega)
      omega
    rw [e]
    refine ⟨Int.mul_pos hm bp, Int.dvd_mul_right _ _, fun _ => by rw [e2]; exact Int.dvd_mul_left _ _, Int.mul_le_mul_of_nonneg_left bl (by omega)⟩
theorem mul_fold {row : List Int} : ∀ (B : List (List Int)) (m : Int), 0 < m → (∀ b, b ∈ B → 0 < fn b (pivotL b)) → 0 < B.foldl (fun m base => mulS row base m) m ∧ m ∣ B.foldl (fun m base => mulS row base m) m ∧ ∀ b, b ∈ B → fn row (pivotL b) ≠ 0 → fn b (pivotL b) ∣ B.foldl (fun m base => mulS row base m) m
  | [], m, hm, h => ⟨hm, Int.dvd_refl _, fun b hb => (nomatch hb)⟩
  | b :: r, m, hm, h => by
    obtain ⟨h1, h2, h3, _⟩ := mulS_ok (row := row) hm (h b List.mem_cons_self)
    obtain ⟨k1, k2, k3⟩ := mul_fold r (mulS row b m) h1 fun c hc => h c (List.mem_cons_of_mem _ hc)
    refine ⟨k1, Int.dvd_trans h2 k2, fun c hc hne => ?_⟩
    rcases List.mem_cons.mp hc with rfl | hc
    · exact Int.dvd_trans (h3 hne) k2
    · exact k3 c hc hne
theorem sub_fn {f : Int} {rest base : List Int} (hl : rest.length = base.length) (x : Nat) : fn (subL f rest base) x = fn rest x - f * fn base x := by
  have := comb_fn (s := 1) (f := f) hl x
  rw [show combL 1 rest f base = subL f rest base from by unfold combL subL; congr 1; funext a b; omega] at this
  rw [this]; omega
theorem redS_fn {m : Int} {row rest base : List Int} (hl : rest.length = base.length) (x : Nat) : fn (redS m row rest base) x = fn rest x - facL m row base * fn base x := by
  unfold redS
  split
  · rename_i h; rw [h]; omega
  · exact sub_fn hl x
theorem redS_len {m : Int} {row rest base : List Int} (hl : rest.length = base.length) : (redS m row rest base).length = rest.length := by
  unfold redS
  split
  · rfl
  · simp [subL]; omega
theorem red_fold {m : Int} {row : List Int} {n : Nat} : ∀ (C : List (List Int)) (rest : List Int), rest.length = n → (∀ c, c ∈ C → c.length = n) → (C.foldl (redS m row) rest).length = n ∧
    (∀ x, (∀ c, c ∈ C → facL m row c * fn c x = 0) → fn (C.foldl (redS m row) rest) x = fn rest x) ∧
    (∀ c, c ∈ C → ∀ x, C.Nodup → (∀ d, d ∈ C → d ≠ c → fn d x = 0) → fn (C.foldl (redS m row) rest) x = fn rest x - facL m row c * fn c x) ∧
    (∀ G : Vc → Prop, (∀ c, c ∈ C → Sp G (fn c)) → (Sp G (fn rest) ↔ Sp G (fn (C.foldl (redS m row) rest))))
  | [], rest, hl, h => ⟨hl, fun _ _ => rfl, fun c hc => (nomatch hc), fun _ _ => Iff.rfl⟩
  | c :: C, rest, hl, h => by
    have lc := h c List.mem_cons_self
    have l1 : rest.length = c.length := hl.trans lc.symm
    have f1 := redS_fn (m := m) (row := row) l1
    obtain ⟨k1, k2, k3, k4⟩ := red_fold (m := m) (row := row) C (redS m row rest c) ((redS_len l1).trans hl) fun d hd => h d (List.mem_cons_of_mem _ hd)
    refine ⟨k1, fun x hx => ?_, fun d hd x nd hx => ?_, fun G hG => ?_⟩
    · rw [List.foldl_cons, k2 x fun d hd => hx d (List.mem_cons_of_mem _ hd), f1, hx c List.mem_cons_self]
      omega
    · rw [List.foldl_cons]
      have nd' := List.nodup_cons.mp nd
      rcases List.mem_cons.mp hd with rfl | hd
      · rw [k2 x fun e he => by rw [hx e (List.mem_cons_of_mem _ he) (fun q => nd'.1 (q ▸ he)), Int.mul_zero], f1]
      · rw [k3 d hd x nd'.2 fun e he hne => hx e (List.mem_cons_of_mem _ he) hne, f1, hx c List.mem_cons_self (fun q => nd'.1 (q ▸ hd))]
        omega
    · rw [List.foldl_cons, ← k4 G fun d hd => hG d (List.mem_cons_of_mem _ hd)]
      have e : fn (redS m row rest c) = fun x => fn rest x - facL m row c * fn c x := funext f1
      have sc := hG c List.mem_cons_self
      constructor
      · intro s
        rw [e]
        have := Sp.sub2 1 (facL m row c) s sc
        rwa [show (fun x => 1 * fn rest x - facL m row c * fn c x) = fun x => fn rest x - facL m row c * fn c x from funext fun x => by omega] at this
      · intro s
        have := Sp.lin 1 (facL m row c) s sc
        rwa [show lin 1 (fn (redS m row rest c)) (facL m row c) (fn c) = fn rest from funext fun x => by show 1 * fn (redS m row rest c) x + facL m row c * fn c x = _; rw [f1]; omega] at this
section
variable {n : Nat} {B : List (List Int)} {row : List Int}
theorem CnL.nodup (h : CnL n B) : B.Nodup := h.asc.imp fun hab e => by subst e; omega
theorem red_len (h : CnL n B) (hr : row.length = n) : (redL B row).length = n :=
  (red_fold (m := mulL B row) (row := row) B (row.map fun x => mulL B row * x) (by simpa using hr) h.len).1
theorem mul_pos' (h : CnL n B) : 0 < mulL B row ∧ ∀ b, b ∈ B → fn row (pivotL b) ≠ 0 → fn b (pivotL b) ∣ mulL B row := by
  obtain ⟨a, _, c⟩ := mul_fold (row := row) B 1 (by decide) h.pos
  exact ⟨a, c⟩
theorem red_zero (h : CnL n B) (hr : row.length = n) {b : List Int} (hb : b ∈ B) : fn (redL B row) (pivotL b) = 0 := by
  have k := (red_fold (m := mulL B row) (row := row) B (row.map fun x => mulL B row * x) (by simpa using hr) h.len).2.2.1 b hb (pivotL b) h.nodup fun d hd hne => h.off d hd b hb fun e => hne (h.eq_of hd hb e)
  obtain ⟨mp, md⟩ := mul_pos' (row := row) h
  unfold redL
  rw [k, map_fn (f := fun x => mulL B row * x) (Int.mul_zero _)]
  unfold facL
  by_cases z : fn row (pivotL b) = 0
  · rw [z]; simp
  · have d := md b hb z
    rw [Int.fdiv_eq_ediv_of_dvd d]
    have : mulL B row / fn b (pivotL b) * fn row (pivotL b) * fn b (pivotL b) = mulL B row * fn row (pivotL b) := by
      rw [Int.mul_assoc, Int.mul_comm (fn row _), ← Int.mul_assoc, Int.ediv_mul_cancel d]
    omega
theorem red_sp (h : CnL n B) (hr : row.length = n) (G : Vc → Prop) (hG : ∀ b, b ∈ B → Sp G (fn b)) : Sp G (fn row) ↔ Sp G (fn (redL B row)) := by
  have k := (red_fold (m := mulL B row) (row := row) B (row.map fun x => mulL B row * x) (by simpa using hr) h.len).2.2.2 G hG
  have mp := (mul_pos' (row := row) h).1
  have e : fn (row.map fun x => mulL B row * x) = fun x => mulL B row * fn row x := funext fun x => map_fn (f := fun x => mulL B row * x) (Int.mul_zero _) x
  unfold redL
  rw [← k, e]
  exact ⟨fun s => s.smul _, fun s => .div _ (by omega) s⟩
def leP (a b : List Int) : Bool := decide (pivotL a ≤ pivotL b)
def withL (B : List (List Int)) (row : List Int) : List (List Int) :=
  if pivotL (primL (redL B row)) = (primL (redL B row)).length then B else (B.map (fun b => clrL b (primL (redL B row))) ++ [primL (redL B row)]).mergeSort leP
theorem with_ok (h : CnL n B) (hr : row.length = n) : CnL n (withL B row) ∧ (∀ v, SpL (withL B row) v ↔ SpL (row :: B) v) ∧ ((withL B row = B ∧ SpL B (fn row)) ∨ (withL B row).length = B.length + 1 ∧ ¬ SpL B (fn row)) := by
  have inB : ∀ b, b ∈ B → SpL B (fn b) := fun b hb => .gen ⟨b, hb, rfl⟩
  have inR : ∀ b, b ∈ B → SpL (row :: B) (fn b) := fun b hb => .gen ⟨b, List.mem_cons_of_mem _ hb, rfl⟩
  have rl := red_len h hr
  have pl : (primL (redL B row)).length = n := prim_len.trans rl
  unfold withL
  by_cases z : pivotL (primL (redL B row)) = (primL (redL B row)).length
  · rw [if_pos z]
    -- nothing is left
    have z2 : pivotL (redL B row) = (redL B row).length := by
      have := piv_le (redL B row)
      rcases Nat.lt_or_ge (pivotL (redL B row)) (redL B row).length with y | y
      · have := (prim_lead y).1
        rw [this, prim_len] at z
        omega
      · omega
    have rz : fn (redL B row) = zv := funext fun x => piv_all z2 x
    have rin : SpL B (fn row) := (red_sp h hr _ inB).mpr (by rw [rz]; exact .zero)
    refine ⟨h, fun v => ⟨fun s => s.mono fun w ⟨b, hb, e⟩ => by rw [e]; exact inR b hb, fun s => s.mono fun w ⟨b, hb, e⟩ => ?_⟩, .inl ⟨rfl, rin⟩⟩
    rcases List.mem_cons.mp hb with rfl | hb
    · rw [e]; exact rin
    · rw [e]; exact inB b hb
  · rw [if_neg z]
    have z2 : pivotL (redL B row) < (redL B row).length := by
      have := piv_le (redL B row)
      rcases Nat.lt_or_ge (pivotL (redL B row)) (redL B row).length with y | y
      · exact y
      · rw [prim_zero (by omega)] at z; omega
    obtain ⟨p1, p2⟩ := prim_lead z2
    generalize hR : primL (redL B row) = R at *
    have rp : 0 < fn R (pivotL R) := by rw [p1]; exact p2
    have rg : gcdN R = 1 := by rw [← hR]; exact prim_gcd z2
    have rz : ∀ b, b ∈ B → fn R (pivotL b) = 0 := fun b hb => by
      have := prim_fn z2 (pivotL b)
      rw [hR, red_zero h hr hb] at this
      rcases Int.mul_eq_zero.mp this with y | y
      · exact absurd y (sgd_ne z2)
      · exact y
    have cl : ∀ b, b ∈ B → Clr b R (clrL b R) := fun b hb => clr_ok ((h.len b hb).trans pl.symm) (h.pos b hb) (h.prim b hb) rp (rz b hb)
    have pne : ∀ b, b ∈ B → pivotL b ≠ pivotL R := fun b hb e => by have := rz b hb; rw [e] at this; omega
    have mem : ∀ x, x ∈ (B.map (fun b => clrL b R) ++ [R]).mergeSort leP ↔ (∃ b, b ∈ B ∧ x = clrL b R) ∨ x = R := fun x => by
      rw [(List.mergeSort_perm _ _).mem_iff, List.mem_append, List.mem_map, List.mem_singleton]
      constructor
      · rintro (⟨b, hb, e⟩ | e)
        · exact .inl ⟨b, hb, e.symm⟩
        · exact .inr e
      · rintro (⟨b, hb, e⟩ | e)
        · exact .inl ⟨b, hb, e.symm⟩
        · exact .inr e
    -- spans
    have srow : ∀ G : Vc → Prop, (∀ b, b ∈ B → Sp G (fn b)) → (Sp G (fn row) ↔ Sp G (fn R)) := fun G hG => by
      rw [red_sp h hr G hG]
      exact ⟨fun s => by rw [← hR]; exact sp_prim z2 s, fun s => prim_sp z2 (by rw [hR]; exact s)⟩
    have sR : SpL (row :: B) (fn R) := (srow _ inR).mp (.gen ⟨row, List.mem_cons_self, rfl⟩)
    have spn : ∀ v, SpL ((B.map (fun b => clrL b R) ++ [R]).mergeSort leP) v ↔ SpL (row :: B) v := fun v => by
      have gR : SpL ((B.map (fun b => clrL b R) ++ [R]).mergeSort leP) (fn R) := .gen ⟨R, (mem R).mpr (.inr rfl), rfl⟩
      have gB : ∀ b, b ∈ B → SpL ((B.map (fun b => clrL b R) ++ [R]).mergeSort leP) (fn b) := fun b hb => (cl b hb).sp2 _ (.gen ⟨_, (mem _).mpr (.inl ⟨b, hb, rfl⟩), rfl⟩) gR
      constructor
      · intro s
        refine s.mono fun w ⟨x, hx, e⟩ => ?_
        rw [e]
        rcases (mem x).mp hx with ⟨b, hb, rfl⟩ | rfl
        · exact (cl b hb).sp1 _ (inR b hb) sR
        · exact sR
      · intro s
        refine s.mono fun w ⟨x, hx, e⟩ => ?_
        rw [e]
        rcases List.mem_cons.mp hx with rfl | hx
        · exact (srow _ gB).mpr gR
        · exact gB x hx
    refine ⟨⟨fun x hx => ?_, fun x hx => ?_, fun x hx y hy hne => ?_, fun x hx => ?_, ?_⟩, spn, .inr ⟨by rw [List.length_mergeSort]; simp, fun s => ?_⟩⟩
    · rcases (mem x).mp hx with ⟨b, hb, rfl⟩ | rfl
      · exact clr_len (h.len b hb) pl
      · exact pl
    · rcases (mem x).mp hx with ⟨b, hb, rfl⟩ | rfl
      · rw [(cl b hb).piv]; exact (cl b hb).pos
      · exact rp
    · rcases (mem x).mp hx with ⟨b, hb, rfl⟩ | rfl
      · rcases (mem y).mp hy with ⟨c, hc, rfl⟩ | rfl
        · rw [(cl b hb).piv, (cl c hc).piv] at hne
          rw [(cl c hc).piv]
          exact (cl b hb).off _ (h.off b hb c hc hne) (rz c hc)
        · exact (cl b hb).zero
      · rcases (mem y).mp hy with ⟨c, hc, rfl⟩ | rfl
        · rw [(cl c hc).piv]; exact rz c hc
        · exact absurd rfl hne
    · rcases (mem x).mp hx with ⟨b, hb, rfl⟩ | rfl
      · exact (cl b hb).prim
      · exact rg
    · -- strictly ascending
      have srt : ((B.map (fun b => clrL b R) ++ [R]).mergeSort leP).Pairwise fun a b => leP a b = true := List.pairwise_mergeSort (fun a b c h1 h2 => by unfold leP at *; have h1 := of_decide_eq_true h1; have h2 := of_decide_eq_true h2; exact decide_eq_true (by omega)) (fun a b => by unfold leP; rcases Nat.le_total (pivotL a) (pivotL b) with y | y <;> simp [y]) _
      have nd : ((B.map (fun b => clrL b R) ++ [R]).map pivotL).Nodup := by
        rw [List.map_append, List.map_map]
        have e1 : B.map (pivotL ∘ fun b => clrL b R) = B.map pivotL := List.map_congr_left fun b hb => (cl b hb).piv
        rw [e1, List.nodup_append]
        refine ⟨?_, by simp, fun x hx y hy => ?_⟩
        · exact (List.pairwise_map.mpr (h.asc.imp fun hab => by omega))
        · obtain ⟨b, hb, rfl⟩ := List.mem_map.mp hx
          have : y = pivotL R := by simpa using hy
          rw [this]
          exact pne b hb
      have nd2 : (((B.map (fun b => clrL b R) ++ [R]).mergeSort leP).map pivotL).Nodup := ((List.mergeSort_perm _ _).map pivotL).symm.nodup nd
      have nd3 := List.pairwise_map.mp nd2
      exact (srt.and nd3).imp fun ⟨h1, h2⟩ => by
        unfold leP at h1
        have := of_decide_eq_true h1
        omega
    · have s2 := (srow _ inB).mp s
      have := h.vanish s2 (fun b hb => rz b hb) (pivotL R)
      omega
/-- the canonical basis of rows -/
def spaceL (rows : List (List Int)) : List (List Int) := rows.foldl withL []
theorem space_fold {n : Nat} : ∀ (rows : List (List Int)) (B : List (List Int)), CnL n B → (∀ r, r ∈ rows → r.length = n) → CnL n (rows.foldl withL B) ∧ ∀ v, SpL (rows.foldl withL B) v ↔ SpL (B ++ rows) v
  | [], B, h, _ => ⟨h, fun v => by rw [List.foldl_nil, List.append_nil]⟩
  | r :: rows, B, h, hl => by
    obtain ⟨w1, w2, _⟩ := with_ok (row := r) h (hl r List.mem_cons_self)
    obtain ⟨k1, k2⟩ := space_fold rows (withL B r) w1 fun x hx => hl x (List.mem_cons_of_mem _ hx)
    refine ⟨k1, fun v => ?_⟩
    rw [List.foldl_cons, k2]
    have mono : ∀ {X Y : List (List Int)}, (∀ x, x ∈ X → SpL Y (fn x)) → SpL X v → SpL Y v := fun hx s => s.mono fun w ⟨b, hb, e⟩ => by rw [e]; exact hx b hb
    constructor
    · refine mono fun x hx => ?_
      rcases List.mem_append.mp hx with hx | hx
      · refine ((w2 _).mp (.gen ⟨x, hx, rfl⟩)).mono fun w ⟨b, hb, e⟩ => ?_
        refine .gen ⟨b, ?_, e⟩
        rcases List.mem_cons.mp hb with rfl | hb
        · simp
        · exact List.mem_append_left _ hb
      · exact .gen ⟨x, by simp [hx], rfl⟩
    · refine mono fun x hx => ?_
      have up : ∀ y, SpL (r :: B) (fn y) → SpL (withL B r ++ rows) (fn y) := fun y s => ((w2 _).mpr s).mono fun w ⟨b, hb, e⟩ => .gen ⟨b, List.mem_append_left _ hb, e⟩
      rcases List.mem_append.mp hx with hx | hx
      · exact up x (.gen ⟨x, List.mem_cons_of_mem _ hx, rfl⟩)
      · rcases List.mem_cons.mp hx with rfl | hx
        · exact up x (.gen ⟨x, List.mem_cons_self, rfl⟩)
        · exact .gen ⟨x, List.mem_append_right _ hx, rfl⟩
theorem space_ok {n : Nat} {rows : List (List Int)} (h : ∀ r, r ∈ rows → r.length = n) : CnL n (spaceL rows) ∧ ∀ v, SpL (spaceL rows) v ↔ SpL rows v := space_fold rows [] .nil h
end
end LA

namespace LA
section
variable {k M : Nat} {y : Nat → Nat → Int}
/-- the lattice of the vectors y, in k coordinates -/
def InL (k : Nat) (y : Nat → Nat → Int) (z : Nat → Int) : Prop := ∃ c : Nat → Int, ∀ l, l < k → (S k fun j => c j * y j l) = z l
theorem InL.lin {z w : Nat → Int} (a b : Int) (h : InL k y z) (g : InL k y w) : InL k y fun l => a * z l + b * w l := by
  obtain ⟨c, hc⟩ := h
  obtain ⟨d, hd⟩ := g
  refine ⟨fun j => a * c j + b * d j, fun l hl => ?_⟩
  show (S k fun j => (a * c j + b * d j) * y j l) = a * z l + b * w l
  rw [← hc l hl, ← hd l hl, ← S_mul, ← S_mul, ← S_add]
  exact S_congr fun j _ => by rw [Int.add_mul, Int.mul_assoc, Int.mul_assoc]
theorem InL.zero : InL k y fun _ => 0 := ⟨fun _ => 0, fun l _ => S_zero fun j _ => Int.zero_mul _⟩
theorem InL.sum {f : Nat → Nat → Int} {t : Nat → Int} : ∀ {n : Nat}, (∀ i, i < n → InL k y (f i)) → InL k y fun l => S n fun i => t i * f i l
  | 0, _ => .zero
  | n + 1, h => by
    have := InL.lin 1 (t n) (InL.sum (t := t) (n := n) fun i hi => h i (by omega)) (h n (by omega))
    obtain ⟨c, hc⟩ := this
    exact ⟨c, fun l hl => by rw [hc l hl]; show 1 * (S n fun i => t i * f i l) + t n * f n l = (S n fun i => t i * f i l) + t n * f n l; rw [Int.one_mul]⟩
theorem InL.congr {z w : Nat → Int} (h : InL k y z) (e : ∀ l, l < k → z l = w l) : InL k y w := by
  obtain ⟨c, hc⟩ := h
  exact ⟨c, fun l hl => by rw [hc l hl, e l hl]⟩
def IndC (k : Nat) (y : Nat → Nat → Int) : Prop := ∀ c : Nat → Int, (∀ l, l < k → (S k fun j => c j * y j l) = 0) → ∀ j, j < k → c j = 0
/-- each vector has a multiple that is a combination -/
theorem some_mult (hy : IndC k y) (z : Nat → Int) : ∃ (d : Int) (c : Nat → Int), 0 < d ∧ ∀ l, l < k → d * z l = S k fun j => c j * y j l := by
  obtain ⟨e, ⟨t, ht, het⟩, h2⟩ := dep k (k + 1) (fun i => if i < k then y i else z) (by omega)
  have h3 : ∀ l, l < k → (S k fun j => e j * y j l) + e k * z l = 0 := fun l hl => by
    have := h2 l hl
    rw [S, if_neg (by omega)] at this
    rw [← this]
    congr 1
    exact S_congr fun j hj => by rw [if_pos hj]
  have ek : e k ≠ 0 := fun z0 => by
    have := hy e (fun l hl => by have := h3 l hl; rw [z0, Int.zero_mul] at this; omega)
    by_cases hk : t < k
    · exact het (this t hk)
    · have : t = k := by omega
      rw [this] at het
      exact het z0
  rcases Int.lt_trichotomy (e k) 0 with s | s | s
  · exact ⟨-e k, e, by omega, fun l hl => by have := h3 l hl; rw [Int.neg_mul]; omega⟩
  · exact absurd s ek
  · refine ⟨e k, fun j => -e j, s, fun l hl => ?_⟩
    have := h3 l hl
    have e2 : (S k fun j => -e j * y j l) = -S k fun j => e j * y j l := by
      rw [← S_neg]
      exact S_congr fun j _ => by rw [Int.neg_mul]
    rw [e2]
    omega
/-- each vector is, up to the lattice, a small one -/
theorem small_rep (hy : IndC k y) (hM : ∀ j l, j < k → l < k → -(M : Int) ≤ y j l ∧ y j l ≤ M) (z : Nat → Int) : ∃ w : Nat → Int, (∀ l, l < k → -((k * M : Nat) : Int) ≤ w l ∧ w l ≤ (k * M : Nat)) ∧ InL k y fun l => z l - w l := by
  obtain ⟨d, c, hd, h⟩ := some_mult hy z
  refine ⟨fun l => z l - S k fun j => (c j / d) * y j l, fun l hl => ?_, ⟨fun j => c j / d, fun l hl => by dsimp only; omega⟩⟩
  have e : d * (z l - S k fun j => (c j / d) * y j l) = S k fun j => (c j % d) * y j l := by
    rw [Int.mul_sub, h l hl, ← S_mul, ← S_sub]
    exact S_congr fun j _ => by
      have := Int.emod_add_mul_ediv (c j) d
      rw [show d * (c j / d * y j l) = d * (c j / d) * y j l by rw [Int.mul_assoc], ← Int.sub_mul]
      congr 1
      omega
  have b : -((k : Int) * (d * M)) ≤ S k (fun j => (c j % d) * y j l) ∧ S k (fun j => (c j % d) * y j l) ≤ (k : Int) * (d * M) := S_abs fun j hj => mul_abs ⟨by have := Int.emod_nonneg (c j) (show d ≠ 0 by omega); omega, by have := Int.emod_lt_of_pos (c j) hd; omega⟩ (hM j l hj hl)
  have e2 : (k : Int) * (d * M) = d * ((k * M : Nat) : Int) := by rw [Int.natCast_mul]; ac_rfl
  rw [e2, ← e, ← Int.mul_neg] at b
  dsimp only
  exact ⟨Int.le_of_mul_le_mul_left b.1 hd, Int.le_of_mul_le_mul_left b.2 hd⟩
def prodN (n : Nat → Nat) : Nat → Nat
  | 0 => 1
  | i + 1 => prodN n i * n i
/-- digits in a mixed radix -/
def mdig (n : Nat → Nat) (t i : Nat) : Nat := t / prodN n i % n i
theorem prod_pos {n : Nat → Nat} : ∀ {i : Nat}, (∀ j, j < i → 0 < n j) → 0 < prodN n i
  | 0, _ => Nat.one_pos
  | i + 1, h => Nat.mul_pos (prod_pos fun j hj => h j (by omega)) (h i (by omega))
theorem mdig_eq {n : Nat → Nat} : ∀ (k t t' : Nat), (∀ j, j < k → 0 < n j) → t < prodN n k → t' < prodN n k → (∀ j, j < k → mdig n t j = mdig n t' j) → t = t'
  | 0, t, t', _, h, h', _ => by simp [prodN] at h h'; omega
  | k + 1, t, t', hp, h, h', e => by
    have pk := prod_pos (n := n) (i := k) fun j hj => hp j (by omega)
    have md : ∀ s j, j < k → mdig n (s % prodN n k) j = mdig n s j := fun s j hj => by
      unfold mdig
      have dv : ∀ m, j < m → prodN n (j + 1) ∣ prodN n m := fun m => by
        induction m with
        | zero => intro h; omega
        | succ m ih =>
          intro h
          rcases Nat.lt_or_ge j m with y | y
          · exact Nat.dvd_trans (ih y) (Nat.dvd_mul_right _ _)
          · have : m = j := by omega
            rw [this]; exact Nat.dvd_refl _
      obtain ⟨r, hr⟩ := dv k hj
      rw [hr]
      show s % (prodN n j * n j * r) / prodN n j % n j = _
      rw [Nat.mul_assoc, Nat.mod_mul_right_div_self, Nat.mod_mul_right_mod]
    have low := mdig_eq k (t % prodN n k) (t' % prodN n k) (fun j hj => hp j (by omega)) (Nat.mod_lt _ pk) (Nat.mod_lt _ pk) fun j hj => by rw [md t j hj, md t' j hj]; exact e j (by omega)
    have hi : t / prodN n k = t' / prodN n k := by
      have := e k (by omega)
      unfold mdig at this
      have l1 : t / prodN n k < n k := Nat.div_lt_of_lt_mul h
      have l2 : t' / prodN n k < n k := Nat.div_lt_of_lt_mul h'
      rwa [Nat.mod_eq_of_lt l1, Nat.mod_eq_of_lt l2] at this
    rw [← Nat.div_add_mod t (prodN n k), ← Nat.div_add_mod t' (prodN n k), hi, low]
theorem lattice_mult (hy : IndC k y) (hM : ∀ j l, j < k → l < k → -(M : Int) ≤ y j l ∧ y j l ≤ M) : ∃ N : Nat, 0 < N ∧ N ≤ (2 * (k * M) + 1) ^ k ∧ ∀ i, i < k → InL k y fun l => if l = i then (N : Int) else 0 := by
  -- the least multiple of a unit vector, up to the earlier ones
  have ex : ∀ i, ∃ n : Nat, i < k → 0 < n ∧ (∃ c : Nat → Int, (S k fun j => c j * y j i) = n ∧ ∀ l, i < l → l < k → (S k fun j => c j * y j l) = 0) ∧ ∀ m : Nat, 0 < m → m < n → ¬ ∃ c : Nat → Int, (S k fun j => c j * y j i) = m ∧ ∀ l, i < l → l < k → (S k fun j => c j * y j l) = 0 := fun i => by
    by_cases hi : i < k
    · obtain ⟨d, c, hd, h⟩ := some_mult hy fun l => if l = i then 1 else 0
      have P0 : (fun n : Nat => 0 < n ∧ ∃ c : Nat → Int, (S k fun j => c j * y j i) = n ∧ ∀ l, i < l → l < k → (S k fun j => c j * y j l) = 0) d.toNat :=
        ⟨by omega, c, by rw [← h i hi, if_pos rfl]; omega, fun l h1 h2 => by rw [← h l h2, if_neg (by omega), Int.mul_zero]⟩
      obtain ⟨n, ⟨h1, h2⟩, _, h3⟩ := least (P := fun n : Nat => 0 < n ∧ ∃ c : Nat → Int, (S k fun j => c j * y j i) = n ∧ ∀ l, i < l → l < k → (S k fun j => c j * y j l) = 0) P0
      exact ⟨n, fun _ => ⟨h1, h2, fun m hm hmn q => h3 m hmn ⟨hm, q⟩⟩⟩
    · exact ⟨0, fun q => absurd q hi⟩
  obtain ⟨n, hn⟩ := Classical.skolem.mp ex
  have np : ∀ i, i < k → 0 < n i := fun i hi => (hn i hi).1
  refine ⟨prodN n k, prod_pos np, ?_, ?_⟩
  · -- not more classes than small vectors
    apply Classical.byContradiction
    intro hlt
    obtain ⟨w, hw⟩ := Classical.skolem.mp fun t : Nat => small_rep hy hM fun l => (mdig n t l : Int)
    have cb : ∀ t l, l < k → (w t l + (k * M : Nat)).toNat < 2 * (k * M) + 1 := fun t l hl => by have := (hw t).1 l hl; omega
    obtain ⟨t, t', h1, h2, h3⟩ := pigeon ((2 * (k * M) + 1) ^ k) (prodN n k) (fun t => enc (2 * (k * M) + 1) (fun l => (w t l + (k * M : Nat)).toNat) k) (fun t _ => enc_lt (cb t)) (by omega)
    have we : ∀ l, l < k → w t l = w t' l := fun l hl => by
      have := enc_inj (cb t) (cb t') h3 l hl
      have a1 := (hw t).1 l hl
      have a2 := (hw t').1 l hl
      omega
    obtain ⟨c, hc⟩ := InL.lin 1 (-1) (hw t).2 (hw t').2
    have hc : ∀ l, l < k → (S k fun j => c j * y j l) = (mdig n t l : Int) - mdig n t' l := fun l hl => by rw [hc l hl]; have := we l hl; dsimp only; omega
    have dl : ∀ s l, l < k → mdig n s l < n l := fun s l hl => Nat.mod_lt _ (np l hl)
    -- all digits are equal, from the last
    have all : ∀ m l, l < k → k - l ≤ m → mdig n t l = mdig n t' l := fun m => by
      induction m with
      | zero => intro l h1 h2; omega
      | succ m ih =>
        intro l hl hm
        have z : ∀ l', l < l' → l' < k → (S k fun j => c j * y j l') = 0 := fun l' h1 h2 => by rw [hc l' h2, ih l' h2 (by omega)]; omega
        have dlt := dl t l hl
        have dlt' := dl t' l hl
        rcases Nat.lt_trichotomy (mdig n t l) (mdig n t' l) with g | g | g
        · refine absurd ⟨fun j => -c j, ?_, fun l' h1 h2 => ?_⟩ ((hn l hl).2.2 (mdig n t' l - mdig n t l) (by omega) (by omega))
          · rw [show (fun j => -c j * y j l) = fun j => -(c j * y j l) from funext fun j => Int.neg_mul _ _, S_neg, hc l hl]; omega
          · rw [show (fun j => -c j * y j l') = fun j => -(c j * y j l') from funext fun j => Int.neg_mul _ _, S_neg, z l' h1 h2]; rfl
        · exact g
        · exact absurd ⟨c, by rw [hc l hl]; omega, z⟩ ((hn l hl).2.2 (mdig n t l - mdig n t' l) (by omega) (by omega))
    have := mdig_eq k t t' np (by omega) h2 fun j hj => all (k - j) j hj (Nat.le_refl _)
    omega
  · -- the product times a unit vector
    have key : ∀ i, i ≤ k → ∀ j, j < i → InL k y fun l => if l = j then ((prodN n i : Nat) : Int) else 0 := fun i => by
      induction i with
      | zero => intro _ j hj; omega
      | succ i ih =>
        intro hi j hj
        have ih := ih (by omega)
        rcases Nat.lt_or_ge j i with g | g
        · have := InL.lin (n i) 0 (ih j g) (InL.zero (k := k) (y := y))
          refine this.congr fun l hl => ?_
          rw [Int.mul_zero, Int.add_zero]
          split
          · rw [prodN, Int.natCast_mul, Int.mul_comm]
          · rw [Int.mul_zero]
        · have : j = i := by omega
          subst this
          obtain ⟨_, ⟨c, c1, c2⟩, _⟩ := hn j (by omega)
          have h1 : InL k y fun l => S k fun a => c a * y a l := ⟨c, fun l hl => rfl⟩
          have h2 := InL.sum (t := fun l => S k fun a => c a * y a l) (n := j) fun a ha => ih a ha
          refine (InL.lin (prodN n j) (-1) h1 h2).congr fun l hl => ?_
          try dsimp only
          by_cases g1 : l < j
          · rw [if_neg (by omega), S_one g1 fun a ha hne => by rw [if_neg (by omega), Int.mul_zero], if_pos rfl]
            rw [Int.mul_comm]; omega
          · have z0 : (S j fun a => (S k fun j' => c j' * y j' a) * (if l = a then ((prodN n j : Nat) : Int) else 0)) = 0 := S_zero fun a ha => by rw [if_neg (by omega), Int.mul_zero]
            rw [z0]
            by_cases g2 : l = j
            · rw [g2, if_pos rfl, c1, prodN, Int.natCast_mul]; omega
            · rw [if_neg g2, c2 l (by omega) hl]; omega
    exact key k (Nat.le_refl _)
end
/-- all pivots divide one number that is not great -/
theorem Cn.pivots {k m M : Nat} {b : Nat → Vc} {q : Nat → Nat} {V : Nat → Vc} (h : Cn k b q) (hV : ∀ j x, j < m → -(M : Int) ≤ V j x ∧ V j x ≤ M) (s1 : ∀ j, j < m → Sp (Fam k b) (V j)) (s2 : ∀ i, i < k → Sp (Fam m V) (b i)) :
    ∃ N : Nat, 0 < N ∧ N ≤ (2 * (k * M) + 1) ^ k ∧ ∀ i, i < k → b i (q i) ∣ (N : Int) := by
  obtain ⟨k2, σ, t1, t2, t3⟩ := indep_part m V
  have kk : k = k2 := by
    have a1 : k ≤ k2 := steinitz h.indep fun i hi => (s2 i hi).mono fun v ⟨j, hj, e⟩ => by rw [e]; exact t3 j hj
    have a2 : k2 ≤ k := steinitz t2 fun i hi => s1 _ (t1 i hi)
    omega
  subst kk
  have us : ∀ c : Nat → Int, Sp (Fam k b) fun x => S k fun j => c j * V (σ j) x := fun c => Sp.sum fun j hj => s1 _ (t1 j hj)
  obtain ⟨N, h1, h2, h3⟩ := lattice_mult (k := k) (M := M) (y := fun j l => V (σ j) (q l)) (fun c hc => t2 c fun x => h.vanish (us c) (fun l hl => hc l hl) x) fun j l hj _ => hV _ _ (t1 j hj)
  refine ⟨N, h1, h2, fun i hi => ?_⟩
  obtain ⟨c, hc⟩ := h3 i hi
  obtain ⟨s, hs⟩ := h.mult (us c) hi fun j hj hne => (hc j hj).trans (if_neg hne)
  refine ⟨s, ?_⟩
  have := hs (q i)
  rw [(hc i hi).trans (if_pos rfl)] at this
  rw [this, Int.mul_comm]
end LA

namespace LA
theorem fmod_pos {a b : Int} (h : 0 < b) : a.fmod b = a % b := Int.fmod_eq_emod_of_nonneg a (by omega)
theorem fmod_neg {a b : Int} : (-a).fmod (-b) = -(a.fmod b) := by
  rw [Int.fmod_def, Int.fmod_def, Int.neg_fdiv_neg, Int.neg_mul]
  omega
theorem half_pos {d n : Int} (hn : 0 < n) : (d.fmod n).natAbs < n.natAbs ∧ (d.fmod n ≠ 0 → 2 * (n.fmod (d.fmod n)).natAbs < n.natAbs) := by
  rw [fmod_pos hn]
  have h1 := Int.emod_nonneg d (show n ≠ 0 by omega)
  have h2 := Int.emod_lt_of_pos d hn
  generalize d % n = m at h1 h2
  refine ⟨by omega, fun hm => ?_⟩
  have hm' : 0 < m := by omega
  rw [fmod_pos hm']
  have h3 := Int.emod_nonneg n (show m ≠ 0 by omega)
  have h4 := Int.emod_lt_of_pos n hm'
  have h5 := Int.emod_add_mul_ediv n m
  have h6 : 1 ≤ n / m := Int.le_ediv_of_mul_le hm' (by omega)
  have h7 : m * 1 ≤ m * (n / m) := Int.mul_le_mul_of_nonneg_left h6 (by omega)
  omega
theorem half {d n : Int} (hn : n ≠ 0) : (d.fmod n).natAbs < n.natAbs ∧ (d.fmod n ≠ 0 → 2 * (n.fmod (d.fmod n)).natAbs < n.natAbs) := by
  rcases Int.lt_or_gt_of_ne hn with h | h
  · have := half_pos (d := -d) (n := -n) (by omega)
    rw [fmod_neg, Int.natAbs_neg, Int.natAbs_neg] at this
    refine ⟨this.1, fun z => ?_⟩
    have q := this.2 (by omega)
    rwa [fmod_neg, Int.natAbs_neg] at q
  · exact half_pos h
theorem gcd_step {d n : Int} : Nat.gcd n.natAbs (d.fmod n).natAbs = Nat.gcd d.natAbs n.natAbs := by
  have e : d.fmod n = d - n * d.fdiv n := Int.fmod_def d n
  apply Nat.dvd_antisymm
  · refine Nat.dvd_gcd ?_ (Nat.gcd_dvd_left ..)
    apply Int.ofNat_dvd_left.mp
    have h1 : ((Nat.gcd n.natAbs (d.fmod n).natAbs : Nat) : Int) ∣ n := Int.ofNat_dvd_left.mpr (Nat.gcd_dvd_left ..)
    have h2 : ((Nat.gcd n.natAbs (d.fmod n).natAbs : Nat) : Int) ∣ d.fmod n := Int.ofNat_dvd_left.mpr (Nat.gcd_dvd_right ..)
    have h3 : d = d.fmod n + n * d.fdiv n := by omega
    have h4 := Int.dvd_add h2 (Int.dvd_mul_of_dvd_left (c := d.fdiv n) h1)
    rw [← h3] at h4
    exact h4
  · refine Nat.dvd_gcd (Nat.gcd_dvd_right ..) ?_
    apply Int.ofNat_dvd_left.mp
    have h1 : ((Nat.gcd d.natAbs n.natAbs : Nat) : Int) ∣ n := Int.ofNat_dvd_left.mpr (Nat.gcd_dvd_right ..)
    have h2 : ((Nat.gcd d.natAbs n.natAbs : Nat) : Int) ∣ d := Int.ofNat_dvd_left.mpr (Nat.gcd_dvd_left ..)
    rw [e]
    exact Int.dvd_sub h2 (Int.dvd_mul_of_dvd_left h1)
/-- Euclid's end behind at most 2 b + 1 steps -/
theorem euclid {P : Nat → Int → Int → Prop} (h0 : ∀ k d, P (k + 1) d 0) (h1 : ∀ k d n, n ≠ 0 → P k n (d.fmod n) → P (k + 1) d n) : ∀ (b k : Nat) (d n : Int), n.natAbs < 2 ^ b → 2 * b + 1 ≤ k → P k d n
  | 0, k, d, n, hn, hk => by
    obtain ⟨k, rfl⟩ : ∃ j, k = j + 1 := ⟨k - 1, by omega⟩
    have : n = 0 := by have : n.natAbs < 1 := hn; omega
    subst this
    exact h0 k d
  | b + 1, k, d, n, hn, hk => by
    obtain ⟨k, rfl⟩ : ∃ j, k = j + 2 := ⟨k - 2, by omega⟩
    by_cases z : n = 0
    · subst z; exact h0 _ d
    · obtain ⟨a1, a2⟩ := half (d := d) z
      refine h1 _ d n z ?_
      by_cases z2 : d.fmod n = 0
      · rw [z2]; exact h0 k n
      · refine h1 _ n _ z2 (euclid h0 h1 b k _ _ ?_ (by omega))
        have := a2 z2
        rw [Nat.pow_succ] at hn
        omega
end LA
namespace LA
/-- all numbers below 2 ^ b -/
def Bd (b : Nat) (r : List Int) : Prop := ∀ x ∈ r, x.natAbs < 2 ^ b
theorem two_pos (b : Nat) : 0 < 2 ^ b := Nat.two_pow_pos b
theorem fn_bd {b : Nat} {r : List Int} (h : Bd b r) (i : Nat) : (fn r i).natAbs < 2 ^ b := by
  rcases Nat.lt_or_ge i r.length with y | y
  · rw [fn_at y]; exact h _ (List.getElem_mem y)
  · rw [fn_out y]; exact two_pos b
theorem Bd.mono {b c : Nat} {r : List Int} (h : Bd b r) (hc : b ≤ c) : Bd c r := fun x hx => Nat.lt_of_lt_of_le (h x hx) (Nat.pow_le_pow_right (by omega) hc)
theorem mul_lt {x y : Int} {a b : Nat} (hx : x.natAbs < 2 ^ a) (hy : y.natAbs < 2 ^ b) : (x * y).natAbs < 2 ^ (a + b) := by
  rw [Int.natAbs_mul, Nat.pow_add]
  exact Nat.mul_lt_mul'' hx hy
theorem sub_lt {x y : Int} {a b : Nat} (hx : x.natAbs < 2 ^ a) (hy : y.natAbs < 2 ^ b) : (x - y).natAbs < 2 ^ (max a b + 1) := by
  have h1 : 2 ^ a ≤ 2 ^ max a b := Nat.pow_le_pow_right (by omega) (Nat.le_max_left ..)
  have h2 : 2 ^ b ≤ 2 ^ max a b := Nat.pow_le_pow_right (by omega) (Nat.le_max_right ..)
  rw [Nat.pow_succ]
  omega
theorem lt_mono {x : Int} {a b : Nat} (hx : x.natAbs < 2 ^ a) (h : a ≤ b) : x.natAbs < 2 ^ b := Nat.lt_of_lt_of_le hx (Nat.pow_le_pow_right (by omega) h)
theorem bd_zip {f : Int → Int → Int} {c : Nat} {p q : Int → Prop} (hf : ∀ x y, p x → q y → (f x y).natAbs < 2 ^ c) : ∀ {r s : List Int}, (∀ x ∈ r, p x) → (∀ y ∈ s, q y) → Bd c (List.zipWith f r s)
  | [], _, _, _ => fun x hx => by simp at hx
  | _ :: _, [], _, _ => fun x hx => by simp at hx
  | a :: r, b :: s, h1, h2 => fun x hx => by
    rw [List.zipWith_cons_cons] at hx
    rcases List.mem_cons.mp hx with rfl | hx
    · exact hf _ _ (h1 _ (List.mem_cons_self ..)) (h2 _ (List.mem_cons_self ..))
    · exact bd_zip hf (fun x hx => h1 x (List.mem_cons_of_mem _ hx)) (fun y hy => h2 y (List.mem_cons_of_mem _ hy)) x hx
end LA
namespace LA
theorem prim_bd {b : Nat} {r : List Int} (h : Bd b r) : Bd b (primL r) := by
  by_cases hp : pivotL r = r.length
  · rw [prim_zero hp]; exact h
  · have hp' : pivotL r < r.length := by have := piv_le r; omega
    intro x hx
    obtain ⟨i, hi, rfl⟩ := List.getElem_of_mem hx
    have e := prim_fn hp' i
    rw [fn_at hi] at e
    have k := fn_bd h i
    have hs := sgd_ne hp'
    rw [← e, Int.natAbs_mul] at k
    have : 1 ≤ (sgD r).natAbs := by omega
    have := Nat.mul_le_mul_right ((primL r)[i]).natAbs this
    omega
end LA

namespace PH
open PySem PySem.Spec PyProof PyProof.Rows L2
abbrev rwD (r : List Int) : PH.D := .lst (r.map PH.D.int)
theorem pivot_loop {a : Option Vl} {S : Sto} : ∀ (r : List Int) (n : Nat), loop (.tp [1, 2]) w_pivot_1 (enumD n (r.map PH.D.int)) [a, none, none] S = if LA.pivotL r < r.length then .ret (.dat (.int ((n + LA.pivotL r : Nat) : Int))) S else .next [a, none, none] S
  | [], n => rfl
  | x :: r, n => by
    rw [List.map_cons, enumD, loop]
    simp only [tgF, putEv, List.length_cons, List.length_nil, if_true, List.set_cons_succ, List.set_cons_zero]
    rw [w_pivot_1]
    by_cases h : x = 0
    · subst h
      simp (config := { implicitDefEqProofs := false }) only [EV0, EV1, EV2, List.set_cons_zero, List.set_cons_succ, Bool.not_true, Bool.not_false, eq_self, if_true, if_false, Bool.true_or, Bool.false_or, Bool.or_true, Bool.or_false, Bool.and_true, Bool.true_and, Bool.and_false, Bool.false_and, List.set_set, List.length_cons, List.length_nil, beq_self_eq_true, Bool.false_eq_true, lk, isTy, fIsi, fIsi2, kindOf, wipeE, decide_true, decide_false, Int.reduceEq, Int.reduceLT, Int.reduceLE, Int.reduceSub, Int.reduceAdd, Int.reduceNeg, Int.reduceToNat, Int.reduceNe, Nat.reduceAdd, Nat.reduceLT, Nat.reduceLeDiff, String.reduceEq, String.reduceBEq]
      rw [← w_pivot_1, pivot_loop r (n + 1)]
      have e : LA.pivotL (0 :: r) = LA.pivotL r + 1 := if_pos rfl
      rw [e]
      by_cases h2 : LA.pivotL r < r.length
      · rw [if_pos h2, if_pos (by omega), show n + 1 + LA.pivotL r = n + (LA.pivotL r + 1) by omega]
      · rw [if_neg h2, if_neg (by omega)]
    · simp (config := { implicitDefEqProofs := false }) only [decide_eq_false h, EV0, EV1, EV2, List.set_cons_zero, List.set_cons_succ, Bool.not_true, Bool.not_false, eq_self, if_true, if_false, Bool.true_or, Bool.false_or, Bool.or_true, Bool.or_false, Bool.and_true, Bool.true_and, Bool.and_false, Bool.false_and, List.set_set, List.length_cons, List.length_nil, beq_self_eq_true, Bool.false_eq_true, lk, isTy, fIsi, fIsi2, kindOf, wipeE, decide_true, decide_false, Int.reduceEq, Int.reduceLT, Int.reduceLE, Int.reduceSub, Int.reduceAdd, Int.reduceNeg, Int.reduceToNat, Int.reduceNe, Nat.reduceAdd, Nat.reduceLT, Nat.reduceLeDiff, String.reduceEq, String.reduceBEq]
      have e : LA.pivotL (x :: r) = 0 := if_neg h
      rw [e, if_pos (by omega)]
      rfl
theorem pivot_ok {r : List Int} {S : Sto} : m_pivot [.dat (rwD r)] S = .ok (.dat (.int ((LA.pivotL r : Nat) : Int))) S := by
  rw [E_pivot]
  unfold b_pivot
  by_cases h : LA.pivotL r < r.length
  · simp (config := { implicitDefEqProofs := false }) only [pivot_loop r 0, if_pos h, Nat.zero_add, EV0, EV1, EV2, List.set_cons_zero, List.set_cons_succ, Bool.not_true, Bool.not_false, eq_self, if_true, if_false, Bool.true_or, Bool.false_or, Bool.or_true, Bool.or_false, Bool.and_true, Bool.true_and, Bool.and_false, Bool.false_and, List.set_set, List.length_cons, List.length_nil, beq_self_eq_true, Bool.false_eq_true, lk, isTy, fIsi, fIsi2, kindOf, wipeE, decide_true, decide_false, Int.reduceEq, Int.reduceLT, Int.reduceLE, Int.reduceSub, Int.reduceAdd, Int.reduceNeg, Int.reduceToNat, Int.reduceNe, Nat.reduceAdd, Nat.reduceLT, Nat.reduceLeDiff, String.reduceEq, String.reduceBEq]
    rfl
  · have e : LA.pivotL r = r.length := by have := LA.piv_le r; omega
    simp (config := { implicitDefEqProofs := false }) only [pivot_loop r 0, if_neg h, EV0, EV1, EV2, List.set_cons_zero, List.set_cons_succ, Bool.not_true, Bool.not_false, eq_self, if_true, if_false, Bool.true_or, Bool.false_or, Bool.or_true, Bool.or_false, Bool.and_true, Bool.true_and, Bool.and_false, Bool.false_and, List.set_set, List.length_cons, List.length_nil, beq_self_eq_true, Bool.false_eq_true, lk, isTy, fIsi, fIsi2, kindOf, wipeE, decide_true, decide_false, Int.reduceEq, Int.reduceLT, Int.reduceLE, Int.reduceSub, Int.reduceAdd, Int.reduceNeg, Int.reduceToNat, Int.reduceNe, Nat.reduceAdd, Nat.reduceLT, Nat.reduceLeDiff, String.reduceEq, String.reduceBEq]
    simp (config := { implicitDefEqProofs := false }) only [e, List.length_map, EV0, EV1, EV2, List.set_cons_zero, List.set_cons_succ, Bool.not_true, Bool.not_false, eq_self, if_true, if_false, Bool.true_or, Bool.false_or, Bool.or_true, Bool.or_false, Bool.and_true, Bool.true_and, Bool.and_false, Bool.false_and, List.set_set, List.length_cons, List.length_nil, beq_self_eq_true, Bool.false_eq_true, lk, isTy, fIsi, fIsi2, kindOf, wipeE, decide_true, decide_false, Int.reduceEq, Int.reduceLT, Int.reduceLE, Int.reduceSub, Int.reduceAdd, Int.reduceNeg, Int.reduceToNat, Int.reduceNe, Nat.reduceAdd, Nat.reduceLT, Nat.reduceLeDiff, String.reduceEq, String.reduceBEq]
    rfl
theorem gcd_while {a : Option Vl} {S : Sto} {g : Nat} (b k : Nat) (d n : Int) (hn : n.natAbs < 2 ^ b) (hk : 2 * b + 1 ≤ k) (hg : Nat.gcd d.natAbs n.natAbs = g) :
    ∃ e : Int, e.natAbs = g ∧ wloop (mB (mOp fNe (mVar 2) (mC (.int 0)))) w_common_divisor_1 k [a, some (.dat (.int d)), some (.dat (.int n))] S = .next [a, some (.dat (.int e)), some (.dat (.int 0))] S := by
  refine LA.euclid (P := fun k d n => Nat.gcd d.natAbs n.natAbs = g → ∃ e : Int, e.natAbs = g ∧ wloop (mB (mOp fNe (mVar 2) (mC (.int 0)))) w_common_divisor_1 k [a, some (.dat (.int d)), some (.dat (.int n))] S = .next [a, some (.dat (.int e)), some (.dat (.int 0))] S) (fun k d h => ?_) (fun k d n hz ih h => ?_) b k d n hn hk hg
  · refine ⟨d, by simpa using h, wl_end ?_⟩
    simp (config := { implicitDefEqProofs := false }) only [EV0, EV1, EV2, List.set_cons_zero, List.set_cons_succ, Bool.not_true, Bool.not_false, eq_self, if_true, if_false, Bool.true_or, Bool.false_or, Bool.or_true, Bool.or_false, Bool.and_true, Bool.true_and, Bool.and_false, Bool.false_and, List.set_set, List.length_cons, List.length_nil, beq_self_eq_true, Bool.false_eq_true, lk, isTy, fIsi, fIsi2, kindOf, wipeE, decide_true, decide_false, Int.reduceEq, Int.reduceLT, Int.reduceLE, Int.reduceSub, Int.reduceAdd, Int.reduceNeg, Int.reduceToNat, Int.reduceNe, Nat.reduceAdd, Nat.reduceLT, Nat.reduceLeDiff, String.reduceEq, String.reduceBEq]
  · obtain ⟨e, h1, h2⟩ := ih (by rw [LA.gcd_step]; exact h)
    refine ⟨e, h1, ?_⟩
    rw [wl_next (ρ' := [a, some (.dat (.int n)), some (.dat (.int (d.fmod n)))]) (S' := S) (by simp (config := { implicitDefEqProofs := false }) only [decide_eq_false hz, EV0, EV1, EV2, List.set_cons_zero, List.set_cons_succ, Bool.not_true, Bool.not_false, eq_self, if_true, if_false, Bool.true_or, Bool.false_or, Bool.or_true, Bool.or_false, Bool.and_true, Bool.true_and, Bool.and_false, Bool.false_and, List.set_set, List.length_cons, List.length_nil, beq_self_eq_true, Bool.false_eq_true, lk, isTy, fIsi, fIsi2, kindOf, wipeE, decide_true, decide_false, Int.reduceEq, Int.reduceLT, Int.reduceLE, Int.reduceSub, Int.reduceAdd, Int.reduceNeg, Int.reduceToNat, Int.reduceNe, Nat.reduceAdd, Nat.reduceLT, Nat.reduceLeDiff, String.reduceEq, String.reduceBEq]) ?_]
    · exact h2
    · rw [w_common_divisor_1, mPar]
      simp (config := { implicitDefEqProofs := false }) only [EV0, EV1, EV2, List.set_cons_zero, List.set_cons_succ, Bool.not_true, Bool.not_false, eq_self, if_true, if_false, Bool.true_or, Bool.false_or, Bool.or_true, Bool.or_false, Bool.and_true, Bool.true_and, Bool.and_false, Bool.false_and, List.set_set, List.length_cons, List.length_nil, beq_self_eq_true, Bool.false_eq_true, lk, isTy, fIsi, fIsi2, kindOf, wipeE, decide_true, decide_false, Int.reduceEq, Int.reduceLT, Int.reduceLE, Int.reduceSub, Int.reduceAdd, Int.reduceNeg, Int.reduceToNat, Int.reduceNe, Nat.reduceAdd, Nat.reduceLT, Nat.reduceLeDiff, String.reduceEq, String.reduceBEq]
      have e : fModN (.dat (.int d)) (.dat (.int n)) S = .ok (.dat (.int (d.fmod n))) S := if_pos hz
      simp (config := { implicitDefEqProofs := false }) only [e, EV0, EV1, EV2, List.set_cons_zero, List.set_cons_succ, Bool.not_true, Bool.not_false, eq_self, if_true, if_false, Bool.true_or, Bool.false_or, Bool.or_true, Bool.or_false, Bool.and_true, Bool.true_and, Bool.and_false, Bool.false_and, List.set_set, List.length_cons, List.length_nil, beq_self_eq_true, Bool.false_eq_true, lk, isTy, fIsi, fIsi2, kindOf, wipeE, decide_true, decide_false, Int.reduceEq, Int.reduceLT, Int.reduceLE, Int.reduceSub, Int.reduceAdd, Int.reduceNeg, Int.reduceToNat, Int.reduceNe, Nat.reduceAdd, Nat.reduceLT, Nat.reduceLeDiff, String.reduceEq, String.reduceBEq]
theorem gcd_loop {a : Option Vl} {S : Sto} {b : Nat} (hb : 2 * b + 1 ≤ 1000000) : ∀ (r : List Int) (d : Int), (∀ x ∈ r, x.natAbs < 2 ^ b) →
    ∃ e : Int, e.natAbs = r.foldl (fun g x => Nat.gcd g x.natAbs) d.natAbs ∧ loop (.nm 2) w_common_divisor_2 (r.map PH.D.int) [a, some (.dat (.int d)), none] S = .next [a, some (.dat (.int e)), none] S
  | [], d, _ => ⟨d, rfl, rfl⟩
  | x :: r, d, h => by
    obtain ⟨e, h1, h2⟩ := gcd_while (a := a) (S := S) b 1000000 d x (h x (List.mem_cons_self ..)) hb rfl
    obtain ⟨e', h3, h4⟩ := gcd_loop hb r e fun y hy => h y (List.mem_cons_of_mem _ hy)
    refine ⟨e', by rw [h3, h1]; rfl, ?_⟩
    rw [List.map_cons, loop]
    simp only [tgF, List.length_cons, List.length_nil, if_true, List.set_cons_succ, List.set_cons_zero]
    rw [w_common_divisor_2, mWipe, mWhile]
    rw [h2]
    simp (config := { implicitDefEqProofs := false }) only [EV0, EV1, EV2, List.set_cons_zero, List.set_cons_succ, Bool.not_true, Bool.not_false, eq_self, if_true, if_false, Bool.true_or, Bool.false_or, Bool.or_true, Bool.or_false, Bool.and_true, Bool.true_and, Bool.and_false, Bool.false_and, List.set_set, List.length_cons, List.length_nil, beq_self_eq_true, Bool.false_eq_true, lk, isTy, fIsi, fIsi2, kindOf, wipeE, decide_true, decide_false, Int.reduceEq, Int.reduceLT, Int.reduceLE, Int.reduceSub, Int.reduceAdd, Int.reduceNeg, Int.reduceToNat, Int.reduceNe, Nat.reduceAdd, Nat.reduceLT, Nat.reduceLeDiff, String.reduceEq, String.reduceBEq]
    rw [← h4]
    rfl
theorem gcd_ok {r : List Int} {S : Sto} {b : Nat} (hb : 2 * b + 1 ≤ 1000000) (h : ∀ x ∈ r, x.natAbs < 2 ^ b) : m_common_divisor [.dat (rwD r)] S = .ok (.dat (.int ((LA.gcdN r : Nat) : Int))) S := by
  obtain ⟨e, h1, h2⟩ := gcd_loop (a := some (.dat (rwD r))) (S := S) hb r 0 h
  rw [E_common_divisor]
  unfold b_common_divisor
  simp (config := { implicitDefEqProofs := false }) only [h2, EV0, EV1, EV2, List.set_cons_zero, List.set_cons_succ, Bool.not_true, Bool.not_false, eq_self, if_true, if_false, Bool.true_or, Bool.false_or, Bool.or_true, Bool.or_false, Bool.and_true, Bool.true_and, Bool.and_false, Bool.false_and, List.set_set, List.length_cons, List.length_nil, beq_self_eq_true, Bool.false_eq_true, lk, isTy, fIsi, fIsi2, kindOf, wipeE, decide_true, decide_false, Int.reduceEq, Int.reduceLT, Int.reduceLE, Int.reduceSub, Int.reduceAdd, Int.reduceNeg, Int.reduceToNat, Int.reduceNe, Nat.reduceAdd, Nat.reduceLT, Nat.reduceLeDiff, String.reduceEq, String.reduceBEq]
  have e2 : fAbs (.dat (.int e)) S = .ok (.dat (.int ((LA.gcdN r : Nat) : Int))) S := by
    show Res.ok (Vl.dat (.int (if e < 0 then -e else e))) S = _
    have : (if e < 0 then -e else e) = ((LA.gcdN r : Nat) : Int) := by
      unfold LA.gcdN
      rw [show (0 : Nat) = (0 : Int).natAbs from rfl, ← h1]
      split <;> omega
    rw [this]
  simp (config := { implicitDefEqProofs := false }) only [e2, EV0, EV1, EV2, List.set_cons_zero, List.set_cons_succ, Bool.not_true, Bool.not_false, eq_self, if_true, if_false, Bool.true_or, Bool.false_or, Bool.or_true, Bool.or_false, Bool.and_true, Bool.true_and, Bool.and_false, Bool.false_and, List.set_set, List.length_cons, List.length_nil, beq_self_eq_true, Bool.false_eq_true, lk, isTy, fIsi, fIsi2, kindOf, wipeE, decide_true, decide_false, Int.reduceEq, Int.reduceLT, Int.reduceLE, Int.reduceSub, Int.reduceAdd, Int.reduceNeg, Int.reduceToNat, Int.reduceNe, Nat.reduceAdd, Nat.reduceLT, Nat.reduceLeDiff, String.reduceEq, String.reduceBEq]
  rfl
theorem ix_row {r : List Int} {i : Nat} {S : Sto} (h : i < r.length) : fIx (.dat (rwD r)) (.dat (.int (i : Int))) S = .ok (.dat (.int (LA.fn r i))) S := by
  refine g_ixL ?_
  rw [atI_nat' (n := i) rfl, List.getElem?_map, List.getElem?_eq_getElem h, LA.fn_at h]
  rfl
theorem fdivN {i j : Int} {S : Sto} (h : j ≠ 0) : fFdivN (.dat (.int i)) (.dat (.int j)) S = .ok (.dat (.int (i.fdiv j))) S := if_pos h
theorem sz1 {r : List Int} (h : r.length ≤ 1000) : r.length ≤ sizeLine := sz h
theorem prim_ok {r : List Int} {S : Sto} {b : Nat} (hb : 2 * b + 1 ≤ 1000000) (hl : r.length ≤ 1000) (h : ∀ x ∈ r, x.natAbs < 2 ^ b) : m_primitive [.dat (rwD r)] S = .ok (.dat (rwD (LA.primL r))) S := by
  rw [E_primitive]
  unfold b_primitive
  by_cases hp : LA.pivotL r = r.length
  · simp (config := { implicitDefEqProofs := false }) only [pivot_ok, hp, List.length_map, EV0, EV1, EV2, List.set_cons_zero, List.set_cons_succ, Bool.not_true, Bool.not_false, eq_self, if_true, if_false, Bool.true_or, Bool.false_or, Bool.or_true, Bool.or_false, Bool.and_true, Bool.true_and, Bool.and_false, Bool.false_and, List.set_set, List.length_cons, List.length_nil, beq_self_eq_true, Bool.false_eq_true, lk, isTy, fIsi, fIsi2, kindOf, wipeE, decide_true, decide_false, Int.reduceEq, Int.reduceLT, Int.reduceLE, Int.reduceSub, Int.reduceAdd, Int.reduceNeg, Int.reduceToNat, Int.reduceNe, Nat.reduceAdd, Nat.reduceLT, Nat.reduceLeDiff, String.reduceEq, String.reduceBEq]
    rw [LA.prim_zero hp]
    rfl
  · have hp' : LA.pivotL r < r.length := by have := LA.piv_le r; omega
    have hne : ((LA.pivotL r : Nat) : Int) ≠ ((r.length : Nat) : Int) := by omega
    have hs := LA.sgd_ne hp'
    have lc : ∀ {q : Int} (a1 : Option Vl), q ≠ 0 → kLc false (.nm 3) mYes (mOp fFdivN (mVar 3) (mVar 2)) [some (.dat (rwD r)), a1, some (.dat (.int q)), none] [3] (r.map PH.D.int) S = .ok (.dat (.lst (r.map fun x => PH.D.int (x.fdiv q)))) S := fun {q} a1 hq => by
      rw [kLc_map (g := fun x => PH.D.int (x.fdiv q)) (sz1 hl) fun x _ => ⟨_, rfl, by simp (config := { implicitDefEqProofs := false }) only [fdivN hq, EV0, EV1, EV2, List.set_cons_zero, List.set_cons_succ, Bool.not_true, Bool.not_false, eq_self, if_true, if_false, Bool.true_or, Bool.false_or, Bool.or_true, Bool.or_false, Bool.and_true, Bool.true_and, Bool.and_false, Bool.false_and, List.set_set, List.length_cons, List.length_nil, beq_self_eq_true, Bool.false_eq_true, lk, isTy, fIsi, fIsi2, kindOf, wipeE, decide_true, decide_false, Int.reduceEq, Int.reduceLT, Int.reduceLE, Int.reduceSub, Int.reduceAdd, Int.reduceNeg, Int.reduceToNat, Int.reduceNe, Nat.reduceAdd, Nat.reduceLT, Nat.reduceLeDiff, String.reduceEq, String.reduceBEq]⟩]
      rfl
    have e : LA.primL r = r.map fun x => Int.fdiv x (LA.sgD r) := if_neg hp
    simp (config := { implicitDefEqProofs := false }) only [pivot_ok, List.length_map, decide_eq_false hne, gcd_ok hb h, ix_row hp', EV0, EV1, EV2, List.set_cons_zero, List.set_cons_succ, Bool.not_true, Bool.not_false, eq_self, if_true, if_false, Bool.true_or, Bool.false_or, Bool.or_true, Bool.or_false, Bool.and_true, Bool.true_and, Bool.and_false, Bool.false_and, List.set_set, List.length_cons, List.length_nil, beq_self_eq_true, Bool.false_eq_true, lk, isTy, fIsi, fIsi2, kindOf, wipeE, decide_true, decide_false, Int.reduceEq, Int.reduceLT, Int.reduceLE, Int.reduceSub, Int.reduceAdd, Int.reduceNeg, Int.reduceToNat, Int.reduceNe, Nat.reduceAdd, Nat.reduceLT, Nat.reduceLeDiff, String.reduceEq, String.reduceBEq]
    by_cases hg : LA.fn r (LA.pivotL r) < 0
    · have es : LA.sgD r = -((LA.gcdN r : Nat) : Int) := if_pos hg
      simp (config := { implicitDefEqProofs := false }) only [decide_eq_true hg, lc _ (show -((LA.gcdN r : Nat) : Int) ≠ 0 by rw [← es]; exact hs), EV0, EV1, EV2, List.set_cons_zero, List.set_cons_succ, Bool.not_true, Bool.not_false, eq_self, if_true, if_false, Bool.true_or, Bool.false_or, Bool.or_true, Bool.or_false, Bool.and_true, Bool.true_and, Bool.and_false, Bool.false_and, List.set_set, List.length_cons, List.length_nil, beq_self_eq_true, Bool.false_eq_true, lk, isTy, fIsi, fIsi2, kindOf, wipeE, decide_true, decide_false, Int.reduceEq, Int.reduceLT, Int.reduceLE, Int.reduceSub, Int.reduceAdd, Int.reduceNeg, Int.reduceToNat, Int.reduceNe, Nat.reduceAdd, Nat.reduceLT, Nat.reduceLeDiff, String.reduceEq, String.reduceBEq]
      rw [e, es]
      show Res.ok _ _ = Res.ok (Vl.dat (.lst ((r.map _).map _))) _
      rw [List.map_map]
      rfl
    · have es : LA.sgD r = ((LA.gcdN r : Nat) : Int) := if_neg hg
      simp (config := { implicitDefEqProofs := false }) only [decide_eq_false hg, lc _ (show ((LA.gcdN r : Nat) : Int) ≠ 0 by rw [← es]; exact hs), EV0, EV1, EV2, List.set_cons_zero, List.set_cons_succ, Bool.not_true, Bool.not_false, eq_self, if_true, if_false, Bool.true_or, Bool.false_or, Bool.or_true, Bool.or_false, Bool.and_true, Bool.true_and, Bool.and_false, Bool.false_and, List.set_set, List.length_cons, List.length_nil, beq_self_eq_true, Bool.false_eq_true, lk, isTy, fIsi, fIsi2, kindOf, wipeE, decide_true, decide_false, Int.reduceEq, Int.reduceLT, Int.reduceLE, Int.reduceSub, Int.reduceAdd, Int.reduceNeg, Int.reduceToNat, Int.reduceNe, Nat.reduceAdd, Nat.reduceLT, Nat.reduceLeDiff, String.reduceEq, String.reduceBEq]
      rw [e, es]
      show Res.ok _ _ = Res.ok (Vl.dat (.lst ((r.map _).map _))) _
      rw [List.map_map]
      rfl
theorem zip_map : ∀ (r c : List Int), zipD (r.map PH.D.int) (c.map PH.D.int) = (r.zip c).map fun p => PH.D.tup [.int p.1, .int p.2]
  | [], _ => rfl
  | x :: r, [] => rfl
  | x :: r, y :: c => by
    rw [List.map_cons, List.map_cons, zipD, zip_map r c]
    rfl
theorem map_zip (f : Int → Int → Int) (r c : List Int) : (r.zip c).map (fun p => PH.D.int (f p.1 p.2)) = (List.zipWith f r c).map PH.D.int := by
  rw [← List.map_uncurry_zip_eq_zipWith, List.map_map]
  rfl
theorem mulOk {i j : Int} {a b : Nat} (hi : i.natAbs < 2 ^ a) (hj : j.natAbs < 2 ^ b) (h : a + b ≤ 900000) : IntMulOk i j :=
  CMulW.ok (wide_mul (a := a + 1) (b := b + 1) (LA.lt_mono hi (by omega)) (LA.lt_mono hj (by omega)) (by omega) (by omega) (by omega))
theorem cleared_ok {r c : List Int} {S : Sto} {b e : Nat} (hb : 2 * (b + e + 1) + 1 ≤ 900000) (hl : r.length ≤ 1000) (hc : c.length = r.length) (hp : LA.pivotL c < c.length) (h : LA.Bd b r) (h2 : LA.Bd e c) : m_cleared [.dat (rwD r), .dat (rwD c)] S = .ok (.dat (rwD (LA.clrL r c))) S := by
  rw [E_cleared]
  unfold b_cleared
  simp (config := { implicitDefEqProofs := false }) only [pivot_ok, ix_row (r := r) (i := LA.pivotL c) (by omega), EV0, EV1, EV2, List.set_cons_zero, List.set_cons_succ, Bool.not_true, Bool.not_false, eq_self, if_true, if_false, Bool.true_or, Bool.false_or, Bool.or_true, Bool.or_false, Bool.and_true, Bool.true_and, Bool.and_false, Bool.false_and, List.set_set, List.length_cons, List.length_nil, beq_self_eq_true, Bool.false_eq_true, lk, isTy, fIsi, fIsi2, kindOf, wipeE, decide_true, decide_false, Int.reduceEq, Int.reduceLT, Int.reduceLE, Int.reduceSub, Int.reduceAdd, Int.reduceNeg, Int.reduceToNat, Int.reduceNe, Nat.reduceAdd, Nat.reduceLT, Nat.reduceLeDiff, String.reduceEq, String.reduceBEq]
  by_cases hz : LA.fn r (LA.pivotL c) = 0
  · simp (config := { implicitDefEqProofs := false }) only [hz, EV0, EV1, EV2, List.set_cons_zero, List.set_cons_succ, Bool.not_true, Bool.not_false, eq_self, if_true, if_false, Bool.true_or, Bool.false_or, Bool.or_true, Bool.or_false, Bool.and_true, Bool.true_and, Bool.and_false, Bool.false_and, List.set_set, List.length_cons, List.length_nil, beq_self_eq_true, Bool.false_eq_true, lk, isTy, fIsi, fIsi2, kindOf, wipeE, decide_true, decide_false, Int.reduceEq, Int.reduceLT, Int.reduceLE, Int.reduceSub, Int.reduceAdd, Int.reduceNeg, Int.reduceToNat, Int.reduceNe, Nat.reduceAdd, Nat.reduceLT, Nat.reduceLeDiff, String.reduceEq, String.reduceBEq]
    rw [show LA.clrL r c = r from if_pos hz]
    rfl
  · simp (config := { implicitDefEqProofs := false }) only [decide_eq_false hz, ix_row (r := c) (i := LA.pivotL c) hp, EV0, EV1, EV2, List.set_cons_zero, List.set_cons_succ, Bool.not_true, Bool.not_false, eq_self, if_true, if_false, Bool.true_or, Bool.false_or, Bool.or_true, Bool.or_false, Bool.and_true, Bool.true_and, Bool.and_false, Bool.false_and, List.set_set, List.length_cons, List.length_nil, beq_self_eq_true, Bool.false_eq_true, lk, isTy, fIsi, fIsi2, kindOf, wipeE, decide_true, decide_false, Int.reduceEq, Int.reduceLT, Int.reduceLE, Int.reduceSub, Int.reduceAdd, Int.reduceNeg, Int.reduceToNat, Int.reduceNe, Nat.reduceAdd, Nat.reduceLT, Nat.reduceLeDiff, String.reduceEq, String.reduceBEq]
    have ez : mZip (mVar 0) (mVar 1) [some (.dat (rwD r)), some (.dat (rwD c)), some (.dat (.int ((LA.pivotL c : Nat) : Int))), some (.dat (.int (LA.fn r (LA.pivotL c)))), some (.dat (.int (LA.fn c (LA.pivotL c)))), none, none] S = .ok ((r.zip c).map fun p => PH.D.tup [.int p.1, .int p.2]) S := by
      rw [← zip_map]
      rfl
    have em : ∀ p ∈ r.zip c, p.1 ∈ r ∧ p.2 ∈ c := fun p hp => List.of_mem_zip hp
    have f1 := LA.fn_bd h (LA.pivotL c)
    have f2 := LA.fn_bd h2 (LA.pivotL c)
    have el : kLc false (.tp [5, 6]) mYes e_cleared_1 [some (.dat (rwD r)), some (.dat (rwD c)), some (.dat (.int ((LA.pivotL c : Nat) : Int))), some (.dat (.int (LA.fn r (LA.pivotL c)))), some (.dat (.int (LA.fn c (LA.pivotL c)))), none, none] [5, 6] ((r.zip c).map fun p => PH.D.tup [.int p.1, .int p.2]) S = .ok (.dat (rwD (LA.combL (LA.fn c (LA.pivotL c)) r (LA.fn r (LA.pivotL c)) c))) S := by
      rw [kLc_map (g := fun p => PH.D.int (LA.fn c (LA.pivotL c) * p.1 - LA.fn r (LA.pivotL c) * p.2)) (by rw [List.length_zip]; exact sz (by omega)) fun p hp => ⟨_, rfl, ?_⟩]
      · rw [map_zip (fun a b => LA.fn c (LA.pivotL c) * a - LA.fn r (LA.pivotL c) * b)]
        rfl
      · obtain ⟨m1, m2⟩ := em p hp
        simp only [putEv, wipeE, List.set_cons_succ, List.set_cons_zero]
        rw [e_cleared_1]
        simp (config := { implicitDefEqProofs := false }) only [g_mulI (mulOk f2 (h _ m1) (by omega)), g_mulI (mulOk f1 (h2 _ m2) (by omega)), EV0, EV1, EV2, List.set_cons_zero, List.set_cons_succ, Bool.not_true, Bool.not_false, eq_self, if_true, if_false, Bool.true_or, Bool.false_or, Bool.or_true, Bool.or_false, Bool.and_true, Bool.true_and, Bool.and_false, Bool.false_and, List.set_set, List.length_cons, List.length_nil, beq_self_eq_true, Bool.false_eq_true, lk, isTy, fIsi, fIsi2, kindOf, wipeE, decide_true, decide_false, Int.reduceEq, Int.reduceLT, Int.reduceLE, Int.reduceSub, Int.reduceAdd, Int.reduceNeg, Int.reduceToNat, Int.reduceNe, Nat.reduceAdd, Nat.reduceLT, Nat.reduceLeDiff, String.reduceEq, String.reduceBEq]
    have hbd : LA.Bd (b + e + 1) (LA.combL (LA.fn c (LA.pivotL c)) r (LA.fn r (LA.pivotL c)) c) :=
      LA.bd_zip (p := fun x => x.natAbs < 2 ^ b) (q := fun y => y.natAbs < 2 ^ e) (fun x y hx hy => LA.lt_mono (LA.sub_lt (LA.mul_lt f2 hx) (LA.mul_lt f1 hy)) (by omega)) h h2
    have hlen : (LA.combL (LA.fn c (LA.pivotL c)) r (LA.fn r (LA.pivotL c)) c).length ≤ 1000 := by
      unfold LA.combL
      rw [List.length_zipWith]
      omega
    simp (config := { implicitDefEqProofs := false }) only [ez, el, prim_ok (b := b + e + 1) (by omega) hlen hbd, EV0, EV1, EV2, List.set_cons_zero, List.set_cons_succ, Bool.not_true, Bool.not_false, eq_self, if_true, if_false, Bool.true_or, Bool.false_or, Bool.or_true, Bool.or_false, Bool.and_true, Bool.true_and, Bool.and_false, Bool.false_and, List.set_set, List.length_cons, List.length_nil, beq_self_eq_true, Bool.false_eq_true, lk, isTy, fIsi, fIsi2, kindOf, wipeE, decide_true, decide_false, Int.reduceEq, Int.reduceLT, Int.reduceLE, Int.reduceSub, Int.reduceAdd, Int.reduceNeg, Int.reduceToNat, Int.reduceNe, Nat.reduceAdd, Nat.reduceLT, Nat.reduceLeDiff, String.reduceEq, String.reduceBEq]
    rw [show LA.clrL r c = LA.primL (LA.combL (LA.fn c (LA.pivotL c)) r (LA.fn r (LA.pivotL c)) c) from if_neg hz]
    rfl
end PH

namespace PH
open PySem PySem.Spec PyProof PyProof.Rows L2
abbrev rsD (B : List (List Int)) : PH.D := .lst (B.map rwD)
/-- a basis as the program keeps it, its numbers below 2 ^ e -/
structure BasL (e : Nat) (B : List (List Int)) : Prop where
  len : ∀ b ∈ B, b.length = 49
  plt : ∀ b ∈ B, LA.pivotL b < b.length
  pos : ∀ b ∈ B, 0 < LA.fn b (LA.pivotL b)
  bd : ∀ b ∈ B, LA.Bd e b
theorem BasL.tail {e : Nat} {b : List Int} {B : List (List Int)} (h : BasL e (b :: B)) : BasL e B :=
  ⟨fun c hc => h.len c (List.mem_cons_of_mem _ hc), fun c hc => h.plt c (List.mem_cons_of_mem _ hc), fun c hc => h.pos c (List.mem_cons_of_mem _ hc), fun c hc => h.bd c (List.mem_cons_of_mem _ hc)⟩
theorem natAbs_le_of {a b : Int} (h0 : 0 < a) (h : a ≤ b) : a.natAbs ≤ b.natAbs := by omega
theorem mul_loop {e : Nat} {row : List Int} {a0 a5 a6 a7 a8 a9 : Option Vl} {S : Sto} (hr : row.length = 49) : ∀ (B : List (List Int)) (m : Int) (c : Nat) (a3 a4 : Option Vl), BasL e B → 0 < m → m.natAbs < 2 ^ c → c + B.length * e ≤ 400000 →
    ∃ a3' a4', loop (.nm 3) w_reduced_1 (B.map rwD) [a0, some (.dat (rwD row)), some (.dat (.int m)), a3, a4, a5, a6, a7, a8, a9] S = .next [a0, some (.dat (rwD row)), some (.dat (.int (B.foldl (fun m base => LA.mulS row base m) m))), a3', a4', a5, a6, a7, a8, a9] S ∧
      (B.foldl (fun m base => LA.mulS row base m) m).natAbs < 2 ^ (c + B.length * e)
  | [], m, c, a3, a4, _, _, h, _ => ⟨a3, a4, rfl, by simpa using h⟩
  | b :: B, m, c, a3, a4, hB, hm, h, hc => by
    have l1 := hB.len b (List.mem_cons_self ..)
    have l2 := hB.plt b (List.mem_cons_self ..)
    have l3 := hB.pos b (List.mem_cons_self ..)
    have l4 := hB.bd b (List.mem_cons_self ..)
    have f2 := LA.fn_bd l4 (LA.pivotL b)
    obtain ⟨k1, k2, k3, k4⟩ := LA.mulS_ok (row := row) hm l3
    rw [List.length_cons, Nat.succ_mul] at hc
    have h' : (LA.mulS row b m).natAbs < 2 ^ (c + e) := Nat.lt_of_le_of_lt (natAbs_le_of k1 k4) (LA.mul_lt h f2)
    have turn : ∃ a3', ∃ a4', w_reduced_1 [a0, some (.dat (rwD row)), some (.dat (.int m)), some (.dat (rwD b)), a4, a5, a6, a7, a8, a9] S = .next [a0, some (.dat (rwD row)), some (.dat (.int (LA.mulS row b m))), a3', a4', a5, a6, a7, a8, a9] S := by
      rw [w_reduced_1]
      simp (config := { implicitDefEqProofs := false }) only [pivot_ok, ix_row (r := row) (i := LA.pivotL b) (by omega), EV0, EV1, EV2, List.set_cons_zero, List.set_cons_succ, Bool.not_true, Bool.not_false, eq_self, if_true, if_false, Bool.true_or, Bool.false_or, Bool.or_true, Bool.or_false, Bool.and_true, Bool.true_and, Bool.and_false, Bool.false_and, List.set_set, List.length_cons, List.length_nil, beq_self_eq_true, Bool.false_eq_true, lk, isTy, fIsi, fIsi2, kindOf, wipeE, decide_true, decide_false, Int.reduceEq, Int.reduceLT, Int.reduceLE, Int.reduceSub, Int.reduceAdd, Int.reduceNeg, Int.reduceToNat, Int.reduceNe, Nat.reduceAdd, Nat.reduceLT, Nat.reduceLeDiff, String.reduceEq, String.reduceBEq]
      by_cases hz : LA.fn row (LA.pivotL b) = 0
      · simp (config := { implicitDefEqProofs := false }) only [hz, EV0, EV1, EV2, List.set_cons_zero, List.set_cons_succ, Bool.not_true, Bool.not_false, eq_self, if_true, if_false, Bool.true_or, Bool.false_or, Bool.or_true, Bool.or_false, Bool.and_true, Bool.true_and, Bool.and_false, Bool.false_and, List.set_set, List.length_cons, List.length_nil, beq_self_eq_true, Bool.false_eq_true, lk, isTy, fIsi, fIsi2, kindOf, wipeE, decide_true, decide_false, Int.reduceEq, Int.reduceLT, Int.reduceLE, Int.reduceSub, Int.reduceAdd, Int.reduceNeg, Int.reduceToNat, Int.reduceNe, Nat.reduceAdd, Nat.reduceLT, Nat.reduceLeDiff, String.reduceEq, String.reduceBEq]
        rw [show LA.mulS row b m = m from if_pos hz]
        exact ⟨_, _, rfl⟩
      · have eg : m_common_divisor [.dat (.lst [.int m, .int (LA.fn b (LA.pivotL b))])] S = .ok (.dat (.int ((LA.gcdN [m, LA.fn b (LA.pivotL b)] : Nat) : Int))) S := gcd_ok (r := [m, LA.fn b (LA.pivotL b)]) (b := c + e) (by omega) fun x hx => by
          rcases List.mem_cons.mp hx with rfl | hx
          · exact LA.lt_mono h (by omega)
          · obtain rfl := List.mem_singleton.mp hx
            exact LA.lt_mono f2 (by omega)
        have hg : ((LA.gcdN [m, LA.fn b (LA.pivotL b)] : Nat) : Int) ≠ 0 := by
          have := LA.gcd_pos (l := [m, LA.fn b (LA.pivotL b)]) (x := 0) (by show m ≠ 0; omega)
          omega
        simp (config := { implicitDefEqProofs := false }) only [decide_eq_false hz, ix_row l2, g_mulI (mulOk h f2 (by omega)), eg, fdivN hg, EV0, EV1, EV2, List.set_cons_zero, List.set_cons_succ, Bool.not_true, Bool.not_false, eq_self, if_true, if_false, Bool.true_or, Bool.false_or, Bool.or_true, Bool.or_false, Bool.and_true, Bool.true_and, Bool.and_false, Bool.false_and, List.set_set, List.length_cons, List.length_nil, beq_self_eq_true, Bool.false_eq_true, lk, isTy, fIsi, fIsi2, kindOf, wipeE, decide_true, decide_false, Int.reduceEq, Int.reduceLT, Int.reduceLE, Int.reduceSub, Int.reduceAdd, Int.reduceNeg, Int.reduceToNat, Int.reduceNe, Nat.reduceAdd, Nat.reduceLT, Nat.reduceLeDiff, String.reduceEq, String.reduceBEq]
        rw [show LA.mulS row b m = Int.fdiv (m * LA.fn b (LA.pivotL b)) (LA.gcdN [m, LA.fn b (LA.pivotL b)]) from if_neg hz]
        exact ⟨_, _, rfl⟩
    obtain ⟨x3, x4, et⟩ := turn
    obtain ⟨y3, y4, e1, e2⟩ := mul_loop (a0 := a0) (a5 := a5) (a6 := a6) (a7 := a7) (a8 := a8) (a9 := a9) (S := S) hr B (LA.mulS row b m) (c + e) x3 x4 hB.tail k1 h' (by omega)
    refine ⟨y3, y4, ?_, by rw [List.length_cons, Nat.succ_mul, show c + (B.length * e + e) = c + e + B.length * e by omega]; exact e2⟩
    rw [List.map_cons, loop]
    simp only [tgF, List.set_cons_succ, List.set_cons_zero]
    rw [et]
    exact e1
theorem fdiv_le {m p : Int} (hm : 0 < m) (hp : 0 < p) : (m.fdiv p).natAbs ≤ m.natAbs := by
  rw [Int.fdiv_eq_ediv_of_nonneg m (by omega)]
  have h1 := Int.ediv_nonneg (show 0 ≤ m by omega) (show 0 ≤ p by omega)
  have h2 := Int.ediv_le_self p (show 0 ≤ m by omega)
  omega
theorem red_loop {e M R : Nat} {m : Int} {row : List Int} {a0 a7 a8 a9 : Option Vl} {S : Sto} (hr : row.length = 49) (hm : 0 < m) (hM : m.natAbs < 2 ^ M) (hR : LA.Bd R row) : ∀ (B : List (List Int)) (rest : List Int) (c : Nat) (a3 a4 : Option Vl), BasL e B → rest.length = 49 → LA.Bd c rest → M + R + e ≤ c → c + B.length ≤ 400000 →
    ∃ a3' a4', loop (.nm 3) w_reduced_2 (B.map rwD) [a0, some (.dat (rwD row)), some (.dat (.int m)), a3, a4, some (.dat (rwD rest)), none, a7, a8, a9] S = .next [a0, some (.dat (rwD row)), some (.dat (.int m)), a3', a4', some (.dat (rwD (B.foldl (LA.redS m row) rest))), none, a7, a8, a9] S ∧
      LA.Bd (c + B.length) (B.foldl (LA.redS m row) rest) ∧ (B.foldl (LA.redS m row) rest).length = 49
  | [], rest, c, a3, a4, _, hl, h, _, _ => ⟨a3, a4, rfl, by simpa using h, hl⟩
  | b :: B, rest, c, a3, a4, hB, hl, h, hc, hc2 => by
    have l1 := hB.len b (List.mem_cons_self ..)
    have l2 := hB.plt b (List.mem_cons_self ..)
    have l3 := hB.pos b (List.mem_cons_self ..)
    have l4 := hB.bd b (List.mem_cons_self ..)
    have f1 := LA.fn_bd hR (LA.pivotL b)
    rw [List.length_cons] at hc2
    have fd : (m.fdiv (LA.fn b (LA.pivotL b))).natAbs < 2 ^ M := Nat.lt_of_le_of_lt (fdiv_le hm l3) hM
    have ff : (LA.facL m row b).natAbs < 2 ^ (M + R) := LA.mul_lt fd f1
    have h' : LA.Bd (c + 1) (LA.redS m row rest b) := by
      unfold LA.redS
      split
      · exact h.mono (by omega)
      · exact LA.bd_zip (p := fun x => x.natAbs < 2 ^ c) (q := fun y => y.natAbs < 2 ^ e) (fun x y hx hy => LA.lt_mono (LA.sub_lt hx (LA.mul_lt ff hy)) (by omega)) h l4
    have hl' : (LA.redS m row rest b).length = 49 := by rw [LA.redS_len (by omega)]; exact hl
    have turn : ∃ a4', w_reduced_2 [a0, some (.dat (rwD row)), some (.dat (.int m)), some (.dat (rwD b)), a4, some (.dat (rwD rest)), none, a7, a8, a9] S = .next [a0, some (.dat (rwD row)), some (.dat (.int m)), some (.dat (rwD b)), a4', some (.dat (rwD (LA.redS m row rest b))), none, a7, a8, a9] S := by
      rw [w_reduced_2]
      have ef : m.fdiv (LA.fn b (LA.pivotL b)) * LA.fn row (LA.pivotL b) = LA.facL m row b := rfl
      simp (config := { implicitDefEqProofs := false }) only [pivot_ok, ix_row (r := row) (i := LA.pivotL b) (by omega), ix_row l2, fdivN (show LA.fn b (LA.pivotL b) ≠ 0 by omega), g_mulI (mulOk fd f1 (by omega)), ef, EV0, EV1, EV2, List.set_cons_zero, List.set_cons_succ, Bool.not_true, Bool.not_false, eq_self, if_true, if_false, Bool.true_or, Bool.false_or, Bool.or_true, Bool.or_false, Bool.and_true, Bool.true_and, Bool.and_false, Bool.false_and, List.set_set, List.length_cons, List.length_nil, beq_self_eq_true, Bool.false_eq_true, lk, isTy, fIsi, fIsi2, kindOf, wipeE, decide_true, decide_false, Int.reduceEq, Int.reduceLT, Int.reduceLE, Int.reduceSub, Int.reduceAdd, Int.reduceNeg, Int.reduceToNat, Int.reduceNe, Nat.reduceAdd, Nat.reduceLT, Nat.reduceLeDiff, String.reduceEq, String.reduceBEq]
      by_cases hz : LA.facL m row b = 0
      · simp (config := { implicitDefEqProofs := false }) only [hz, EV0, EV1, EV2, List.set_cons_zero, List.set_cons_succ, Bool.not_true, Bool.not_false, eq_self, if_true, if_false, Bool.true_or, Bool.false_or, Bool.or_true, Bool.or_false, Bool.and_true, Bool.true_and, Bool.and_false, Bool.false_and, List.set_set, List.length_cons, List.length_nil, beq_self_eq_true, Bool.false_eq_true, lk, isTy, fIsi, fIsi2, kindOf, wipeE, decide_true, decide_false, Int.reduceEq, Int.reduceLT, Int.reduceLE, Int.reduceSub, Int.reduceAdd, Int.reduceNeg, Int.reduceToNat, Int.reduceNe, Nat.reduceAdd, Nat.reduceLT, Nat.reduceLeDiff, String.reduceEq, String.reduceBEq]
        rw [show LA.redS m row rest b = rest from if_pos hz]
        exact ⟨_, rfl⟩
      · have ez : mZip (mVar 5) (mVar 3) [a0, some (.dat (rwD row)), some (.dat (.int m)), some (.dat (rwD b)), some (.dat (.int ((LA.pivotL b : Nat) : Int))), some (.dat (rwD rest)), some (.dat (.int (LA.facL m row b))), a7, a8, a9] S = .ok ((rest.zip b).map fun p => PH.D.tup [.int p.1, .int p.2]) S := by
          rw [← zip_map]
          rfl
        have el : kLc false (.tp [8, 9]) mYes (mOp fSub (mVar 8) (mOp fMul (mVar 6) (mVar 9))) [a0, some (.dat (rwD row)), some (.dat (.int m)), some (.dat (rwD b)), some (.dat (.int ((LA.pivotL b : Nat) : Int))), some (.dat (rwD rest)), some (.dat (.int (LA.facL m row b))), a7, a8, a9] [8, 9] ((rest.zip b).map fun p => PH.D.tup [.int p.1, .int p.2]) S = .ok (.dat (rwD (LA.subL (LA.facL m row b) rest b))) S := by
          rw [kLc_map (g := fun p => PH.D.int (p.1 - LA.facL m row b * p.2)) (by rw [List.length_zip]; exact sz (by omega)) fun p hp => ⟨_, rfl, ?_⟩]
          · rw [map_zip (fun x y => x - LA.facL m row b * y)]
            rfl
          · have m2 := (List.of_mem_zip hp).2
            simp only [putEv, wipeE, List.set_cons_succ, List.set_cons_zero]
            simp (config := { implicitDefEqProofs := false }) only [g_mulI (mulOk ff (l4 _ m2) (by omega)), EV0, EV1, EV2, List.set_cons_zero, List.set_cons_succ, Bool.not_true, Bool.not_false, eq_self, if_true, if_false, Bool.true_or, Bool.false_or, Bool.or_true, Bool.or_false, Bool.and_true, Bool.true_and, Bool.and_false, Bool.false_and, List.set_set, List.length_cons, List.length_nil, beq_self_eq_true, Bool.false_eq_true, lk, isTy, fIsi, fIsi2, kindOf, wipeE, decide_true, decide_false, Int.reduceEq, Int.reduceLT, Int.reduceLE, Int.reduceSub, Int.reduceAdd, Int.reduceNeg, Int.reduceToNat, Int.reduceNe, Nat.reduceAdd, Nat.reduceLT, Nat.reduceLeDiff, String.reduceEq, String.reduceBEq]
        simp (config := { implicitDefEqProofs := false }) only [decide_eq_false hz, ez, el, EV0, EV1, EV2, List.set_cons_zero, List.set_cons_succ, Bool.not_true, Bool.not_false, eq_self, if_true, if_false, Bool.true_or, Bool.false_or, Bool.or_true, Bool.or_false, Bool.and_true, Bool.true_and, Bool.and_false, Bool.false_and, List.set_set, List.length_cons, List.length_nil, beq_self_eq_true, Bool.false_eq_true, lk, isTy, fIsi, fIsi2, kindOf, wipeE, decide_true, decide_false, Int.reduceEq, Int.reduceLT, Int.reduceLE, Int.reduceSub, Int.reduceAdd, Int.reduceNeg, Int.reduceToNat, Int.reduceNe, Nat.reduceAdd, Nat.reduceLT, Nat.reduceLeDiff, String.reduceEq, String.reduceBEq]
        rw [show LA.redS m row rest b = LA.subL (LA.facL m row b) rest b from if_neg hz]
        exact ⟨_, rfl⟩
    obtain ⟨x4, et⟩ := turn
    obtain ⟨y3, y4, e1, e2, e3⟩ := red_loop (a0 := a0) (a7 := a7) (a8 := a8) (a9 := a9) (S := S) hr hm hM hR B (LA.redS m row rest b) (c + 1) (some (.dat (rwD b))) x4 hB.tail hl' h' (by omega) (by omega)
    refine ⟨y3, y4, ?_, by rw [List.length_cons, show c + (B.length + 1) = c + 1 + B.length by omega]; exact e2, e3⟩
    rw [List.map_cons, loop]
    simp only [tgF, List.set_cons_succ, List.set_cons_zero]
    rw [et]
    exact e1
theorem reduced_ok {e R : Nat} {B : List (List Int)} {row : List Int} {S : Sto} (hB : BasL e B) (hr : row.length = 49) (hR : LA.Bd R row) (hc : B.length * e + R + e + B.length + 1 ≤ 400000) :
    m_reduced [.dat (rsD B), .dat (rwD row)] S = .ok (.dat (rwD (LA.redL B row))) S ∧ LA.Bd (B.length * e + R + e + B.length + 1) (LA.redL B row) ∧ (LA.redL B row).length = 49 := by
  have mp : 0 < LA.mulL B row := (LA.mul_fold (row := row) B 1 (by omega) hB.pos).1
  obtain ⟨x3, x4, e1, e2⟩ := mul_loop (a0 := some (.dat (rsD B))) (a5 := none) (a6 := none) (a7 := none) (a8 := none) (a9 := none) (S := S) hr B 1 1 none none hB (by omega) (by decide) (by omega)
  have hmul : (LA.mulL B row).natAbs < 2 ^ (1 + B.length * e) := e2
  have hb0 : LA.Bd (1 + B.length * e + R + e) (row.map fun x => LA.mulL B row * x) := fun y hy => by
    obtain ⟨x, hx, rfl⟩ := List.mem_map.mp hy
    exact LA.lt_mono (LA.mul_lt hmul (hR x hx)) (by omega)
  obtain ⟨y3, y4, g1, g2, g3⟩ := red_loop (a0 := some (.dat (rsD B))) (a7 := none) (a8 := none) (a9 := none) (S := S) hr mp hmul hR B (row.map fun x => LA.mulL B row * x) (1 + B.length * e + R + e) x3 x4 hB (by rw [List.length_map]; exact hr) hb0 (by omega) (by omega)
  refine ⟨?_, g2.mono (by omega), g3⟩
  rw [E_reduced]
  unfold b_reduced
  have el : kLc false (.nm 7) mYes (mOp fMul (mVar 2) (mVar 7)) [some (.dat (rsD B)), some (.dat (rwD row)), some (.dat (.int (LA.mulL B row))), x3, x4, none, none, none, none, none] [7] (row.map PH.D.int) S = .ok (.dat (rwD (row.map fun x => LA.mulL B row * x))) S := by
    rw [kLc_map (g := fun x => PH.D.int (LA.mulL B row * x)) (sz (by omega)) fun x hx => ⟨_, rfl, by simp (config := { implicitDefEqProofs := false }) only [g_mulI (mulOk hmul (hR x hx) (by omega)), EV0, EV1, EV2, List.set_cons_zero, List.set_cons_succ, Bool.not_true, Bool.not_false, eq_self, if_true, if_false, Bool.true_or, Bool.false_or, Bool.or_true, Bool.or_false, Bool.and_true, Bool.true_and, Bool.and_false, Bool.false_and, List.set_set, List.length_cons, List.length_nil, beq_self_eq_true, Bool.false_eq_true, lk, isTy, fIsi, fIsi2, kindOf, wipeE, decide_true, decide_false, Int.reduceEq, Int.reduceLT, Int.reduceLE, Int.reduceSub, Int.reduceAdd, Int.reduceNeg, Int.reduceToNat, Int.reduceNe, Nat.reduceAdd, Nat.reduceLT, Nat.reduceLeDiff, String.reduceEq, String.reduceBEq]⟩]
    show Res.ok _ _ = Res.ok (Vl.dat (.lst ((row.map _).map _))) _
    rw [List.map_map]
    rfl
  simp (config := { implicitDefEqProofs := false }) only [show loop (.nm 3) w_reduced_1 (B.map rwD) [some (.dat (rsD B)), some (.dat (rwD row)), some (.dat (.int 1)), none, none, none, none, none, none, none] S = .next [some (.dat (rsD B)), some (.dat (rwD row)), some (.dat (.int (LA.mulL B row))), x3, x4, none, none, none, none, none] S from e1, el, g1, EV0, EV1, EV2, List.set_cons_zero, List.set_cons_succ, Bool.not_true, Bool.not_false, eq_self, if_true, if_false, Bool.true_or, Bool.false_or, Bool.or_true, Bool.or_false, Bool.and_true, Bool.true_and, Bool.and_false, Bool.false_and, List.set_set, List.length_cons, List.length_nil, beq_self_eq_true, Bool.false_eq_true, lk, isTy, fIsi, fIsi2, kindOf, wipeE, decide_true, decide_false, Int.reduceEq, Int.reduceLT, Int.reduceLE, Int.reduceSub, Int.reduceAdd, Int.reduceNeg, Int.reduceToNat, Int.reduceNe, Nat.reduceAdd, Nat.reduceLT, Nat.reduceLeDiff, String.reduceEq, String.reduceBEq]
  rfl
end PH

namespace LA
theorem spaceL_len {n : Nat} : ∀ (rows B : List (List Int)), CnL n B → (∀ r, r ∈ rows → r.length = n) → (rows.foldl withL B).length ≤ B.length + rows.length
  | [], B, _, _ => Nat.le_refl _
  | r :: rows, B, h, hr => by
    obtain ⟨h1, _, h2⟩ := with_ok h (hr r (List.mem_cons_self ..))
    have h3 : (withL B r).length ≤ B.length + 1 := by
      rcases h2 with ⟨e, _⟩ | ⟨e, _⟩
      · rw [e]; omega
      · omega
    have := spaceL_len rows (withL B r) h1 fun x hx => hr x (List.mem_cons_of_mem _ hx)
    rw [List.foldl_cons, List.length_cons]
    omega
theorem pow_two {k n b : Nat} (hk : k ≤ n) (hn : n ≤ 16) : (2 * k * 2 ^ b) ^ k ≤ 2 ^ ((b + 5) * n) := by
  have h1 : 2 * k * 2 ^ b ≤ 2 ^ (b + 5) := by
    rw [Nat.pow_add, Nat.mul_comm]
    exact Nat.mul_le_mul_left _ (by omega)
  calc (2 * k * 2 ^ b) ^ k ≤ (2 ^ (b + 5)) ^ k := Nat.pow_le_pow_left h1 k
    _ = 2 ^ ((b + 5) * k) := by rw [← Nat.pow_mul]
    _ ≤ 2 ^ ((b + 5) * n) := Nat.pow_le_pow_right (by omega) (Nat.mul_le_mul_left _ hk)
/-- the canonical basis of rows below 2 ^ b -/
theorem cnl_bd {n b m : Nat} {rows B : List (List Int)} (hC : CnL n B) (hs : ∀ v, SpL B v ↔ SpL rows v) (hb : ∀ r ∈ rows, Bd b r) (hl : B.length ≤ m) (hm : m ≤ 16) : ∀ c ∈ B, Bd ((b + 5) * m + 1) c := by
  intro c hc x hx
  obtain ⟨i, hi, rfl⟩ := List.getElem_of_mem hc
  obtain ⟨j, hj, rfl⟩ := List.getElem_of_mem hx
  have q := hC.cn.bound (m := rows.length) (M := 2 ^ b) (V := fun j => fn (rows.getD j [])) (two_pos b) (fun j x hj => by
      have := fn_bd (hb _ (List.getElem_mem hj)) x
      rw [getD_at hj]
      omega) (fun j hj => by
      rw [← sp_fam]
      refine (hs _).mpr (.gen ⟨rows[j], List.getElem_mem hj, ?_⟩)
      rw [getD_at hj]) (fun i hi => by
      have : SpL rows (fam B i) := (hs _).mp (.gen (mem_fam.mpr ⟨i, hi, rfl⟩))
      refine this.mono fun v hv => .gen ?_
      obtain ⟨r, hr, rfl⟩ := hv
      obtain ⟨j, hj, rfl⟩ := List.getElem_of_mem hr
      exact ⟨j, hj, by show fn rows[j] = fn (rows.getD j []); rw [getD_at hj]⟩) hi j
  have e : fam B i j = B[i][j] := by
    unfold fam
    rw [getD_at hi, fn_at hj]
  rw [e] at q
  have := pow_two (b := b) hl hm
  have := two_pos ((b + 5) * m)
  rw [Nat.pow_succ]
  omega
theorem piv_zero {r : List Int} (h : ∀ x, fn r x = 0) : pivotL r = r.length := by
  have := piv_le r
  rcases Nat.lt_or_ge (pivotL r) r.length with y | y
  · exact absurd (h _) (piv_at y)
  · omega
end LA

namespace PH
open PySem PySem.Spec PyProof PyProof.Rows L2
theorem bas_of {e : Nat} {B : List (List Int)} (h : LA.CnL 49 B) (hb : ∀ c ∈ B, LA.Bd e c) : BasL e B :=
  ⟨h.len, fun b hb => by rw [h.len b hb]; exact h.plt hb, h.pos, hb⟩
theorem kgo_piv {S : Sto} : ∀ l : List (List Int), kGo m_pivot (l.map rwD) S = some (l.map fun r => ((LA.pivotL r : Nat) : Int), S)
  | [] => rfl
  | r :: l => by
    rw [List.map_cons, kGo, pivot_ok]
    dsimp only
    rw [kgo_piv l]
    rfl
theorem bykey_piv (l : List (List Int)) : byKey ((l.map rwD).zip (l.map fun r => ((LA.pivotL r : Nat) : Int))) = (l.mergeSort LA.leP).map rwD := by
  have e : (l.map rwD).zip (l.map fun r => ((LA.pivotL r : Nat) : Int)) = (l.map fun r => (r, ((LA.pivotL r : Nat) : Int))).map fun p => (rwD p.1, p.2) := by
    rw [List.map_map]
    induction l with
    | nil => rfl
    | cons x l ih => rw [List.map_cons, List.map_cons, List.zip_cons_cons, ih]; rfl
  rw [e, byKey_map]
  unfold byKey
  have e2 : (l.map fun r => (r, ((LA.pivotL r : Nat) : Int))).mergeSort (fun p q => decide (p.2 ≤ q.2)) = (l.mergeSort LA.leP).map fun r => (r, ((LA.pivotL r : Nat) : Int)) := by
    rw [List.map_mergeSort (s := fun p q : List Int × Int => decide (p.2 ≤ q.2)) fun a _ b _ => ?_]
    unfold LA.leP
    rw [decide_eq_decide]
    omega
  have e3 : ((l.mergeSort LA.leP).map fun r => (r, ((LA.pivotL r : Nat) : Int))).map (·.1) = l.mergeSort LA.leP := by
    rw [List.map_map]
    exact List.map_id _
  rw [e2, e3]
theorem sortK_ok {l : List (List Int)} {S : Sto} : fSortK false m_pivot (.dat (rsD l)) S = .ok (.dat (rsD (l.mergeSort LA.leP))) S := by
  unfold fSortK
  rw [show seqL S (.dat (rsD l)) = some (l.map rwD) from rfl]
  dsimp only
  rw [kgo_piv]
  dsimp only
  rw [bykey_piv]
  rfl
theorem with_row_ok {e R K : Nat} {B : List (List Int)} {row : List Int} {S : Sto} (hB : BasL e B) (hr : row.length = 49) (hR : LA.Bd R row) (hK : B.length * e + R + e + B.length + 1 ≤ K) (hc : 2 * (e + K + 1) + 1 ≤ 400000) (hl : B.length ≤ 100) :
    m_with_row [.dat (rsD B), .dat (rwD row)] S = .ok (.dat (rsD (LA.withL B row))) S := by
  obtain ⟨e1, e2, e3⟩ := reduced_ok (S := S) hB hr hR (by omega)
  have hpb := LA.prim_bd e2
  have hpl : (LA.primL (LA.redL B row)).length = 49 := LA.prim_len.trans e3
  rw [E_with_row]
  unfold b_with_row LA.withL
  generalize hrest : LA.primL (LA.redL B row) = rest at hpb hpl
  by_cases hz : LA.pivotL rest = rest.length
  · simp (config := { implicitDefEqProofs := false }) only [e1, prim_ok (by omega) (by omega) e2, hrest, pivot_ok, hz, List.length_map, EV0, EV1, EV2, List.set_cons_zero, List.set_cons_succ, Bool.not_true, Bool.not_false, eq_self, if_true, if_false, Bool.true_or, Bool.false_or, Bool.or_true, Bool.or_false, Bool.and_true, Bool.true_and, Bool.and_false, Bool.false_and, List.set_set, List.length_cons, List.length_nil, beq_self_eq_true, Bool.false_eq_true, lk, isTy, fIsi, fIsi2, kindOf, wipeE, decide_true, decide_false, Int.reduceEq, Int.reduceLT, Int.reduceLE, Int.reduceSub, Int.reduceAdd, Int.reduceNeg, Int.reduceToNat, Int.reduceNe, Nat.reduceAdd, Nat.reduceLT, Nat.reduceLeDiff, String.reduceEq, String.reduceBEq]
    rfl
  · have hne : ((LA.pivotL rest : Nat) : Int) ≠ ((rest.length : Nat) : Int) := by omega
    have hp : LA.pivotL rest < rest.length := by have := LA.piv_le rest; omega
    have el : kLc false (.nm 3) mYes (mCall m_cleared (mCons (mVar 3) (mCons (mVar 2) mNil))) [some (.dat (rsD B)), some (.dat (rwD row)), some (.dat (rwD rest)), none] [3] (B.map rwD) S = .ok (.dat (rsD (B.map fun b => LA.clrL b rest))) S := by
      rw [kLc_map (g := fun b => rwD (LA.clrL b rest)) (sz (by omega)) fun b hb => ⟨_, rfl, by simp (config := { implicitDefEqProofs := false }) only [cleared_ok (b := e) (e := B.length * e + R + e + B.length + 1) (by omega) (by rw [hB.len b hb]; omega) (by rw [hB.len b hb]; exact hpl) hp (hB.bd b hb) hpb, EV0, EV1, EV2, List.set_cons_zero, List.set_cons_succ, Bool.not_true, Bool.not_false, eq_self, if_true, if_false, Bool.true_or, Bool.false_or, Bool.or_true, Bool.or_false, Bool.and_true, Bool.true_and, Bool.and_false, Bool.false_and, List.set_set, List.length_cons, List.length_nil, beq_self_eq_true, Bool.false_eq_true, lk, isTy, fIsi, fIsi2, kindOf, wipeE, decide_true, decide_false, Int.reduceEq, Int.reduceLT, Int.reduceLE, Int.reduceSub, Int.reduceAdd, Int.reduceNeg, Int.reduceToNat, Int.reduceNe, Nat.reduceAdd, Nat.reduceLT, Nat.reduceLeDiff, String.reduceEq, String.reduceBEq]⟩]
      show Res.ok _ _ = Res.ok (Vl.dat (.lst ((B.map _).map _))) _
      rw [List.map_map]
      rfl
    have ea : fAdd false (.dat (rsD (B.map fun b => LA.clrL b rest))) (.dat (.lst [rwD rest])) S = .ok (.dat (rsD ((B.map fun b => LA.clrL b rest) ++ [rest]))) S := by
      rw [g_addL (by simp; exact sz (by omega))]
      show Res.ok _ _ = _
      unfold rsD
      rw [List.map_append]
      rfl
    simp (config := { implicitDefEqProofs := false }) only [e1, prim_ok (by omega) (by omega) e2, hrest, pivot_ok, List.length_map, decide_eq_false hne, el, ea, sortK_ok, EV0, EV1, EV2, List.set_cons_zero, List.set_cons_succ, Bool.not_true, Bool.not_false, eq_self, if_true, if_false, Bool.true_or, Bool.false_or, Bool.or_true, Bool.or_false, Bool.and_true, Bool.true_and, Bool.and_false, Bool.false_and, List.set_set, List.length_cons, List.length_nil, beq_self_eq_true, Bool.false_eq_true, lk, isTy, fIsi, fIsi2, kindOf, wipeE, decide_true, decide_false, Int.reduceEq, Int.reduceLT, Int.reduceLE, Int.reduceSub, Int.reduceAdd, Int.reduceNeg, Int.reduceToNat, Int.reduceNe, Nat.reduceAdd, Nat.reduceLT, Nat.reduceLeDiff, String.reduceEq, String.reduceBEq]
    rw [if_neg hz]
    rfl
end PH

namespace PH
open PySem PySem.Spec PyProof PyProof.Rows L2
def notIns : PH.D → Bool
  | .ins _ _ _ => false
  | _ => true
def isIntD : PH.D → Bool
  | .int _ => true
  | _ => false
def isMatD : PH.D → Bool
  | .lst ds => decide (ds.length = 49) && ds.all isIntD
  | _ => false
def okMat : PH.D → Bool
  | .lst ds => decide (ds.length ≤ 1000) && ds.all notIns
  | .ins _ _ _ => false
  | _ => true
theorem isint_any {d : PH.D} {S : Sto} (h : notIns d = true) : m_is_integer [.dat d] S = .ok (.dat (.bl (isIntD d))) S := by
  rw [show m_is_integer [.dat d] S = ofOut (b_is_integer [some (.dat d)] S) from rfl]
  unfold b_is_integer
  cases d <;> first | (cases h; done) | (simp (config := { implicitDefEqProofs := false }) only [EV0, EV1, EV2, List.set_cons_zero, List.set_cons_succ, Bool.not_true, Bool.not_false, eq_self, if_true, if_false, Bool.true_or, Bool.false_or, Bool.or_true, Bool.or_false, Bool.and_true, Bool.true_and, Bool.and_false, Bool.false_and, List.set_set, List.length_cons, List.length_nil, beq_self_eq_true, Bool.false_eq_true, lk, isTy, fIsi, fIsi2, kindOf, wipeE, decide_true, decide_false, Int.reduceEq, Int.reduceLT, Int.reduceLE, Int.reduceSub, Int.reduceAdd, Int.reduceNeg, Int.reduceToNat, Int.reduceNe, Nat.reduceAdd, Nat.reduceLT, Nat.reduceLeDiff, String.reduceEq, String.reduceBEq]; rfl)
theorem allBl_map {α : Type} (f : α → Bool) : ∀ l : List α, allBl (l.map fun x => PH.D.bl (f x)) = some (l.map f)
  | [] => rfl
  | x :: l => by
    rw [List.map_cons, allBl, allBl_map f l]
    rfl
theorem all_map {α : Type} {f : α → Bool} {l : List α} {S : Sto} : fAll (.dat (.lst (l.map fun x => PH.D.bl (f x)))) S = .ok (.dat (.bl (l.all f))) S := by
  unfold fAll
  rw [show seqL S (.dat (.lst (l.map fun x => PH.D.bl (f x)))) = some (l.map fun x => PH.D.bl (f x)) from rfl]
  dsimp only
  rw [allBl_map]
  dsimp only
  rw [List.all_map]
  rfl
theorem ismat_ok {d : PH.D} {S : Sto} (h : okMat d = true) : m_is_matrix [.dat d] S = .ok (.dat (.bl (isMatD d))) S := by
  rw [E_is_matrix]
  unfold b_is_matrix
  cases d with
  | lst ds =>
    obtain ⟨h1, h2⟩ := Bool.and_eq_true_iff.mp (show (decide (ds.length ≤ 1000) && ds.all notIns) = true from h)
    have hl := of_decide_eq_true h1
    simp (config := { implicitDefEqProofs := false }) only [EV0, EV1, EV2, List.set_cons_zero, List.set_cons_succ, Bool.not_true, Bool.not_false, eq_self, if_true, if_false, Bool.true_or, Bool.false_or, Bool.or_true, Bool.or_false, Bool.and_true, Bool.true_and, Bool.and_false, Bool.false_and, List.set_set, List.length_cons, List.length_nil, beq_self_eq_true, Bool.false_eq_true, lk, isTy, fIsi, fIsi2, kindOf, wipeE, decide_true, decide_false, Int.reduceEq, Int.reduceLT, Int.reduceLE, Int.reduceSub, Int.reduceAdd, Int.reduceNeg, Int.reduceToNat, Int.reduceNe, Nat.reduceAdd, Nat.reduceLT, Nat.reduceLeDiff, String.reduceEq, String.reduceBEq]
    by_cases hz : ((ds.length : Nat) : Int) = 49
    · have hz' : ds.length = 49 := by omega
      have el : kLc false (.nm 1) mYes (mCall m_is_integer (mCons (mVar 1) mNil)) [some (.dat (.lst ds)), none] [1] ds S = .ok (.dat (.lst (ds.map fun x => PH.D.bl (isIntD x)))) S := by
        have := kLc_map (cl := false) (t := .nm 1) (e := mCall m_is_integer (mCons (mVar 1) mNil)) (ρ := [some (.dat (.lst ds)), none]) (S := S) (f := fun d : PH.D => d) (g := fun x => PH.D.bl (isIntD x)) (xs := ds) (vs := [1]) (sz (by omega)) fun x hx => ⟨_, rfl, by simp (config := { implicitDefEqProofs := false }) only [isint_any (List.all_eq_true.mp h2 x hx), EV0, EV1, EV2, List.set_cons_zero, List.set_cons_succ, Bool.not_true, Bool.not_false, eq_self, if_true, if_false, Bool.true_or, Bool.false_or, Bool.or_true, Bool.or_false, Bool.and_true, Bool.true_and, Bool.and_false, Bool.false_and, List.set_set, List.length_cons, List.length_nil, beq_self_eq_true, Bool.false_eq_true, lk, isTy, fIsi, fIsi2, kindOf, wipeE, decide_true, decide_false, Int.reduceEq, Int.reduceLT, Int.reduceLE, Int.reduceSub, Int.reduceAdd, Int.reduceNeg, Int.reduceToNat, Int.reduceNe, Nat.reduceAdd, Nat.reduceLT, Nat.reduceLeDiff, String.reduceEq, String.reduceBEq]⟩
        rw [List.map_id'] at this
        exact this
      simp (config := { implicitDefEqProofs := false }) only [decide_eq_true hz, el, all_map, EV0, EV1, EV2, List.set_cons_zero, List.set_cons_succ, Bool.not_true, Bool.not_false, eq_self, if_true, if_false, Bool.true_or, Bool.false_or, Bool.or_true, Bool.or_false, Bool.and_true, Bool.true_and, Bool.and_false, Bool.false_and, List.set_set, List.length_cons, List.length_nil, beq_self_eq_true, Bool.false_eq_true, lk, isTy, fIsi, fIsi2, kindOf, wipeE, decide_true, decide_false, Int.reduceEq, Int.reduceLT, Int.reduceLE, Int.reduceSub, Int.reduceAdd, Int.reduceNeg, Int.reduceToNat, Int.reduceNe, Nat.reduceAdd, Nat.reduceLT, Nat.reduceLeDiff, String.reduceEq, String.reduceBEq]
      rw [show isMatD (.lst ds) = (decide (ds.length = 49) && ds.all isIntD) from rfl, decide_eq_true hz', Bool.true_and]
      rfl
    · simp (config := { implicitDefEqProofs := false }) only [decide_eq_false hz, EV0, EV1, EV2, List.set_cons_zero, List.set_cons_succ, Bool.not_true, Bool.not_false, eq_self, if_true, if_false, Bool.true_or, Bool.false_or, Bool.or_true, Bool.or_false, Bool.and_true, Bool.true_and, Bool.and_false, Bool.false_and, List.set_set, List.length_cons, List.length_nil, beq_self_eq_true, Bool.false_eq_true, lk, isTy, fIsi, fIsi2, kindOf, wipeE, decide_true, decide_false, Int.reduceEq, Int.reduceLT, Int.reduceLE, Int.reduceSub, Int.reduceAdd, Int.reduceNeg, Int.reduceToNat, Int.reduceNe, Nat.reduceAdd, Nat.reduceLT, Nat.reduceLeDiff, String.reduceEq, String.reduceBEq]
      rw [show isMatD (.lst ds) = (decide (ds.length = 49) && ds.all isIntD) from rfl, decide_eq_false (show ¬ ds.length = 49 by omega), Bool.false_and]
      rfl
  | ins a b c => cases h
  | _ => simp (config := { implicitDefEqProofs := false }) only [EV0, EV1, EV2, List.set_cons_zero, List.set_cons_succ, Bool.not_true, Bool.not_false, eq_self, if_true, if_false, Bool.true_or, Bool.false_or, Bool.or_true, Bool.or_false, Bool.and_true, Bool.true_and, Bool.and_false, Bool.false_and, List.set_set, List.length_cons, List.length_nil, beq_self_eq_true, Bool.false_eq_true, lk, isTy, fIsi, fIsi2, kindOf, wipeE, decide_true, decide_false, Int.reduceEq, Int.reduceLT, Int.reduceLE, Int.reduceSub, Int.reduceAdd, Int.reduceNeg, Int.reduceToNat, Int.reduceNe, Nat.reduceAdd, Nat.reduceLT, Nat.reduceLeDiff, String.reduceEq, String.reduceBEq]; rfl
theorem row_mat {r : List Int} (h : r.length = 49) : okMat (rwD r) = true ∧ isMatD (rwD r) = true := by
  have h1 : (r.map PH.D.int).all notIns = true := List.all_eq_true.mpr fun x hx => by
    obtain ⟨i, _, rfl⟩ := List.mem_map.mp hx
    rfl
  have h2 : (r.map PH.D.int).all isIntD = true := List.all_eq_true.mpr fun x hx => by
    obtain ⟨i, _, rfl⟩ := List.mem_map.mp hx
    rfl
  refine ⟨?_, ?_⟩
  · show (decide ((r.map PH.D.int).length ≤ 1000) && (r.map PH.D.int).all notIns) = true
    rw [h1, List.length_map, h]
    rfl
  · show (decide ((r.map PH.D.int).length = 49) && (r.map PH.D.int).all isIntD) = true
    rw [h2, List.length_map, h]
    rfl
def spcD (B : List (List Int)) : PH.D := .ins "Space" ["basis"] [rsD B]
def badAt : Nat → List PH.D → Option Nat
  | _, [] => none
  | n, d :: r => if isMatD d = true then badAt (n + 1) r else some n
def noRows (i : Int) : Er := ⟨"NoRows", ["index"], [.int i]⟩
theorem ismat_loop {a0 a1 a4 : Option Vl} {S : Sto} : ∀ (ds : List PH.D) (n : Nat) (a3 : Option Vl), (∀ d ∈ ds, okMat d = true) → match badAt n ds with
    | none => ∃ a3', loop (.tp [2, 3]) w_Space_init_1 (enumD n ds) [a0, a1, none, a3, a4] S = .next [a0, a1, none, a3', a4] S
    | some i => ∃ ρ', loop (.tp [2, 3]) w_Space_init_1 (enumD n ds) [a0, a1, none, a3, a4] S = .err (noRows (i : Nat)) ρ' S
  | [], n, a3, _ => ⟨_, rfl⟩
  | d :: ds, n, a3, h => by
    have h1 := h d (List.mem_cons_self ..)
    have ih := ismat_loop (a0 := a0) (a1 := a1) (a4 := a4) (S := S) ds (n + 1) (some (.dat d)) fun x hx => h x (List.mem_cons_of_mem _ hx)
    rw [enumD, loop]
    simp only [tgF, putEv, List.length_cons, List.length_nil, if_true, List.set_cons_succ, List.set_cons_zero]
    rw [badAt, w_Space_init_1]
    cases hm : isMatD d with
    | true =>
      rw [if_pos rfl]
      simp (config := { implicitDefEqProofs := false }) only [ismat_ok h1, hm, EV0, EV1, EV2, List.set_cons_zero, List.set_cons_succ, Bool.not_true, Bool.not_false, eq_self, if_true, if_false, Bool.true_or, Bool.false_or, Bool.or_true, Bool.or_false, Bool.and_true, Bool.true_and, Bool.and_false, Bool.false_and, List.set_set, List.length_cons, List.length_nil, beq_self_eq_true, Bool.false_eq_true, lk, isTy, fIsi, fIsi2, kindOf, wipeE, decide_true, decide_false, Int.reduceEq, Int.reduceLT, Int.reduceLE, Int.reduceSub, Int.reduceAdd, Int.reduceNeg, Int.reduceToNat, Int.reduceNe, Nat.reduceAdd, Nat.reduceLT, Nat.reduceLeDiff, String.reduceEq, String.reduceBEq]
      rw [← w_Space_init_1]
      exact ih
    | false =>
      rw [if_neg (by simp)]
      dsimp only
      simp (config := { implicitDefEqProofs := false }) only [ismat_ok h1, hm, EV0, EV1, EV2, List.set_cons_zero, List.set_cons_succ, Bool.not_true, Bool.not_false, eq_self, if_true, if_false, Bool.true_or, Bool.false_or, Bool.or_true, Bool.or_false, Bool.and_true, Bool.true_and, Bool.and_false, Bool.false_and, List.set_set, List.length_cons, List.length_nil, beq_self_eq_true, Bool.false_eq_true, lk, isTy, fIsi, fIsi2, kindOf, wipeE, decide_true, decide_false, Int.reduceEq, Int.reduceLT, Int.reduceLE, Int.reduceSub, Int.reduceAdd, Int.reduceNeg, Int.reduceToNat, Int.reduceNe, Nat.reduceAdd, Nat.reduceLT, Nat.reduceLeDiff, String.reduceEq, String.reduceBEq]
      exact ⟨_, rfl⟩
/-- the bounds under which the program's numbers stay small -/
def eOf (b m : Nat) : Nat := (b + 5) * m + 1
theorem eOf_le {b m : Nat} (hb : b ≤ 1000) (hm : m ≤ 10) : eOf b m ≤ 10051 := by
  have : (b + 5) * m ≤ 1005 * 10 := Nat.mul_le_mul (by omega) hm
  unfold eOf
  omega
theorem with_row_b {b m : Nat} {B : List (List Int)} {row : List Int} {S : Sto} (hb : b ≤ 1000) (hm : m ≤ 10) (hB : BasL (eOf b m) B) (hr : row.length = 49) (hR : LA.Bd b row) (hl : B.length ≤ 10) : m_with_row [.dat (rsD B), .dat (rwD row)] S = .ok (.dat (rsD (LA.withL B row))) S := by
  have h1 := eOf_le hb hm
  have h2 : B.length * eOf b m ≤ 10 * 10051 := Nat.mul_le_mul hl h1
  exact with_row_ok (K := 120000) hB hr hR (by omega) (by omega) (by omega)
theorem space_loop {b m : Nat} {a0 a1 a2 : Option Vl} {S : Sto} (hb : b ≤ 1000) (hm : m ≤ 10) : ∀ (rows done B : List (List Int)) (a3 : Option Vl), LA.CnL 49 B → (∀ v, LA.SpL B v ↔ LA.SpL done v) → (∀ r ∈ done ++ rows, r.length = 49 ∧ LA.Bd b r) → B.length ≤ done.length → (done ++ rows).length ≤ m →
    ∃ a3', loop (.nm 3) w_Space_init_2 (rows.map rwD) [a0, a1, a2, a3, some (.dat (rsD B))] S = .next [a0, a1, a2, a3', some (.dat (rsD (rows.foldl LA.withL B)))] S
  | [], done, B, a3, _, _, _, _, _ => ⟨a3, rfl⟩
  | r :: rows, done, B, a3, hC, hs, hr, hl, hn => by
    have hlen : done.length + (rows.length + 1) ≤ m := by simpa using hn
    obtain ⟨r1, r2⟩ := hr r (by simp)
    have hbd := LA.cnl_bd (m := m) hC hs (fun x hx => (hr x (List.mem_append_left _ hx)).2) (by omega) (by omega)
    have e := with_row_b (S := S) hb hm (bas_of hC hbd) r1 r2 (by omega)
    obtain ⟨k1, k2, k3⟩ := LA.with_ok hC r1
    have hl2 : (LA.withL B r).length ≤ (done ++ [r]).length := by
      rw [List.length_append, List.length_singleton]
      rcases k3 with ⟨q, _⟩ | ⟨q, _⟩
      · rw [q]; omega
      · omega
    have hs2 : ∀ v, LA.SpL (LA.withL B r) v ↔ LA.SpL (done ++ [r]) v := fun v => by
      refine (k2 v).trans ⟨fun s => LA.Sp.mono (fun w hw => ?_) s, fun s => LA.Sp.mono (fun w hw => ?_) s⟩
      · obtain ⟨c, hc, rfl⟩ := hw
        rcases List.mem_cons.mp hc with rfl | hc
        · exact .gen ⟨c, by simp, rfl⟩
        · exact LA.Sp.mono (fun w ⟨c, hc, e⟩ => .gen ⟨c, by simp [hc], e⟩) ((hs _).mp (.gen ⟨c, hc, rfl⟩))
      · obtain ⟨c, hc, rfl⟩ := hw
        rcases List.mem_append.mp hc with hc | hc
        · exact LA.Sp.mono (fun w ⟨c, hc, e⟩ => .gen ⟨c, by simp [hc], e⟩) ((hs _).mpr (.gen ⟨c, hc, rfl⟩))
        · obtain rfl := List.mem_singleton.mp hc
          exact .gen ⟨c, by simp, rfl⟩
    obtain ⟨a3', ih⟩ := space_loop (a0 := a0) (a1 := a1) (a2 := a2) (S := S) hb hm rows (done ++ [r]) (LA.withL B r) (some (.dat (rwD r))) k1 hs2 (by simpa using hr) hl2 (by simpa using hn)
    refine ⟨a3', ?_⟩
    rw [List.map_cons, loop]
    simp only [tgF, List.set_cons_succ, List.set_cons_zero]
    rw [w_Space_init_2]
    simp (config := { implicitDefEqProofs := false }) only [e, EV0, EV1, EV2, List.set_cons_zero, List.set_cons_succ, Bool.not_true, Bool.not_false, eq_self, if_true, if_false, Bool.true_or, Bool.false_or, Bool.or_true, Bool.or_false, Bool.and_true, Bool.true_and, Bool.and_false, Bool.false_and, List.set_set, List.length_cons, List.length_nil, beq_self_eq_true, Bool.false_eq_true, lk, isTy, fIsi, fIsi2, kindOf, wipeE, decide_true, decide_false, Int.reduceEq, Int.reduceLT, Int.reduceLE, Int.reduceSub, Int.reduceAdd, Int.reduceNeg, Int.reduceToNat, Int.reduceNe, Nat.reduceAdd, Nat.reduceLT, Nat.reduceLeDiff, String.reduceEq, String.reduceBEq]
    rw [← w_Space_init_2]
    exact ih
theorem badAt_rows : ∀ (rows : List (List Int)) (n : Nat), (∀ r ∈ rows, r.length = 49) → badAt n (rows.map rwD) = none
  | [], _, _ => rfl
  | r :: rows, n, h => by
    rw [List.map_cons, badAt, if_pos (row_mat (h r (List.mem_cons_self ..))).2]
    exact badAt_rows rows (n + 1) fun x hx => h x (List.mem_cons_of_mem _ hx)
theorem okMat_rows {rows : List (List Int)} (h : ∀ r ∈ rows, r.length = 49) : ∀ d ∈ rows.map rwD, okMat d = true := fun d hd => by
  obtain ⟨r, hr, rfl⟩ := List.mem_map.mp hd
  exact (row_mat (h r hr)).1
structure RowsB (b m : Nat) (rows : List (List Int)) : Prop where
  len : ∀ r ∈ rows, r.length = 49
  bd : ∀ r ∈ rows, LA.Bd b r
  many : rows.length ≤ m
theorem sinit_ok {b m n : Nat} {rows : List (List Int)} {S : Sto} (hb : b ≤ 1000) (hm : m ≤ 10) (h : RowsB b m rows) (hn : S[n]? = some (.ins "Space" [])) : m_Space_init [.cel n, .dat (rsD rows)] S = .ok (.dat .non) (S.set n (.ins "Space" [("basis", .dat (rsD (LA.spaceL rows)))])) := by
  rw [E_Space_init]
  unfold b_Space_init
  have l1 := ismat_loop (a0 := some (.cel n)) (a1 := some (.dat (rsD rows))) (a4 := none) (S := S) (rows.map rwD) 0 none (okMat_rows h.len)
  rw [badAt_rows rows 0 h.len] at l1
  obtain ⟨a3, l1⟩ := l1
  obtain ⟨a3', l2⟩ := space_loop (a0 := some (.cel n)) (a1 := some (.dat (rsD rows))) (a2 := none) (S := S) hb hm rows [] [] a3 .nil (fun _ => Iff.rfl) (fun r hr => ⟨h.len r (by simpa using hr), h.bd r (by simpa using hr)⟩) (Nat.le_refl _) (by simpa using h.many)
  have l2' : loop (.nm 3) w_Space_init_2 (rows.map rwD) [some (.cel n), some (.dat (rsD rows)), none, a3, some (.dat (.lst []))] S = .next [some (.cel n), some (.dat (rsD rows)), none, a3', some (.dat (rsD (LA.spaceL rows)))] S := l2
  simp (config := { implicitDefEqProofs := false }) only [l1, l2', g_kSetF2 hn (by simp), EV0, EV1, EV2, List.set_cons_zero, List.set_cons_succ, Bool.not_true, Bool.not_false, eq_self, if_true, if_false, Bool.true_or, Bool.false_or, Bool.or_true, Bool.or_false, Bool.and_true, Bool.true_and, Bool.and_false, Bool.false_and, List.set_set, List.length_cons, List.length_nil, beq_self_eq_true, Bool.false_eq_true, lk, isTy, fIsi, fIsi2, kindOf, wipeE, decide_true, decide_false, Int.reduceEq, Int.reduceLT, Int.reduceLE, Int.reduceSub, Int.reduceAdd, Int.reduceNeg, Int.reduceToNat, Int.reduceNe, Nat.reduceAdd, Nat.reduceLT, Nat.reduceLeDiff, String.reduceEq, String.reduceBEq]
  rfl
/-- Space(rows) -/
theorem smake_ok {b m : Nat} {rows : List (List Int)} {S : Sto} (ls : LS S) (hb : b ≤ 1000) (hm : m ≤ 10) (h : RowsB b m rows) : kMake false "Space" m_Space_init [.dat (rsD rows)] S = .ok (.dat (spcD (LA.spaceL rows))) S := by
  have ls' := ls.take (n := S.length) (m := S.length)
  rw [List.take_length] at ls'
  unfold kMake
  rw [sinit_ok hb hm h (by simp)]
  dsimp only [made]
  rw [List.set_append_right _ _ (Nat.le_refl _), Nat.sub_self]
  simp [allDF, spcD, ls']
theorem slen_ok {B : List (List Int)} {S : Sto} (hl : B.length ≤ 1000) : fLenO "Space" m_Space_len (.dat (spcD B)) S = .ok (.dat (.int (B.length : Int))) S := by
  have e : m_Space_len [.dat (spcD B)] S = .ok (.dat (.int (B.length : Int))) S := by
    rw [E_Space_len]
    unfold b_Space_len spcD
    simp (config := { implicitDefEqProofs := false }) only [List.zip_cons_cons, List.lookup_cons, EV0, EV1, EV2, List.set_cons_zero, List.set_cons_succ, Bool.not_true, Bool.not_false, eq_self, if_true, if_false, Bool.true_or, Bool.false_or, Bool.or_true, Bool.or_false, Bool.and_true, Bool.true_and, Bool.and_false, Bool.false_and, List.set_set, List.length_cons, List.length_nil, beq_self_eq_true, Bool.false_eq_true, lk, isTy, fIsi, fIsi2, kindOf, wipeE, decide_true, decide_false, Int.reduceEq, Int.reduceLT, Int.reduceLE, Int.reduceSub, Int.reduceAdd, Int.reduceNeg, Int.reduceToNat, Int.reduceNe, Nat.reduceAdd, Nat.reduceLT, Nat.reduceLeDiff, String.reduceEq, String.reduceBEq]
    simp [rsD]
    rfl
  rw [fLenO, if_pos (by simp [isIns, spcD, str_eq]), e, lenR, if_pos (by omega)]
end PH

namespace LA
def smallL (r : List Int) : List Int := if gcdN r < 2 then r else r.map fun x => Int.fdiv x (gcdN r)
def restS (row base : List Int) : List Int := if fn row (pivotL base) = 0 then row else combL (fn base (pivotL base)) row (fn row (pivotL base)) base
def restL (B : List (List Int)) (row : List Int) : List Int := B.foldl restS row
def grownL (B : List (List Int)) (row : List Int) : List (List Int) := if pivotL (smallL (restL B row)) = 49 then B else B ++ [smallL (restL B row)]
def spanL (rows : List (List Int)) : List (List Int) := rows.foldl grownL []
theorem small_len {r : List Int} : (smallL r).length = r.length := by unfold smallL; split <;> simp
theorem small_fn (r : List Int) : ∃ g : Int, g ≠ 0 ∧ ∀ x, g * fn (smallL r) x = fn r x := by
  unfold smallL
  by_cases h : gcdN r < 2
  · rw [if_pos h]
    exact ⟨1, by omega, fun x => by omega⟩
  · rw [if_neg h]
    refine ⟨gcdN r, by omega, fun x => ?_⟩
    rw [map_fn (f := fun x => Int.fdiv x (gcdN r)) (Int.zero_fdiv _), Int.fdiv_eq_ediv_of_dvd (gcd_dvd x)]
    exact Int.mul_ediv_cancel' (gcd_dvd x)
theorem small_bd {b : Nat} {r : List Int} (h : Bd b r) : Bd b (smallL r) := by
  obtain ⟨g, hg, e⟩ := small_fn r
  intro x hx
  obtain ⟨i, hi, rfl⟩ := List.getElem_of_mem hx
  have k := fn_bd h i
  rw [← e, fn_at hi, Int.natAbs_mul] at k
  have : 1 ≤ g.natAbs := by omega
  have := Nat.mul_le_mul_right ((smallL r)[i]).natAbs this
  omega
theorem small_sp {r : List Int} {G : Vc → Prop} : Sp G (fn (smallL r)) ↔ Sp G (fn r) := by
  obtain ⟨g, hg, e⟩ := small_fn r
  rw [← show (fun x => g * fn (smallL r) x) = fn r from funext e]
  exact ⟨fun s => s.smul g, fun s => .div g hg s⟩
theorem comb_len {s f : Int} {row base : List Int} (h : row.length = base.length) : (combL s row f base).length = row.length := by
  unfold combL
  rw [List.length_zipWith]
  omega
/-- triangular: each row is 0 at the first places of the rows ahead of it -/
structure Tri (B : List (List Int)) : Prop where
  len : ∀ b ∈ B, b.length = 49
  piv : ∀ b ∈ B, pivotL b < 49
  low : B.Pairwise fun a b => fn b (pivotL a) = 0
theorem Tri.nil : Tri [] := ⟨fun _ h => (nomatch h), fun _ h => (nomatch h), .nil⟩
section
variable {B : List (List Int)} {row b : List Int}
theorem restS_len (h : row.length = 49) (hb : b.length = 49) : (restS row b).length = 49 := by
  unfold restS
  split
  · exact h
  · rw [comb_len (by omega)]; exact h
theorem restL_len : ∀ (B : List (List Int)) (row : List Int), row.length = 49 → (∀ b ∈ B, b.length = 49) → (restL B row).length = 49
  | [], row, h, _ => h
  | b :: B, row, h, hB => restL_len B (restS row b) (restS_len h (hB b (List.mem_cons_self ..))) fun c hc => hB c (List.mem_cons_of_mem _ hc)
theorem restS_fn (h : row.length = 49) (hb : b.length = 49) : ∃ s : Int, (pivotL b < 49 → s ≠ 0) ∧ ∃ f : Int, ∀ x, fn (restS row b) x = s * fn row x - f * fn b x := by
  unfold restS
  split
  · exact ⟨1, fun _ => by omega, 0, fun x => by omega⟩
  · exact ⟨_, fun hp => piv_at (by omega), _, fun x => comb_fn (by omega) x⟩
theorem restS_zero (h : row.length = 49) (hb : b.length = 49) : fn (restS row b) (pivotL b) = 0 := by
  unfold restS
  split
  · assumption
  · rw [comb_fn (by omega), Int.mul_comm]
    omega
/-- a place where the row and all bases are 0 stays 0 -/
theorem rest_keep {p : Nat} : ∀ (B : List (List Int)) (row : List Int), row.length = 49 → (∀ b ∈ B, b.length = 49) → (∀ b ∈ B, fn b p = 0) → fn row p = 0 → fn (restL B row) p = 0
  | [], row, _, _, _, h => h
  | b :: B, row, hr, hl, hz, h => by
    obtain ⟨s, _, f, e⟩ := restS_fn hr (hl b (List.mem_cons_self ..))
    refine rest_keep B (restS row b) (restS_len hr (hl b (List.mem_cons_self ..))) (fun c hc => hl c (List.mem_cons_of_mem _ hc)) (fun c hc => hz c (List.mem_cons_of_mem _ hc)) ?_
    rw [e, h, hz b (List.mem_cons_self ..)]
    omega
theorem rest_zero : ∀ (B : List (List Int)) (row : List Int), row.length = 49 → Tri B → ∀ b ∈ B, fn (restL B row) (pivotL b) = 0
  | [], _, _, _, b, hb => by simp at hb
  | c :: B, row, hr, hT, b, hb => by
    have hp := List.pairwise_cons.mp hT.low
    have lc := hT.len c (List.mem_cons_self ..)
    have hT' : Tri B := ⟨fun c hc => hT.len c (List.mem_cons_of_mem _ hc), fun c hc => hT.piv c (List.mem_cons_of_mem _ hc), hp.2⟩
    rcases List.mem_cons.mp hb with rfl | hb
    · exact rest_keep B (restS row b) (restS_len hr lc) (fun c hc => hT.len c (List.mem_cons_of_mem _ hc)) (fun c hc => hp.1 c hc) (restS_zero hr lc)
    · exact rest_zero B (restS row c) (restS_len hr lc) hT' b hb
theorem rest_sp {G : Vc → Prop} : ∀ (B : List (List Int)) (row : List Int), row.length = 49 → (∀ b ∈ B, b.length = 49 ∧ pivotL b < 49) → (∀ b ∈ B, Sp G (fn b)) → (Sp G (fn (restL B row)) ↔ Sp G (fn row))
  | [], _, _, _, _ => Iff.rfl
  | b :: B, row, hr, hl, hG => by
    obtain ⟨l1, l2⟩ := hl b (List.mem_cons_self ..)
    obtain ⟨s, hs, f, e⟩ := restS_fn hr l1
    have ih := rest_sp (G := G) B (restS row b) (restS_len hr l1) (fun c hc => hl c (List.mem_cons_of_mem _ hc)) (fun c hc => hG c (List.mem_cons_of_mem _ hc))
    refine ih.trans ⟨fun k => ?_, fun k => ?_⟩
    · refine .div s (hs l2) ?_
      have := Sp.sub2 1 (-f) k (hG b (List.mem_cons_self ..))
      rwa [show (fun x => 1 * fn (restS row b) x - -f * fn b x) = fun x => s * fn row x from funext fun x => by rw [e]; rw [Int.neg_mul]; omega] at this
    · rw [show fn (restS row b) = fun x => s * fn row x - f * fn b x from funext e]
      exact Sp.sub2 s f k (hG b (List.mem_cons_self ..))
end
section
variable {B : List (List Int)} {row b : List Int} {v : Vc}
theorem Tri.at_ (h : Tri B) {i j : Nat} (hij : i < j) (hj : j < B.length) : fam B j (pivs B i) = 0 := by
  unfold fam pivs
  rw [getD_at hj, getD_at (by omega)]
  exact (List.pairwise_iff_getElem.mp h.low) i j (by omega) hj hij
theorem Tri.dia (h : Tri B) {i : Nat} (hi : i < B.length) : fam B i (pivs B i) ≠ 0 := by
  unfold fam pivs
  rw [getD_at hi]
  exact piv_at (by rw [h.len _ (List.getElem_mem hi)]; exact h.piv _ (List.getElem_mem hi))
theorem Tri.coef (h : Tri B) {c : Nat → Int} (e : ∀ i, i < B.length → (S B.length fun j => c j * fam B j (pivs B i)) = 0) : ∀ n i, i < n → i < B.length → c i = 0
  | 0, i, hi, _ => by omega
  | n + 1, i, hi, hk => by
    have ih := Tri.coef h e n
    have q := e i hk
    rw [S_one hk fun j hj hne => ?_] at q
    · exact (Int.mul_eq_zero.mp q).resolve_right (h.dia hk)
    · rcases Nat.lt_or_gt_of_ne hne with z | z
      · rw [ih j (by omega) hj, Int.zero_mul]
      · rw [h.at_ z hj, Int.mul_zero]
theorem Tri.indep (h : Tri B) : Indep B.length (fam B) := fun c e i hi => h.coef (fun j _ => e _) (i + 1) i (by omega) hi
theorem Tri.vanish (h : Tri B) (s : SpL B v) (z : ∀ b, b ∈ B → v (pivotL b) = 0) (x : Nat) : v x = 0 := by
  obtain ⟨d, c, hd, e⟩ := (sp_fam.mp s).comb
  have c0 : ∀ i, i < B.length → c i = 0 := fun i hi => h.coef (fun j hj => by
    rw [← e]
    have : v (pivs B j) = 0 := by
      unfold pivs
      rw [getD_at hj]
      exact z _ (List.getElem_mem hj)
    rw [this, Int.mul_zero]) (i + 1) i (by omega) hi
  have q := e x
  rw [S_zero fun i hi => by rw [c0 i hi, Int.zero_mul]] at q
  exact (Int.mul_eq_zero.mp q).resolve_left hd
theorem within_iff (h : Tri B) (hr : row.length = 49) : pivotL (restL B row) = 49 ↔ SpL B (fn row) := by
  have hG : ∀ b ∈ B, SpL B (fn b) := fun b hb => .gen ⟨b, hb, rfl⟩
  have hl : ∀ b ∈ B, b.length = 49 ∧ pivotL b < 49 := fun b hb => ⟨h.len b hb, h.piv b hb⟩
  have e := restL_len B row hr h.len
  have k := rest_sp (G := Mem B) B row hr hl hG
  constructor
  · intro z
    refine k.mp ?_
    rw [show fn (restL B row) = fun _ => 0 from funext fun x => piv_all (by rw [z, e]) x]
    exact .zero
  · intro s
    rw [← e]
    exact piv_zero fun x => h.vanish (k.mpr s) (fun b hb => rest_zero B row hr h b hb) x
theorem small_piv {r : List Int} : pivotL (smallL r) = pivotL r := by
  obtain ⟨g, hg, e⟩ := small_fn r
  rcases Nat.lt_or_ge (pivotL r) r.length with y | y
  · refine piv_of ⟨fun z => piv_at y (by rw [← e, z, Int.mul_zero]), fun x hx => ?_⟩
    have q := e x
    rw [piv_low hx] at q
    exact (Int.mul_eq_zero.mp q).resolve_left hg
  · have y' : pivotL r = r.length := by have := piv_le r; omega
    rw [y', ← small_len]
    refine piv_zero fun x => ?_
    have q := e x
    rw [piv_all y'] at q
    exact (Int.mul_eq_zero.mp q).resolve_left hg
theorem grown_ok (h : Tri B) (hr : row.length = 49) : Tri (grownL B row) ∧ (∀ v, SpL (grownL B row) v ↔ SpL (row :: B) v) ∧ (grownL B row).length ≤ B.length + 1 := by
  have hl : ∀ b ∈ B, b.length = 49 ∧ pivotL b < 49 := fun b hb => ⟨h.len b hb, h.piv b hb⟩
  have e := restL_len B row hr h.len
  unfold grownL
  rw [small_piv]
  by_cases z : pivotL (restL B row) = 49
  · rw [if_pos z]
    refine ⟨h, fun v => ⟨fun s => s.mono fun w ⟨c, hc, q⟩ => .gen ⟨c, List.mem_cons_of_mem _ hc, q⟩, fun s => s.mono fun w ⟨c, hc, q⟩ => ?_⟩, by omega⟩
    rcases List.mem_cons.mp hc with rfl | hc
    · rw [q]; exact (within_iff h hr).mp z
    · exact .gen ⟨c, hc, q⟩
  · rw [if_neg z]
    have zl : pivotL (restL B row) < 49 := by have := piv_le (restL B row); omega
    refine ⟨⟨fun c hc => ?_, fun c hc => ?_, ?_⟩, fun v => ⟨fun s => s.mono fun w ⟨c, hc, q⟩ => ?_, fun s => s.mono fun w ⟨c, hc, q⟩ => ?_⟩, by simp⟩
    · rcases List.mem_append.mp hc with hc | hc
      · exact h.len c hc
      · obtain rfl := List.mem_singleton.mp hc
        rw [small_len]; exact e
    · rcases List.mem_append.mp hc with hc | hc
      · exact h.piv c hc
      · obtain rfl := List.mem_singleton.mp hc
        rw [small_piv]; exact zl
    · refine List.pairwise_append.mpr ⟨h.low, List.pairwise_singleton .., fun a ha c hc => ?_⟩
      obtain rfl := List.mem_singleton.mp hc
      obtain ⟨g, hg, k⟩ := small_fn (restL B row)
      have q := k (pivotL a)
      rw [rest_zero B row hr h a ha] at q
      exact (Int.mul_eq_zero.mp q).resolve_left hg
    · have hG : ∀ b ∈ B, SpL (row :: B) (fn b) := fun b hb => .gen ⟨b, List.mem_cons_of_mem _ hb, rfl⟩
      rcases List.mem_append.mp hc with hc | hc
      · rw [q]; exact hG c hc
      · obtain rfl := List.mem_singleton.mp hc
        rw [q]
        exact small_sp.mpr ((rest_sp B row hr hl hG).mpr (.gen ⟨row, List.mem_cons_self .., rfl⟩))
    · have hG : ∀ b ∈ B, SpL (B ++ [smallL (restL B row)]) (fn b) := fun b hb => .gen ⟨b, List.mem_append_left _ hb, rfl⟩
      rcases List.mem_cons.mp hc with rfl | hc
      · rw [q]
        exact (rest_sp B c hr hl hG).mp (small_sp.mp (.gen ⟨_, List.mem_append_right _ (List.mem_singleton.mpr rfl), rfl⟩))
      · rw [q]; exact hG c hc
theorem span_fold : ∀ (rows B : List (List Int)), Tri B → (∀ r ∈ rows, r.length = 49) → Tri (rows.foldl grownL B) ∧ ∀ v, SpL (rows.foldl grownL B) v ↔ SpL (B ++ rows) v
  | [], B, h, _ => ⟨h, fun v => by rw [List.append_nil]; exact Iff.rfl⟩
  | r :: rows, B, h, hr => by
    obtain ⟨h1, h2, _⟩ := grown_ok h (hr r (List.mem_cons_self ..))
    obtain ⟨k1, k2⟩ := span_fold rows (grownL B r) h1 fun x hx => hr x (List.mem_cons_of_mem _ hx)
    refine ⟨k1, fun v => (k2 v).trans ⟨fun s => s.mono fun w ⟨c, hc, q⟩ => ?_, fun s => s.mono fun w ⟨c, hc, q⟩ => ?_⟩⟩
    · rcases List.mem_append.mp hc with hc | hc
      · rw [q]
        refine ((h2 _).mp (.gen ⟨c, hc, rfl⟩)).mono fun w ⟨d, hd, q⟩ => ?_
        rcases List.mem_cons.mp hd with rfl | hd
        · exact .gen ⟨d, by simp, q⟩
        · exact .gen ⟨d, by simp [hd], q⟩
      · exact .gen ⟨c, by simp [hc], q⟩
    · have hB : ∀ d, d ∈ r :: B → SpL (grownL B r ++ rows) (fn d) := fun d hd => ((h2 _).mpr (.gen ⟨d, hd, rfl⟩)).mono fun w ⟨c, hc, q⟩ => .gen ⟨c, by simp [hc], q⟩
      rw [q]
      rcases List.mem_append.mp hc with hc | hc
      · exact hB c (by simp [hc])
      · rcases List.mem_cons.mp hc with rfl | hc
        · exact hB c (by simp)
        · exact .gen ⟨c, by simp [hc], rfl⟩
theorem span_ok {rows : List (List Int)} (h : ∀ r ∈ rows, r.length = 49) : Tri (spanL rows) ∧ ∀ v, SpL (spanL rows) v ↔ SpL rows v := span_fold rows [] .nil h
/-- two independent lists with one span are equally long -/
theorem same_len {C : List (List Int)} (h : Indep B.length (fam B)) (k : Indep C.length (fam C)) (s : ∀ v, SpL B v ↔ SpL C v) : B.length = C.length := by
  refine Nat.le_antisymm (steinitz (b := fam C) h fun i hi => ?_) (steinitz (b := fam B) k fun i hi => ?_)
  · exact sp_fam.mp ((s _).mp (sp_fam.mpr (.gen ⟨i, hi, rfl⟩)))
  · exact sp_fam.mp ((s _).mpr (sp_fam.mpr (.gen ⟨i, hi, rfl⟩)))
theorem span_len {rows : List (List Int)} (h : ∀ r ∈ rows, r.length = 49) : (spanL rows).length = (spaceL rows).length := by
  obtain ⟨h1, h2⟩ := span_ok h
  obtain ⟨k1, k2⟩ := space_ok h
  exact same_len h1.indep k1.cn.indep fun v => (h2 v).trans (k2 v).symm
end
/-- the j-th row is below 2 ^ (2 ^ (i + j) * (R + 1) - 1) -/
def Gr (R : Nat) : Nat → List (List Int) → Prop
  | _, [] => True
  | i, b :: B => Bd (2 ^ i * (R + 1) - 1) b ∧ Gr R (i + 1) B
theorem Gr.snoc {R : Nat} {b : List Int} : ∀ {B : List (List Int)} {i : Nat}, Gr R i B → Bd (2 ^ (i + B.length) * (R + 1) - 1) b → Gr R i (B ++ [b])
  | [], i, _, h => ⟨h, trivial⟩
  | c :: B, i, ⟨h1, h2⟩, h => ⟨h1, Gr.snoc h2 (by rw [List.length_cons] at h; rwa [show i + 1 + B.length = i + (B.length + 1) by omega])⟩
theorem two_mul_pow (i R : Nat) : (2 ^ i * (R + 1) - 1) + (2 ^ i * (R + 1) - 1) + 1 = 2 ^ (i + 1) * (R + 1) - 1 := by
  have h1 : 0 < 2 ^ i * (R + 1) := Nat.mul_pos (two_pos i) (by omega)
  have h2 : 2 ^ (i + 1) * (R + 1) = 2 * (2 ^ i * (R + 1)) := by rw [Nat.pow_succ]; ac_rfl
  omega
theorem restS_bd {a c : Nat} {row b : List Int} (hr : Bd a row) (hb : Bd c b) : Bd (a + c + 1) (restS row b) := by
  unfold restS
  split
  · exact hr.mono (by omega)
  · exact bd_zip (p := fun x => x.natAbs < 2 ^ a) (q := fun y => y.natAbs < 2 ^ c) (fun x y hx hy => lt_mono (sub_lt (mul_lt (fn_bd hb _) hx) (mul_lt (fn_bd hr _) hy)) (by omega)) hr hb
theorem rest_bd {R : Nat} : ∀ (B : List (List Int)) (i : Nat) (row : List Int), Gr R i B → Bd (2 ^ i * (R + 1) - 1) row → Bd (2 ^ (i + B.length) * (R + 1) - 1) (restL B row)
  | [], i, row, _, h => h
  | b :: B, i, row, ⟨h1, h2⟩, h => by
    have := rest_bd B (i + 1) (restS row b) h2 (by rw [← two_mul_pow]; exact restS_bd h h1)
    rw [List.length_cons]
    rwa [show i + (B.length + 1) = i + 1 + B.length by omega]
end LA
namespace LA
theorem gr_sum {i R N : Nat} (h : 2 ^ (i + 1) * (R + 1) ≤ N) : (2 ^ i * (R + 1) - 1) + (2 ^ i * (R + 1) - 1) ≤ N := by
  have e := two_mul_pow i R
  generalize 2 ^ i * (R + 1) - 1 = a at *
  generalize 2 ^ (i + 1) * (R + 1) = c at *
  omega
theorem gr_le {i n R N : Nat} (h : 2 ^ (i + n) * (R + 1) ≤ N) : 2 ^ i * (R + 1) ≤ N := Nat.le_trans (Nat.mul_le_mul_right _ (Nat.pow_le_pow_right (by omega) (by omega))) h
end LA
namespace LA
theorem CnL.small {n : Nat} {B : List (List Int)} {b : List Int} (h : CnL n B) (hb : b ∈ B) : smallL b = b := if_pos (by rw [h.prim b hb]; omega)
end LA

namespace PH
open PySem PySem.Spec PyProof PyProof.Rows L2
/-- the places that are not 0, from n on -/
def nzAt : Nat → List Int → List Int
  | _, [] => []
  | n, x :: r => if x = 0 then nzAt (n + 1) r else (n : Int) :: nzAt (n + 1) r
theorem nz_ge : ∀ (r : List Int) (n : Nat), ∀ a ∈ nzAt n r, (n : Int) ≤ a
  | [], n, a, h => by simp [nzAt] at h
  | x :: r, n, a, h => by
    unfold nzAt at h
    split at h
    · have := nz_ge r (n + 1) a h; omega
    · rcases List.mem_cons.mp h with rfl | h
      · omega
      · have := nz_ge r (n + 1) a h; omega
theorem min_hd {n : Int} {l : List Int} (h : ∀ a ∈ l, n ≤ a) : minOf n l = n := by
  have h1 := minOf_le l n
  rcases List.mem_cons.mp (minOf_mem l n) with e | e
  · exact e
  · have := h _ e; omega
theorem nz_first : ∀ (r : List Int) (n : Nat), ∃ x l, nzAt n r ++ [((n + r.length : Nat) : Int)] = x :: l ∧ minOf x l = ((n + LA.pivotL r : Nat) : Int)
  | [], n => ⟨((n : Nat) : Int), [], rfl, rfl⟩
  | y :: r, n => by
    have ep : LA.pivotL (y :: r) = if y = 0 then LA.pivotL r + 1 else 0 := rfl
    by_cases h : y = 0
    · obtain ⟨x, l, e1, e2⟩ := nz_first r (n + 1)
      refine ⟨x, l, ?_, ?_⟩
      · rw [nzAt, if_pos h, ← e1, List.length_cons, show n + 1 + r.length = n + (r.length + 1) by omega]
      · rw [e2, ep, if_pos h, show n + 1 + LA.pivotL r = n + (LA.pivotL r + 1) by omega]
    · refine ⟨(n : Int), nzAt (n + 1) r ++ [((n + (y :: r).length : Nat) : Int)], ?_, ?_⟩
      · rw [nzAt, if_neg h]; rfl
      · rw [ep, if_neg h, min_hd fun a ha => ?_]
        · rfl
        · rcases List.mem_append.mp ha with ha | ha
          · have := nz_ge r (n + 1) a ha; omega
          · obtain rfl := List.mem_singleton.mp ha
            omega
theorem first_go {row : List Int} {S : Sto} {a1 : Option Vl} : ∀ (r : List Int) (n : Nat), (∀ i, i < r.length → LA.fn row (n + i) = LA.fn r i) → n + r.length = row.length →
    lcGo (.nm 1) (mB (mOp fNe (mOp fIx (mVar 0) (mVar 1)) (mC (.int 0)))) (mVar 1) [some (.dat (rwD row)), a1] (rngD (n : Int) r.length) S = .ok ((nzAt n r).map PH.D.int) S
  | [], n, _, _ => rfl
  | x :: r, n, h, hl => by
    rw [List.length_cons] at hl
    have hx : LA.fn row n = x := h 0 (by simp)
    have ih := first_go (row := row) (S := S) (a1 := a1) r (n + 1) (fun i hi => by rw [show n + 1 + i = n + (i + 1) by omega]; exact h (i + 1) (by simp; omega)) (by omega)
    rw [List.length_cons, rng_cons, lcGo]
    simp only [tgF, List.set_cons_succ, List.set_cons_zero]
    have et : mB (mOp fNe (mOp fIx (mVar 0) (mVar 1)) (mC (.int 0))) [some (.dat (rwD row)), some (.dat (.int (n : Int)))] S = .ok (!decide (x = 0)) S := by
      simp (config := { implicitDefEqProofs := false }) only [ix_row (r := row) (i := n) (by omega), hx, EV0, EV1, EV2, List.set_cons_zero, List.set_cons_succ, Bool.not_true, Bool.not_false, eq_self, if_true, if_false, Bool.true_or, Bool.false_or, Bool.or_true, Bool.or_false, Bool.and_true, Bool.true_and, Bool.and_false, Bool.false_and, List.set_set, List.length_cons, List.length_nil, beq_self_eq_true, Bool.false_eq_true, lk, isTy, fIsi, fIsi2, kindOf, wipeE, decide_true, decide_false, Int.reduceEq, Int.reduceLT, Int.reduceLE, Int.reduceSub, Int.reduceAdd, Int.reduceNeg, Int.reduceToNat, Int.reduceNe, Nat.reduceAdd, Nat.reduceLT, Nat.reduceLeDiff, String.reduceEq, String.reduceBEq]
    rw [et]
    try dsimp only
    rw [show ((n : Int) + 1) = ((n + 1 : Nat) : Int) by omega]
    by_cases h0 : x = 0
    · rw [if_neg (by simp [h0]), nzAt, if_pos h0]
      exact ih
    · rw [if_pos (by simp [h0]), nzAt, if_neg h0, show mVar 1 [some (.dat (rwD row)), some (.dat (.int (n : Int)))] S = .ok (.dat (.int (n : Int))) S from rfl]
      dsimp only
      rw [ih] <;> rfl
theorem allInt_map : ∀ l : List Int, allInt (l.map PH.D.int) = some l
  | [] => rfl
  | x :: l => by
    rw [List.map_cons, allInt, allInt_map l] <;> rfl
theorem lc_len {t : Tg} {mt : FT} {me : FE} {ρ : Ev} {ds es : List PH.D} {S S' : Sto} (h : lcGo t mt me ρ ds S = .ok es S') : es.length ≤ ds.length := lcGo_len h
theorem first_ok {row : List Int} {S : Sto} (hr : row.length ≤ 900) : m_L_first [.dat (rwD row)] S = .ok (.dat (.int ((LA.pivotL row : Nat) : Int))) S := by
  have g := first_go (row := row) (S := S) (a1 := none) row 0 (fun i _ => by rw [Nat.zero_add]) (by omega)
  have gl := lc_len g
  rw [List.length_map] at gl
  have gl2 : (rngD ((0 : Nat) : Int) row.length).length = row.length := by simp [rngD]
  rw [gl2] at gl
  have el : kLc false (.nm 1) (mB (mOp fNe (mOp fIx (mVar 0) (mVar 1)) (mC (.int 0)))) (mVar 1) [some (.dat (rwD row)), none] [1] (rngD 0 row.length) S = .ok (.dat (.lst ((nzAt 0 row).map PH.D.int))) S := by
    unfold kLc
    rw [if_pos (by rw [show rngD 0 row.length = rngD ((0 : Nat) : Int) row.length from rfl, gl2]; exact sz (by omega))]
    rw [show wipeE [some (.dat (rwD row)), none] [1] = [some (.dat (rwD row)), none] from rfl, show rngD 0 row.length = rngD ((0 : Nat) : Int) row.length from rfl, g]
    rfl
  have er : kRng1 (.dat (.int ((row.length : Nat) : Int))) S = .ok (rngD 0 row.length) S := by
    rw [g_kRng1 (by omega) (by omega)]
    simp
  obtain ⟨x, l, e1, e2⟩ := nz_first row 0
  rw [Nat.zero_add] at e1 e2
  have ea : fAdd false (.dat (.lst ((nzAt 0 row).map PH.D.int))) (.dat (.lst [.int ((row.length : Nat) : Int)])) S = .ok (.dat (.lst ((x :: l).map PH.D.int))) S := by
    rw [g_addL (by rw [List.length_map]; exact sz (by simp; omega)), ← e1, List.map_append]
    rfl
  have em : fMinL (.dat (.lst ((x :: l).map PH.D.int))) S = .ok (.dat (.int ((LA.pivotL row : Nat) : Int))) S := by
    unfold fMinL
    rw [show seqL S (.dat (.lst ((x :: l).map PH.D.int))) = some ((x :: l).map PH.D.int) from rfl]
    dsimp only
    rw [allInt_map]
    dsimp only
    rw [e2]
  rw [E_L_first]
  unfold b_L_first
  simp (config := { implicitDefEqProofs := false }) only [List.length_map, er, el, ea, em, EV0, EV1, EV2, List.set_cons_zero, List.set_cons_succ, Bool.not_true, Bool.not_false, eq_self, if_true, if_false, Bool.true_or, Bool.false_or, Bool.or_true, Bool.or_false, Bool.and_true, Bool.true_and, Bool.and_false, Bool.false_and, List.set_set, List.length_cons, List.length_nil, beq_self_eq_true, Bool.false_eq_true, lk, isTy, fIsi, fIsi2, kindOf, wipeE, decide_true, decide_false, Int.reduceEq, Int.reduceLT, Int.reduceLE, Int.reduceSub, Int.reduceAdd, Int.reduceNeg, Int.reduceToNat, Int.reduceNe, Nat.reduceAdd, Nat.reduceLT, Nat.reduceLeDiff, String.reduceEq, String.reduceBEq]
  rfl
theorem small_while {a a2 : Option Vl} {S : Sto} {g : Nat} (b k : Nat) (d n : Int) (hn : n.natAbs < 2 ^ b) (hk : 2 * b + 1 ≤ k) (hd : 0 ≤ d) (hn0 : 0 ≤ n) (hg : Nat.gcd d.natAbs n.natAbs = g) :
    wloop (mB (mOp fNe (mVar 3) (mC (.int 0)))) w_L_small_1 k [a, some (.dat (.int d)), a2, some (.dat (.int n)), none] S = .next [a, some (.dat (.int (g : Int))), a2, some (.dat (.int 0)), none] S := by
  refine LA.euclid (P := fun k d n => 0 ≤ d → 0 ≤ n → Nat.gcd d.natAbs n.natAbs = g → wloop (mB (mOp fNe (mVar 3) (mC (.int 0)))) w_L_small_1 k [a, some (.dat (.int d)), a2, some (.dat (.int n)), none] S = .next [a, some (.dat (.int (g : Int))), a2, some (.dat (.int 0)), none] S) (fun k d hd _ h => ?_) (fun k d n hz ih hd hn h => ?_) b k d n hn hk hd hn0 hg
  · have e : (g : Int) = d := by rw [← h]; simp; omega
    rw [e]
    exact wl_end (by simp (config := { implicitDefEqProofs := false }) only [EV0, EV1, EV2, List.set_cons_zero, List.set_cons_succ, Bool.not_true, Bool.not_false, eq_self, if_true, if_false, Bool.true_or, Bool.false_or, Bool.or_true, Bool.or_false, Bool.and_true, Bool.true_and, Bool.and_false, Bool.false_and, List.set_set, List.length_cons, List.length_nil, beq_self_eq_true, Bool.false_eq_true, lk, isTy, fIsi, fIsi2, kindOf, wipeE, decide_true, decide_false, Int.reduceEq, Int.reduceLT, Int.reduceLE, Int.reduceSub, Int.reduceAdd, Int.reduceNeg, Int.reduceToNat, Int.reduceNe, Nat.reduceAdd, Nat.reduceLT, Nat.reduceLeDiff, String.reduceEq, String.reduceBEq])
  · have hp : 0 < n := by omega
    have h1 : 0 ≤ d.fmod n := by rw [LA.fmod_pos hp]; exact Int.emod_nonneg d hz
    rw [wl_next (ρ' := [a, some (.dat (.int n)), a2, some (.dat (.int (d.fmod n))), none]) (S' := S) (by simp (config := { implicitDefEqProofs := false }) only [decide_eq_false hz, EV0, EV1, EV2, List.set_cons_zero, List.set_cons_succ, Bool.not_true, Bool.not_false, eq_self, if_true, if_false, Bool.true_or, Bool.false_or, Bool.or_true, Bool.or_false, Bool.and_true, Bool.true_and, Bool.and_false, Bool.false_and, List.set_set, List.length_cons, List.length_nil, beq_self_eq_true, Bool.false_eq_true, lk, isTy, fIsi, fIsi2, kindOf, wipeE, decide_true, decide_false, Int.reduceEq, Int.reduceLT, Int.reduceLE, Int.reduceSub, Int.reduceAdd, Int.reduceNeg, Int.reduceToNat, Int.reduceNe, Nat.reduceAdd, Nat.reduceLT, Nat.reduceLeDiff, String.reduceEq, String.reduceBEq]) ?_]
    · exact ih hn h1 (by rw [LA.gcd_step]; exact h)
    · have e : fModN (.dat (.int d)) (.dat (.int n)) S = .ok (.dat (.int (d.fmod n))) S := if_pos hz
      rw [w_L_small_1]
      simp (config := { implicitDefEqProofs := false }) only [e, EV0, EV1, EV2, List.set_cons_zero, List.set_cons_succ, Bool.not_true, Bool.not_false, eq_self, if_true, if_false, Bool.true_or, Bool.false_or, Bool.or_true, Bool.or_false, Bool.and_true, Bool.true_and, Bool.and_false, Bool.false_and, List.set_set, List.length_cons, List.length_nil, beq_self_eq_true, Bool.false_eq_true, lk, isTy, fIsi, fIsi2, kindOf, wipeE, decide_true, decide_false, Int.reduceEq, Int.reduceLT, Int.reduceLE, Int.reduceSub, Int.reduceAdd, Int.reduceNeg, Int.reduceToNat, Int.reduceNe, Nat.reduceAdd, Nat.reduceLT, Nat.reduceLeDiff, String.reduceEq, String.reduceBEq]
theorem small_loop {a : Option Vl} {S : Sto} {b : Nat} (hb : 2 * b + 1 ≤ 1000000) : ∀ (r : List Int) (g : Nat), (∀ x ∈ r, x.natAbs < 2 ^ b) →
    loop (.nm 2) w_L_small_2 (r.map PH.D.int) [a, some (.dat (.int (g : Int))), none, none, none] S = .next [a, some (.dat (.int ((r.foldl (fun g x => Nat.gcd g x.natAbs) g : Nat) : Int))), none, none, none] S
  | [], g, _ => rfl
  | x :: r, g, h => by
    have ih := small_loop (a := a) (S := S) hb r (Nat.gcd g x.natAbs) fun y hy => h y (List.mem_cons_of_mem _ hy)
    have hx := h x (List.mem_cons_self ..)
    have e2 : fAbs (.dat (.int x)) S = .ok (.dat (.int ((x.natAbs : Nat) : Int))) S := by
      show Res.ok (Vl.dat (.int (if x < 0 then -x else x))) S = _
      rw [show (if x < 0 then -x else x) = ((x.natAbs : Nat) : Int) by split <;> omega]
    have hw := small_while (a := a) (a2 := some (.dat (.int x))) (S := S) b 1000000 (g : Int) ((x.natAbs : Nat) : Int) (by simpa using hx) hb (by omega) (by omega) rfl
    rw [List.map_cons, loop]
    simp only [tgF, List.set_cons_succ, List.set_cons_zero]
    rw [w_L_small_2]
    simp (config := { implicitDefEqProofs := false }) only [e2, mWhile, hw, EV0, EV1, EV2, List.set_cons_zero, List.set_cons_succ, Bool.not_true, Bool.not_false, eq_self, if_true, if_false, Bool.true_or, Bool.false_or, Bool.or_true, Bool.or_false, Bool.and_true, Bool.true_and, Bool.and_false, Bool.false_and, List.set_set, List.length_cons, List.length_nil, beq_self_eq_true, Bool.false_eq_true, lk, isTy, fIsi, fIsi2, kindOf, wipeE, decide_true, decide_false, Int.reduceEq, Int.reduceLT, Int.reduceLE, Int.reduceSub, Int.reduceAdd, Int.reduceNeg, Int.reduceToNat, Int.reduceNe, Nat.reduceAdd, Nat.reduceLT, Nat.reduceLeDiff, String.reduceEq, String.reduceBEq]
    rw [← w_L_small_2]
    exact ih
theorem small_ok {r : List Int} {S : Sto} {b : Nat} (hb : 2 * b + 1 ≤ 1000000) (hl : r.length ≤ 900) (h : LA.Bd b r) : m_L_small [.dat (rwD r)] S = .ok (.dat (rwD (LA.smallL r))) S := by
  have l := small_loop (a := some (.dat (rwD r))) (S := S) hb r 0 h
  rw [E_L_small]
  unfold b_L_small
  have l' : loop (.nm 2) w_L_small_2 (r.map PH.D.int) [some (.dat (rwD r)), some (.dat (.int 0)), none, none, none] S = .next [some (.dat (rwD r)), some (.dat (.int ((LA.gcdN r : Nat) : Int))), none, none, none] S := l
  by_cases h2 : LA.gcdN r < 2
  · simp (config := { implicitDefEqProofs := false }) only [l', decide_eq_true (show ((LA.gcdN r : Nat) : Int) < 2 by omega), EV0, EV1, EV2, List.set_cons_zero, List.set_cons_succ, Bool.not_true, Bool.not_false, eq_self, if_true, if_false, Bool.true_or, Bool.false_or, Bool.or_true, Bool.or_false, Bool.and_true, Bool.true_and, Bool.and_false, Bool.false_and, List.set_set, List.length_cons, List.length_nil, beq_self_eq_true, Bool.false_eq_true, lk, isTy, fIsi, fIsi2, kindOf, wipeE, decide_true, decide_false, Int.reduceEq, Int.reduceLT, Int.reduceLE, Int.reduceSub, Int.reduceAdd, Int.reduceNeg, Int.reduceToNat, Int.reduceNe, Nat.reduceAdd, Nat.reduceLT, Nat.reduceLeDiff, String.reduceEq, String.reduceBEq]
    rw [show LA.smallL r = r from if_pos h2]
    rfl
  · have hz : ((LA.gcdN r : Nat) : Int) ≠ 0 := by omega
    have el : kLc false (.nm 2) mYes (mOp fFdivN (mVar 2) (mVar 1)) [some (.dat (rwD r)), some (.dat (.int ((LA.gcdN r : Nat) : Int))), none, none, none] [2] (r.map PH.D.int) S = .ok (.dat (rwD (LA.smallL r))) S := by
      rw [kLc_map (g := fun x => PH.D.int (x.fdiv (LA.gcdN r))) (sz (by omega)) fun x _ => ⟨_, rfl, by simp (config := { implicitDefEqProofs := false }) only [fdivN hz, EV0, EV1, EV2, List.set_cons_zero, List.set_cons_succ, Bool.not_true, Bool.not_false, eq_self, if_true, if_false, Bool.true_or, Bool.false_or, Bool.or_true, Bool.or_false, Bool.and_true, Bool.true_and, Bool.and_false, Bool.false_and, List.set_set, List.length_cons, List.length_nil, beq_self_eq_true, Bool.false_eq_true, lk, isTy, fIsi, fIsi2, kindOf, wipeE, decide_true, decide_false, Int.reduceEq, Int.reduceLT, Int.reduceLE, Int.reduceSub, Int.reduceAdd, Int.reduceNeg, Int.reduceToNat, Int.reduceNe, Nat.reduceAdd, Nat.reduceLT, Nat.reduceLeDiff, String.reduceEq, String.reduceBEq]⟩]
      rw [show LA.smallL r = r.map fun x => Int.fdiv x (LA.gcdN r) from if_neg h2]
      show Res.ok _ _ = Res.ok (Vl.dat (.lst ((r.map _).map _))) _
      rw [List.map_map]
      rfl
    simp (config := { implicitDefEqProofs := false }) only [l', decide_eq_false (show ¬ ((LA.gcdN r : Nat) : Int) < 2 by omega), el, EV0, EV1, EV2, List.set_cons_zero, List.set_cons_succ, Bool.not_true, Bool.not_false, eq_self, if_true, if_false, Bool.true_or, Bool.false_or, Bool.or_true, Bool.or_false, Bool.and_true, Bool.true_and, Bool.and_false, Bool.false_and, List.set_set, List.length_cons, List.length_nil, beq_self_eq_true, Bool.false_eq_true, lk, isTy, fIsi, fIsi2, kindOf, wipeE, decide_true, decide_false, Int.reduceEq, Int.reduceLT, Int.reduceLE, Int.reduceSub, Int.reduceAdd, Int.reduceNeg, Int.reduceToNat, Int.reduceNe, Nat.reduceAdd, Nat.reduceLT, Nat.reduceLeDiff, String.reduceEq, String.reduceBEq]
    rfl
theorem comb_go {f : Nat → Int} {me : FE} {ρ : Ev} {S : Sto} (h : ∀ i : Nat, i < 49 → ∃ ρ1, tgF (.nm 6) (.dat (.int (i : Int))) ρ = some ρ1 ∧ me ρ1 S = .ok (.dat (.int (f i))) S) : lcGo (.nm 6) mYes me ρ (rngD 0 49) S = .ok ((List.range 49).map fun i => PH.D.int (f i)) S := by
  have e : rngD 0 49 = (List.range 49).map fun i => PH.D.int ((i : Nat) : Int) := by
    unfold rngD
    exact List.map_congr_left fun i _ => by rw [Int.zero_add]
  rw [e]
  exact lcGo_map fun i hi => h i (by simpa using hi)
theorem rng49 {S : Sto} : kRng1 (.dat (.int 49)) S = .ok (rngD 0 49) S := by rw [g_kRng1 (by decide) (by decide)]; rfl
theorem map_range {r : List Int} (f : Nat → Int) (hl : r.length = 49) (h : ∀ i, i < 49 → LA.fn r i = f i) : ((List.range 49).map fun i => PH.D.int (f i)) = r.map PH.D.int := by
  apply List.ext_getElem
  · simp [hl]
  · intro i h1 h2
    have hi : i < 49 := by simpa using h1
    rw [List.getElem_map, List.getElem_map, List.getElem_range, ← h i hi, LA.fn_at (by omega)]
theorem rest_el {a0 a3 a6 : Option Vl} {a c : Nat} {b row : List Int} {S : Sto} (lb : b.length = 49) (hr : row.length = 49) (g1 : LA.Bd c b) (hbd : LA.Bd a row) (hac : a + c ≤ 900000) (hz : ¬ LA.fn row (LA.pivotL b) = 0) :
    kLc false (.nm 6) mYes e_L_rest_1 [a0, some (.dat (rwD row)), some (.dat (rwD b)), a3, some (.dat (.int (LA.fn b (LA.pivotL b)))), some (.dat (.int (LA.fn row (LA.pivotL b)))), a6] [6] (rngD 0 49) S = .ok (.dat (rwD (LA.restS row b))) S := by
  have e0 : (rngD 0 49).length ≤ sizeLine := by
    rw [show (rngD 0 49).length = 49 from rfl]
    exact sz (by omega)
  have eg := comb_go (f := fun i => LA.fn b (LA.pivotL b) * LA.fn row i - LA.fn row (LA.pivotL b) * LA.fn b i) (me := e_L_rest_1) (ρ := [a0, some (.dat (rwD row)), some (.dat (rwD b)), a3, some (.dat (.int (LA.fn b (LA.pivotL b)))), some (.dat (.int (LA.fn row (LA.pivotL b)))), none]) (S := S) fun k hk => ⟨_, rfl, by
    simp only [List.set_cons_succ, List.set_cons_zero]
    rw [e_L_rest_1]
    simp (config := { implicitDefEqProofs := false }) only [ix_row (r := row) (i := k) (by omega), ix_row (r := b) (i := k) (by omega), g_mulI (mulOk (LA.fn_bd g1 (LA.pivotL b)) (LA.fn_bd hbd k) (by omega)), g_mulI (mulOk (LA.fn_bd hbd (LA.pivotL b)) (LA.fn_bd g1 k) (by omega)), EV0, EV1, EV2, List.set_cons_zero, List.set_cons_succ, Bool.not_true, Bool.not_false, eq_self, if_true, if_false, Bool.true_or, Bool.false_or, Bool.or_true, Bool.or_false, Bool.and_true, Bool.true_and, Bool.and_false, Bool.false_and, List.set_set, List.length_cons, List.length_nil, beq_self_eq_true, Bool.false_eq_true, lk, isTy, fIsi, fIsi2, kindOf, wipeE, decide_true, decide_false, Int.reduceEq, Int.reduceLT, Int.reduceLE, Int.reduceSub, Int.reduceAdd, Int.reduceNeg, Int.reduceToNat, Int.reduceNe, Nat.reduceAdd, Nat.reduceLT, Nat.reduceLeDiff, String.reduceEq, String.reduceBEq]⟩
  unfold kLc
  rw [if_pos e0]
  rw [show wipeE [a0, some (.dat (rwD row)), some (.dat (rwD b)), a3, some (.dat (.int (LA.fn b (LA.pivotL b)))), some (.dat (.int (LA.fn row (LA.pivotL b)))), a6] [6] = [a0, some (.dat (rwD row)), some (.dat (rwD b)), a3, some (.dat (.int (LA.fn b (LA.pivotL b)))), some (.dat (.int (LA.fn row (LA.pivotL b)))), none] from rfl, eg]
  rw [map_range (fun i => LA.fn b (LA.pivotL b) * LA.fn row i - LA.fn row (LA.pivotL b) * LA.fn b i) (LA.restS_len hr lb) fun k _ => by
    unfold LA.restS
    rw [if_neg hz, LA.comb_fn (by omega)]]
  rfl
theorem rest_turn {a0 : Option Vl} {a c : Nat} {b row : List Int} {S : Sto} (lb : b.length = 49) (pb : LA.pivotL b < 49) (hr : row.length = 49) (g1 : LA.Bd c b) (hbd : LA.Bd a row) (hac : a + c ≤ 900000) :
    w_L_rest_2 [a0, some (.dat (rwD row)), some (.dat (rwD b)), none, none, none, none] S = .next [a0, some (.dat (rwD (LA.restS row b))), none, none, none, none, none] S := by
  have i1 := ix_row (r := row) (i := LA.pivotL b) (S := S) (by omega)
  have i2 := ix_row (r := b) (i := LA.pivotL b) (S := S) (by omega)
  have i3 := first_ok (row := b) (S := S) (by omega)
  rw [w_L_rest_2]
  by_cases hz : LA.fn row (LA.pivotL b) = 0
  · simp (config := { implicitDefEqProofs := false }) only [i3, i1, hz, EV0, EV1, EV2, List.set_cons_zero, List.set_cons_succ, Bool.not_true, Bool.not_false, eq_self, if_true, if_false, Bool.true_or, Bool.false_or, Bool.or_true, Bool.or_false, Bool.and_true, Bool.true_and, Bool.and_false, Bool.false_and, List.set_set, List.length_cons, List.length_nil, beq_self_eq_true, Bool.false_eq_true, lk, isTy, fIsi, fIsi2, kindOf, wipeE, decide_true, decide_false, Int.reduceEq, Int.reduceLT, Int.reduceLE, Int.reduceSub, Int.reduceAdd, Int.reduceNeg, Int.reduceToNat, Int.reduceNe, Nat.reduceAdd, Nat.reduceLT, Nat.reduceLeDiff, String.reduceEq, String.reduceBEq]
    rw [show LA.restS row b = row from if_pos hz]
  · have el := rest_el (a0 := a0) (a3 := some (.dat (.int ((LA.pivotL b : Nat) : Int)))) (a6 := none) (S := S) lb hr g1 hbd hac hz
    simp (config := { implicitDefEqProofs := false }) only [i3, i1, decide_eq_false hz, i2, rng49, el, EV0, EV1, EV2, List.set_cons_zero, List.set_cons_succ, Bool.not_true, Bool.not_false, eq_self, if_true, if_false, Bool.true_or, Bool.false_or, Bool.or_true, Bool.or_false, Bool.and_true, Bool.true_and, Bool.and_false, Bool.false_and, List.set_set, List.length_cons, List.length_nil, beq_self_eq_true, Bool.false_eq_true, lk, isTy, fIsi, fIsi2, kindOf, wipeE, decide_true, decide_false, Int.reduceEq, Int.reduceLT, Int.reduceLE, Int.reduceSub, Int.reduceAdd, Int.reduceNeg, Int.reduceToNat, Int.reduceNe, Nat.reduceAdd, Nat.reduceLT, Nat.reduceLeDiff, String.reduceEq, String.reduceBEq]
theorem loop_step {t : Tg} {mb : FS} {d : PH.D} {r : List PH.D} {ρ ρ1 ρ2 : Ev} {S S2 : Sto} (h1 : tgF t (.dat d) ρ = some ρ1) (h2 : mb ρ1 S = .next ρ2 S2) : loop t mb (d :: r) ρ S = loop t mb r ρ2 S2 := by
  rw [loop, h1]
  dsimp only
  rw [h2]
theorem rest_loop {a0 : Option Vl} {R N : Nat} {S : Sto} (hN : N ≤ 900000) (B : List (List Int)) : ∀ (i : Nat) (row : List Int), LA.Gr R i B → (∀ b ∈ B, b.length = 49 ∧ LA.pivotL b < 49) → LA.Bd (2 ^ i * (R + 1) - 1) row → row.length = 49 → 2 ^ (i + B.length) * (R + 1) ≤ N →
    loop (.nm 2) w_L_rest_2 (B.map rwD) [a0, some (.dat (rwD row)), none, none, none, none, none] S = .next [a0, some (.dat (rwD (LA.restL B row))), none, none, none, none, none] S := by
  induction B with
  | nil => intro i row _ _ _ _ _; rfl
  | cons b B rest_ih =>
    intro i row hG hB hbd hr hc
    obtain ⟨lb, pb⟩ := hB b (List.mem_cons_self ..)
    have el : i + (b :: B).length = i + 1 + B.length := by rw [List.length_cons]; omega
    rw [el] at hc
    have hs := Nat.le_trans (LA.gr_sum (LA.gr_le hc)) hN
    have hbd' : LA.Bd (2 ^ (i + 1) * (R + 1) - 1) (LA.restS row b) := by rw [← LA.two_mul_pow i R]; exact LA.restS_bd hbd hG.1
    have ih := rest_ih (i + 1) (LA.restS row b) hG.2 (fun c hc => hB c (List.mem_cons_of_mem _ hc)) hbd' (LA.restS_len hr lb) hc
    have turn := rest_turn (a0 := a0) (S := S) lb pb hr hG.1 hbd hs
    exact (loop_step (r := B.map rwD) rfl turn).trans ih
theorem rest_ok {B : List (List Int)} {R : Nat} {row : List Int} {S : Sto} (hT : LA.Tri B) (hG : LA.Gr R 0 B) (hr : row.length = 49) (hR : LA.Bd R row) {N : Nat} (hN : N ≤ 900000) (hc : 2 ^ B.length * (R + 1) ≤ N) : m_L_rest [.dat (rsD B), .dat (rwD row)] S = .ok (.dat (rwD (LA.restL B row))) S := by
  have l := rest_loop (a0 := some (.dat (rsD B))) (S := S) hN B 0 row hG (fun b hb => ⟨hT.len b hb, hT.piv b hb⟩) (by rw [Nat.pow_zero, Nat.one_mul, Nat.add_sub_cancel]; exact hR) hr (by rw [Nat.zero_add]; exact hc)
  rw [E_L_rest]
  unfold b_L_rest
  simp (config := { implicitDefEqProofs := false }) only [l, EV0, EV1, EV2, List.set_cons_zero, List.set_cons_succ, Bool.not_true, Bool.not_false, eq_self, if_true, if_false, Bool.true_or, Bool.false_or, Bool.or_true, Bool.or_false, Bool.and_true, Bool.true_and, Bool.and_false, Bool.false_and, List.set_set, List.length_cons, List.length_nil, beq_self_eq_true, Bool.false_eq_true, lk, isTy, fIsi, fIsi2, kindOf, wipeE, decide_true, decide_false, Int.reduceEq, Int.reduceLT, Int.reduceLE, Int.reduceSub, Int.reduceAdd, Int.reduceNeg, Int.reduceToNat, Int.reduceNe, Nat.reduceAdd, Nat.reduceLT, Nat.reduceLeDiff, String.reduceEq, String.reduceBEq]
  rfl
/-- a triangular list with its sizes -/
structure TriB (R : Nat) (B : List (List Int)) : Prop where
  tri : LA.Tri B
  gr : LA.Gr R 0 B
theorem rest_sz {B : List (List Int)} {R : Nat} {row : List Int} (h : TriB R B) (hR : LA.Bd R row) : LA.Bd (2 ^ B.length * (R + 1) - 1) (LA.restL B row) := by
  have := LA.rest_bd B 0 row h.gr (by rw [Nat.pow_zero, Nat.one_mul, Nat.add_sub_cancel]; exact hR)
  rwa [Nat.zero_add] at this
theorem grown_tri {B : List (List Int)} {R : Nat} {row : List Int} (h : TriB R B) (hr : row.length = 49) (hR : LA.Bd R row) : TriB R (LA.grownL B row) := by
  refine ⟨(LA.grown_ok h.tri hr).1, ?_⟩
  unfold LA.grownL
  split
  · exact h.gr
  · exact h.gr.snoc (by rw [Nat.zero_add]; exact LA.small_bd (rest_sz h hR))
theorem grown_ok {B : List (List Int)} {R N : Nat} {row : List Int} {S : Sto} (hN : N ≤ 450000) (h : TriB R B) (hr : row.length = 49) (hR : LA.Bd R row) (hc : 2 ^ B.length * (R + 1) ≤ N) (hl : B.length ≤ 100) : m_L_grown [.dat (rsD B), .dat (rwD row)] S = .ok (.dat (rsD (LA.grownL B row))) S := by
  have e1 := rest_ok (S := S) h.tri h.gr hr hR (show N ≤ 900000 by omega) hc
  have hb := rest_sz h hR
  have el := LA.restL_len B row hr h.tri.len
  generalize hx : LA.restL B row = x at e1 hb el
  have hb2 : LA.Bd N x := hb.mono (by omega)
  have e2 := small_ok (S := S) (b := N) (by omega) (by omega) hb2
  have e3 := first_ok (row := LA.smallL x) (S := S) (by rw [LA.small_len]; omega)
  rw [E_L_grown]
  unfold b_L_grown LA.grownL
  rw [hx]
  by_cases hz : LA.pivotL (LA.smallL x) = 49
  · simp (config := { implicitDefEqProofs := false }) only [e1, e2, e3, hz, EV0, EV1, EV2, List.set_cons_zero, List.set_cons_succ, Bool.not_true, Bool.not_false, eq_self, if_true, if_false, Bool.true_or, Bool.false_or, Bool.or_true, Bool.or_false, Bool.and_true, Bool.true_and, Bool.and_false, Bool.false_and, List.set_set, List.length_cons, List.length_nil, beq_self_eq_true, Bool.false_eq_true, lk, isTy, fIsi, fIsi2, kindOf, wipeE, decide_true, decide_false, Int.reduceEq, Int.reduceLT, Int.reduceLE, Int.reduceSub, Int.reduceAdd, Int.reduceNeg, Int.reduceToNat, Int.reduceNe, Nat.reduceAdd, Nat.reduceLT, Nat.reduceLeDiff, String.reduceEq, String.reduceBEq]
    rfl
  · have hz' : ((LA.pivotL (LA.smallL x) : Nat) : Int) ≠ 49 := by omega
    have ea : fAdd false (.dat (rsD B)) (.dat (.lst [rwD (LA.smallL x)])) S = .ok (.dat (rsD (B ++ [LA.smallL x]))) S := by
      rw [g_addL (by rw [List.length_map]; exact sz (by simp; omega))]
      unfold rsD
      rw [List.map_append]
      rfl
    simp (config := { implicitDefEqProofs := false }) only [e1, e2, e3, decide_eq_false hz', ea, EV0, EV1, EV2, List.set_cons_zero, List.set_cons_succ, Bool.not_true, Bool.not_false, eq_self, if_true, if_false, Bool.true_or, Bool.false_or, Bool.or_true, Bool.or_false, Bool.and_true, Bool.true_and, Bool.and_false, Bool.false_and, List.set_set, List.length_cons, List.length_nil, beq_self_eq_true, Bool.false_eq_true, lk, isTy, fIsi, fIsi2, kindOf, wipeE, decide_true, decide_false, Int.reduceEq, Int.reduceLT, Int.reduceLE, Int.reduceSub, Int.reduceAdd, Int.reduceNeg, Int.reduceToNat, Int.reduceNe, Nat.reduceAdd, Nat.reduceLT, Nat.reduceLeDiff, String.reduceEq, String.reduceBEq]
    rw [if_neg hz]
    rfl
theorem span_loop {a0 : Option Vl} {R N m : Nat} {S : Sto} (hN : N ≤ 450000) (hc : 2 ^ m * (R + 1) ≤ N) (hm : m ≤ 50) (rows : List (List Int)) : ∀ (B : List (List Int)), TriB R B → (∀ r ∈ rows, r.length = 49 ∧ LA.Bd R r) → B.length + rows.length ≤ m + 1 →
    loop (.nm 2) w_L_span_1 (rows.map rwD) [a0, some (.dat (rsD B)), none] S = .next [a0, some (.dat (rsD (rows.foldl LA.grownL B))), none] S := by
  induction rows with
  | nil => intro B _ _ _; rfl
  | cons r rows ih0 =>
    intro B hB hr hl
    obtain ⟨r1, r2⟩ := hr r (List.mem_cons_self ..)
    rw [List.length_cons] at hl
    have hp : 2 ^ B.length * (R + 1) ≤ N := Nat.le_trans (Nat.mul_le_mul_right _ (Nat.pow_le_pow_right (by omega) (by omega))) hc
    have e := grown_ok (S := S) hN hB r1 r2 hp (by omega)
    have hg := (LA.grown_ok hB.tri r1).2.2
    have ih := ih0 (LA.grownL B r) (grown_tri hB r1 r2) (fun x hx => hr x (List.mem_cons_of_mem _ hx)) (by omega)
    have turn : w_L_span_1 [a0, some (.dat (rsD B)), some (.dat (rwD r))] S = .next [a0, some (.dat (rsD (LA.grownL B r))), none] S := by
      rw [w_L_span_1]
      simp (config := { implicitDefEqProofs := false }) only [e, EV0, EV1, EV2, List.set_cons_zero, List.set_cons_succ, Bool.not_true, Bool.not_false, eq_self, if_true, if_false, Bool.true_or, Bool.false_or, Bool.or_true, Bool.or_false, Bool.and_true, Bool.true_and, Bool.and_false, Bool.false_and, List.set_set, List.length_cons, List.length_nil, beq_self_eq_true, Bool.false_eq_true, lk, isTy, fIsi, fIsi2, kindOf, wipeE, decide_true, decide_false, Int.reduceEq, Int.reduceLT, Int.reduceLE, Int.reduceSub, Int.reduceAdd, Int.reduceNeg, Int.reduceToNat, Int.reduceNe, Nat.reduceAdd, Nat.reduceLT, Nat.reduceLeDiff, String.reduceEq, String.reduceBEq]
    exact (loop_step (r := rows.map rwD) rfl turn).trans ih
theorem span_ok {R N m : Nat} {rows : List (List Int)} {S : Sto} (hN : N ≤ 450000) (hc : 2 ^ m * (R + 1) ≤ N) (hm : m ≤ 50) (hr : ∀ r ∈ rows, r.length = 49 ∧ LA.Bd R r) (hl : rows.length ≤ m + 1) : m_L_span [.dat (rsD rows)] S = .ok (.dat (rsD (LA.spanL rows))) S := by
  have l := span_loop (a0 := some (.dat (rsD rows))) (S := S) hN hc hm rows [] ⟨.nil, trivial⟩ hr (by simpa using hl)
  have l' : loop (.nm 2) w_L_span_1 (rows.map rwD) [some (.dat (rsD rows)), some (.dat (.lst [])), none] S = .next [some (.dat (rsD rows)), some (.dat (rsD (LA.spanL rows))), none] S := l
  rw [E_L_span]
  unfold b_L_span
  simp (config := { implicitDefEqProofs := false }) only [l', EV0, EV1, EV2, List.set_cons_zero, List.set_cons_succ, Bool.not_true, Bool.not_false, eq_self, if_true, if_false, Bool.true_or, Bool.false_or, Bool.or_true, Bool.or_false, Bool.and_true, Bool.true_and, Bool.and_false, Bool.false_and, List.set_set, List.length_cons, List.length_nil, beq_self_eq_true, Bool.false_eq_true, lk, isTy, fIsi, fIsi2, kindOf, wipeE, decide_true, decide_false, Int.reduceEq, Int.reduceLT, Int.reduceLE, Int.reduceSub, Int.reduceAdd, Int.reduceNeg, Int.reduceToNat, Int.reduceNe, Nat.reduceAdd, Nat.reduceLT, Nat.reduceLeDiff, String.reduceEq, String.reduceBEq]
  rfl
end PH

namespace PH
open PySem PySem.Spec PyProof PyProof.Rows L2
/-- the store with the pool at p and one list more -/
def st2 (S : Sto) (p : Nat) (ks : List Int) (c : Cell) : Sto := S.set p (PL ks) ++ [c]
theorem st2_pool {S : Sto} {p : Nat} {ks : List Int} {c : Cell} (hp : p < S.length) (hk : 2 ≤ ks.length) : PoolAt (st2 S p ks c) p ks := by
  refine ⟨?_, hk⟩
  unfold st2
  rw [List.getElem?_append_left (by simpa using hp), List.getElem?_set, if_pos rfl, if_pos hp]
theorem st2_set {S : Sto} {p : Nat} {ks ks' : List Int} {c : Cell} (hp : p < S.length) : (st2 S p ks c).set p (PL ks') = st2 S p ks' c := by
  unfold st2
  rw [List.set_append_left _ _ (by simpa using hp), List.set_set]
theorem st2_at {S : Sto} {p : Nat} {ks : List Int} {c : Cell} : (st2 S p ks c)[S.length]? = some c := by
  unfold st2
  rw [List.getElem?_append_right (by simp)]
  simp
theorem st2_put {S : Sto} {p : Nat} {ks : List Int} {c d : Cell} : (st2 S p ks c).set S.length d = st2 S p ks d := by
  unfold st2
  rw [List.set_append_right _ _ (by simp)]
  simp
theorem st2_len {S : Sto} {p : Nat} {ks : List Int} {c : Cell} : (st2 S p ks c).length = S.length + 1 := by simp [st2]
theorem dr2 {S : Sto} {p : Nat} {ks : List Int} {c : Cell} {k : Int} (hp : p < S.length) (hk : 2 ≤ ks.length) (h0 : 0 < k) (h1 : k < 1073741824) : ∃ (d : Int) (ks' : List Int), m_L_draw [.cel p, .dat (.int k)] (st2 S p ks c) = .ok (.dat (.int d)) (st2 S p ks' c) ∧ 0 ≤ d ∧ d < k ∧ ks'.length = ks.length := by
  obtain ⟨d, ks', e, a1, a2, a3⟩ := draw_ok (st2_pool (S := S) (c := c) hp hk) h0 h1
  exact ⟨d, ks', by rw [e, st2_set hp], a1, a2, a3⟩
theorem nu2 {S : Sto} {p : Nat} {ks : List Int} {c : Cell} (hp : p < S.length) (hk : 2 ≤ ks.length) : ∃ (d : Int) (ks' : List Int), m_L_number [.cel p] (st2 S p ks c) = .ok (.dat (.int d)) (st2 S p ks' c) ∧ Bn 137 d ∧ ks'.length = ks.length := by
  obtain ⟨d, ks', e, a1, a2⟩ := number_ok (st2_pool (S := S) (c := c) hp hk)
  exact ⟨d, ks', by rw [e, st2_set hp], a1, a2⟩
theorem bn_bd {d : Int} (h : Bn 137 d) : d.natAbs < 2 ^ 137 := by
  unfold Bn at h
  omega
/-- a drawn row: 49 numbers below 2 ^ R -/
def Rw (R : Nat) (r : List Int) : Prop := r.length = 49 ∧ LA.Bd R r
theorem any_loop {S : Sto} {p : Nat} {wide : Int} (hp : p < S.length) : ∀ (n : Nat) (lo : Int) (ks : List Int) (xs : List Int), 2 ≤ ks.length → LA.Bd 137 xs → xs.length + n ≤ 900 →
    ∃ (ks' xs' : List Int), loop (.nm 3) w_L_any_matrix_1 (rngD lo n) [some (.cel p), some (.dat (.int wide)), some (.cel S.length), none, none] (st2 S p ks (.lst (xs.map PH.D.int))) = .next [some (.cel p), some (.dat (.int wide)), some (.cel S.length), none, none] (st2 S p ks' (.lst (xs'.map PH.D.int))) ∧ LA.Bd 137 xs' ∧ xs'.length = xs.length + n ∧ ks'.length = ks.length
  | 0, lo, ks, xs, _, hb, _ => ⟨ks, xs, rfl, hb, rfl, rfl⟩
  | n + 1, lo, ks, xs, hk, hb, hl => by
    obtain ⟨d1, k1, e1, _, _, l1⟩ := dr2 (S := S) (c := .lst (xs.map PH.D.int)) (k := 3) hp hk (by decide) (by decide)
    have step : ∃ (v : Int) (k2 : List Int), v.natAbs < 2 ^ 137 ∧ k2.length = ks.length ∧ w_L_any_matrix_1 [some (.cel p), some (.dat (.int wide)), some (.cel S.length), some (.dat (.int lo)), none] (st2 S p ks (.lst (xs.map PH.D.int))) = .next [some (.cel p), some (.dat (.int wide)), some (.cel S.length), none, none] (st2 S p k2 (.lst ((xs ++ [v]).map PH.D.int))) := by
      have ap : ∀ (v : Int) (k2 : List Int), fApp (.cel S.length) (.dat (.int v)) (st2 S p k2 (.lst (xs.map PH.D.int))) = .ok (.dat .non) (st2 S p k2 (.lst ((xs ++ [v]).map PH.D.int))) := fun v k2 => by
        rw [g_fApp st2_at (by rw [List.length_map]; show _ < 16777216; omega), st2_put, List.map_append]
        rfl
      by_cases h1 : d1 = 0
      · subst h1
        obtain ⟨d2, k2, e2, a1, a2, l2⟩ := dr2 (S := S) (c := .lst (xs.map PH.D.int)) (k := 9) hp (show 2 ≤ k1.length by omega) (by decide) (by decide)
        by_cases hw : wide = 0
        · subst hw
          obtain ⟨d3, k3, e3, b3, l3⟩ := nu2 (S := S) (c := .lst (xs.map PH.D.int)) hp (show 2 ≤ k2.length by omega)
          refine ⟨d3, k3, bn_bd b3, by omega, ?_⟩
          rw [w_L_any_matrix_1]
          simp (config := { implicitDefEqProofs := false }) only [e1, e2, e3, g_kApp st2_at, ap, EV0, EV1, EV2, List.set_cons_zero, List.set_cons_succ, Bool.not_true, Bool.not_false, eq_self, if_true, if_false, Bool.true_or, Bool.false_or, Bool.or_true, Bool.or_false, Bool.and_true, Bool.true_and, Bool.and_false, Bool.false_and, List.set_set, List.length_cons, List.length_nil, beq_self_eq_true, Bool.false_eq_true, lk, isTy, fIsi, fIsi2, kindOf, wipeE, decide_true, decide_false, Int.reduceEq, Int.reduceLT, Int.reduceLE, Int.reduceSub, Int.reduceAdd, Int.reduceNeg, Int.reduceToNat, Int.reduceNe, Nat.reduceAdd, Nat.reduceLT, Nat.reduceLeDiff, String.reduceEq, String.reduceBEq]
        · refine ⟨d2 - 4, k2, by omega, by omega, ?_⟩
          rw [w_L_any_matrix_1]
          simp (config := { implicitDefEqProofs := false }) only [e1, e2, decide_eq_false hw, g_kApp st2_at, ap, EV0, EV1, EV2, List.set_cons_zero, List.set_cons_succ, Bool.not_true, Bool.not_false, eq_self, if_true, if_false, Bool.true_or, Bool.false_or, Bool.or_true, Bool.or_false, Bool.and_true, Bool.true_and, Bool.and_false, Bool.false_and, List.set_set, List.length_cons, List.length_nil, beq_self_eq_true, Bool.false_eq_true, lk, isTy, fIsi, fIsi2, kindOf, wipeE, decide_true, decide_false, Int.reduceEq, Int.reduceLT, Int.reduceLE, Int.reduceSub, Int.reduceAdd, Int.reduceNeg, Int.reduceToNat, Int.reduceNe, Nat.reduceAdd, Nat.reduceLT, Nat.reduceLeDiff, String.reduceEq, String.reduceBEq]
      · refine ⟨0, k1, by decide, l1, ?_⟩
        rw [w_L_any_matrix_1]
        simp (config := { implicitDefEqProofs := false }) only [e1, decide_eq_false h1, g_kApp st2_at, ap, EV0, EV1, EV2, List.set_cons_zero, List.set_cons_succ, Bool.not_true, Bool.not_false, eq_self, if_true, if_false, Bool.true_or, Bool.false_or, Bool.or_true, Bool.or_false, Bool.and_true, Bool.true_and, Bool.and_false, Bool.false_and, List.set_set, List.length_cons, List.length_nil, beq_self_eq_true, Bool.false_eq_true, lk, isTy, fIsi, fIsi2, kindOf, wipeE, decide_true, decide_false, Int.reduceEq, Int.reduceLT, Int.reduceLE, Int.reduceSub, Int.reduceAdd, Int.reduceNeg, Int.reduceToNat, Int.reduceNe, Nat.reduceAdd, Nat.reduceLT, Nat.reduceLeDiff, String.reduceEq, String.reduceBEq]
    obtain ⟨v, k2, hv, l2, et⟩ := step
    obtain ⟨ks', xs', e, b, l, lk⟩ := any_loop (S := S) (wide := wide) hp n (lo + 1) k2 (xs ++ [v]) (by omega) (fun x hx => by
      rcases List.mem_append.mp hx with hx | hx
      · exact hb x hx
      · obtain rfl := List.mem_singleton.mp hx; exact hv) (by simp; omega)
    refine ⟨ks', xs', ?_, b, by rw [l]; simp; omega, by omega⟩
    rw [rng_cons]
    exact (loop_step rfl et).trans e
theorem any_matrix_ok {S : Sto} {p : Nat} {ks : List Int} (hP : PoolAt S p ks) (ls : LS S) : ∃ (r ks' : List Int), m_L_any_matrix [.cel p] S = .ok (.dat (rwD r)) (S.set p (PL ks')) ∧ Rw 137 r ∧ ks'.length = ks.length := by
  have hp : p < S.length := (List.getElem?_eq_some_iff.mp hP.1).1
  obtain ⟨d1, k1, e1, _, _, l1⟩ := draw_ok hP (k := 4) (by decide) (by decide)
  have hk := hP.2
  obtain ⟨k2, xs, e2, b, l, l2⟩ := any_loop (S := S) (wide := d1) hp 49 0 k1 [] (by omega) (fun x hx => by simp at hx) (by simp)
  have hs : (S.set p (PL k1)).length = S.length := by simp
  refine ⟨xs, k2, ?_, ⟨by simpa using l, b⟩, by omega⟩
  rw [E_L_any_matrix]
  unfold b_L_any_matrix
  have e2' : loop (.nm 3) w_L_any_matrix_1 (rngD 0 49) [some (.cel p), some (.dat (.int d1)), some (.cel S.length), none, none] (S.set p (.lst (k1.map PH.D.int)) ++ [.lst []]) = .next [some (.cel p), some (.dat (.int d1)), some (.cel S.length), none, none] (st2 S p k2 (.lst (xs.map PH.D.int))) := e2
  simp (config := { implicitDefEqProofs := false }) only [e1, rng49, hs, e2', g_kFrz st2_at, EV0, EV1, EV2, List.set_cons_zero, List.set_cons_succ, Bool.not_true, Bool.not_false, eq_self, if_true, if_false, Bool.true_or, Bool.false_or, Bool.or_true, Bool.or_false, Bool.and_true, Bool.true_and, Bool.and_false, Bool.false_and, List.set_set, List.length_cons, List.length_nil, beq_self_eq_true, Bool.false_eq_true, lk, isTy, fIsi, fIsi2, kindOf, wipeE, decide_true, decide_false, Int.reduceEq, Int.reduceLT, Int.reduceLE, Int.reduceSub, Int.reduceAdd, Int.reduceNeg, Int.reduceToNat, Int.reduceNe, Nat.reduceAdd, Nat.reduceLT, Nat.reduceLeDiff, String.reduceEq, String.reduceBEq]
  rw [ofOut, st2_put]
  exact trunc_ok ls.set (by simp)
end PH

namespace PH
open PySem PySem.Spec PyProof PyProof.Rows L2
def Mb (B : Nat) (r : List Int) : Prop := ∀ x ∈ r, x.natAbs ≤ B
theorem zeros_ok {me : FE} {ρ : Ev} {S : Sto} {k : Nat} {cl : Bool} {vs : List Nat} (h : ∀ i : Nat, ∃ ρ1, tgF (.nm k) (.dat (.int (i : Int))) (wipeE ρ vs) = some ρ1 ∧ me ρ1 S = .ok (.dat (.int 0)) S) : kLc cl (.nm k) mYes me ρ vs (rngD 0 49) S = newL cl ((List.replicate 49 (0 : Int)).map PH.D.int) S := by
  have e : rngD 0 49 = (List.range 49).map fun i => PH.D.int ((i : Nat) : Int) := by
    unfold rngD
    exact List.map_congr_left fun i _ => by rw [Int.zero_add]
  rw [e, kLc_map (g := fun _ => PH.D.int 0) (by rw [List.length_range]; exact sz (by omega)) fun i _ => h i]
  rfl
def addL (f : Int) (m r : List Int) : List Int := List.zipWith (fun a b => a + f * b) m r
theorem add_fn {f : Int} {m r : List Int} (hl : m.length = r.length) (x : Nat) : LA.fn (addL f m r) x = LA.fn m x + f * LA.fn r x := by
  have := LA.comb_fn (s := 1) (f := -f) hl x
  rw [show LA.combL 1 m (-f) r = addL f m r from by unfold LA.combL addL; congr 1; funext a b; rw [Int.neg_mul]; omega] at this
  rw [this, Int.neg_mul]; omega
theorem add_len {f : Int} {m r : List Int} (h1 : m.length = 49) (h2 : r.length = 49) : (addL f m r).length = 49 := by
  unfold addL
  rw [List.length_zipWith]
  omega
theorem fn_mb {B : Nat} {r : List Int} (h : Mb B r) (i : Nat) : (LA.fn r i).natAbs ≤ B := by
  rcases Nat.lt_or_ge i r.length with y | y
  · rw [LA.fn_at y]; exact h _ (List.getElem_mem y)
  · rw [LA.fn_out y]; exact Nat.zero_le _
theorem add_mb {f : Int} {m r : List Int} {a b : Nat} (hm : Mb a m) (hr : Mb b r) (hf : f.natAbs ≤ 5) (h1 : m.length = 49) (h2 : r.length = 49) : Mb (a + 5 * b) (addL f m r) := by
  intro x hx
  obtain ⟨i, hi, rfl⟩ := List.getElem_of_mem hx
  have e := add_fn (f := f) (m := m) (r := r) (by omega) i
  rw [LA.fn_at hi] at e
  rw [e]
  have k1 := fn_mb hm i
  have k2 := fn_mb hr i
  have k3 : (f * LA.fn r i).natAbs ≤ 5 * b := by
    rw [Int.natAbs_mul]
    exact Nat.mul_le_mul hf k2
  omega
theorem mb_bd {B b : Nat} {r : List Int} (h : Mb B r) (hb : B < 2 ^ b) : LA.Bd b r := fun x hx => Nat.lt_of_le_of_lt (h x hx) hb
theorem bd_mb {b : Nat} {r : List Int} (h : LA.Bd b r) : Mb (2 ^ b) r := fun x hx => Nat.le_of_lt (h x hx)
theorem mixed_loop {p R : Nat} {a1 : Option Vl} (hR : R ≤ 1000) (rows : List (List Int)) : ∀ (S : Sto) (ks : List Int) (m : List Int) (j : Nat), PoolAt S p ks → (∀ r ∈ rows, Rw R r) → m.length = 49 → Mb (j * (5 * 2 ^ R)) m → (∀ v, LA.SpL rows v → True) →
    ∃ (m' ks' : List Int), loop (.nm 3) w_L_mixed_rows_2 (rows.map rwD) [some (.cel p), a1, some (.dat (rwD m)), none, none, none] S = .next [some (.cel p), a1, some (.dat (rwD m')), none, none, none] (S.set p (PL ks')) ∧ m'.length = 49 ∧ Mb ((j + rows.length) * (5 * 2 ^ R)) m' ∧ ks'.length = ks.length := by
  induction rows with
  | nil => intro S ks m j hP _ hl hm _; exact ⟨m, ks, by rw [pool_same hP]; rfl, hl, hm, rfl⟩
  | cons r rows ih =>
    intro S ks m j hP hr hl hm _
    obtain ⟨r1, r2⟩ := hr r (List.mem_cons_self ..)
    obtain ⟨d, k1, e1, h0, h1, l1⟩ := draw_ok hP (k := 11) (by decide) (by decide)
    have P1 := hP.next l1
    have hf : (d - 5).natAbs ≤ 5 := by omega
    have el : kLc false (.nm 5) mYes e_L_mixed_rows_1 [some (.cel p), a1, some (.dat (rwD m)), some (.dat (rwD r)), some (.dat (.int (d - 5))), none] [5] (rngD 0 49) (S.set p (.lst (k1.map PH.D.int))) = .ok (.dat (rwD (addL (d - 5) m r))) (S.set p (.lst (k1.map PH.D.int))) := by
      have e0 : (rngD 0 49).length ≤ sizeLine := by
        rw [show (rngD 0 49).length = 49 from rfl]
        exact sz (by omega)
      have er : rngD 0 49 = (List.range 49).map fun i => PH.D.int ((i : Nat) : Int) := by
        unfold rngD
        exact List.map_congr_left fun i _ => by rw [Int.zero_add]
      rw [er, kLc_map (g := fun i : Nat => PH.D.int (LA.fn m i + (d - 5) * LA.fn r i)) (by rw [List.length_range]; exact sz (by omega)) fun i hi => ⟨_, rfl, ?_⟩]
      · rw [map_range (r := addL (d - 5) m r) (fun i => LA.fn m i + (d - 5) * LA.fn r i) (add_len hl r1) fun k _ => add_fn (by omega) k]
        rfl
      · have hi' : i < 49 := by simpa using hi
        simp only [wipeE, List.set_cons_succ, List.set_cons_zero]
        rw [e_L_mixed_rows_1]
        simp (config := { implicitDefEqProofs := false }) only [ix_row (r := m) (i := i) (by omega), ix_row (r := r) (i := i) (by omega), g_mulI (mulOk (a := 3) (b := R) (i := d - 5) (by omega) (LA.fn_bd r2 i) (by omega)), EV0, EV1, EV2, List.set_cons_zero, List.set_cons_succ, Bool.not_true, Bool.not_false, eq_self, if_true, if_false, Bool.true_or, Bool.false_or, Bool.or_true, Bool.or_false, Bool.and_true, Bool.true_and, Bool.and_false, Bool.false_and, List.set_set, List.length_cons, List.length_nil, beq_self_eq_true, Bool.false_eq_true, lk, isTy, fIsi, fIsi2, kindOf, wipeE, decide_true, decide_false, Int.reduceEq, Int.reduceLT, Int.reduceLE, Int.reduceSub, Int.reduceAdd, Int.reduceNeg, Int.reduceToNat, Int.reduceNe, Nat.reduceAdd, Nat.reduceLT, Nat.reduceLeDiff, String.reduceEq, String.reduceBEq]
    have turn : w_L_mixed_rows_2 [some (.cel p), a1, some (.dat (rwD m)), some (.dat (rwD r)), none, none] S = .next [some (.cel p), a1, some (.dat (rwD (addL (d - 5) m r))), none, none, none] (S.set p (PL k1)) := by
      rw [w_L_mixed_rows_2]
      simp (config := { implicitDefEqProofs := false }) only [e1, rng49, el, EV0, EV1, EV2, List.set_cons_zero, List.set_cons_succ, Bool.not_true, Bool.not_false, eq_self, if_true, if_false, Bool.true_or, Bool.false_or, Bool.or_true, Bool.or_false, Bool.and_true, Bool.true_and, Bool.and_false, Bool.false_and, List.set_set, List.length_cons, List.length_nil, beq_self_eq_true, Bool.false_eq_true, lk, isTy, fIsi, fIsi2, kindOf, wipeE, decide_true, decide_false, Int.reduceEq, Int.reduceLT, Int.reduceLE, Int.reduceSub, Int.reduceAdd, Int.reduceNeg, Int.reduceToNat, Int.reduceNe, Nat.reduceAdd, Nat.reduceLT, Nat.reduceLeDiff, String.reduceEq, String.reduceBEq]
    have hm2 : Mb ((j + 1) * (5 * 2 ^ R)) (addL (d - 5) m r) := by
      rw [Nat.succ_mul]
      exact add_mb hm (bd_mb r2) hf hl r1
    obtain ⟨m', k2, e, g1, g2, g3⟩ := ih (S.set p (PL k1)) k1 (addL (d - 5) m r) (j + 1) P1 (fun x hx => hr x (List.mem_cons_of_mem _ hx)) (add_len hl r1) hm2 fun _ _ => trivial
    rw [List.set_set] at e
    refine ⟨m', k2, (loop_step (r := rows.map rwD) rfl turn).trans e, g1, by rw [List.length_cons, show j + (rows.length + 1) = j + 1 + rows.length by omega]; exact g2, by omega⟩
theorem mixed_ok {S : Sto} {p R : Nat} {ks : List Int} {rows : List (List Int)} (hR : R ≤ 1000) (hP : PoolAt S p ks) (hr : ∀ r ∈ rows, Rw R r) (hl : rows.length ≤ 12) : ∃ (r ks' : List Int), m_L_mixed_rows [.cel p, .dat (rsD rows)] S = .ok (.dat (rwD r)) (S.set p (PL ks')) ∧ Rw (R + 6) r ∧ ks'.length = ks.length := by
  obtain ⟨m', k2, e, g1, g2, g3⟩ := mixed_loop (a1 := some (.dat (rsD rows))) hR rows S ks (List.replicate 49 0) 0 hP hr (by simp) (fun x hx => by rw [List.eq_of_mem_replicate hx]; simp) fun _ _ => trivial
  refine ⟨m', k2, ?_, ⟨g1, mb_bd g2 ?_⟩, g3⟩
  · rw [E_L_mixed_rows]
    unfold b_L_mixed_rows
    have ez : kLc false (.nm 5) mYes (mC (.int 0)) [some (.cel p), some (.dat (rsD rows)), none, none, none, none] [5] (rngD 0 49) S = .ok (.dat (rwD (List.replicate 49 0))) S := zeros_ok fun i => ⟨_, rfl, rfl⟩
    simp (config := { implicitDefEqProofs := false }) only [rng49, ez, e, EV0, EV1, EV2, List.set_cons_zero, List.set_cons_succ, Bool.not_true, Bool.not_false, eq_self, if_true, if_false, Bool.true_or, Bool.false_or, Bool.or_true, Bool.or_false, Bool.and_true, Bool.true_and, Bool.and_false, Bool.false_and, List.set_set, List.length_cons, List.length_nil, beq_self_eq_true, Bool.false_eq_true, lk, isTy, fIsi, fIsi2, kindOf, wipeE, decide_true, decide_false, Int.reduceEq, Int.reduceLT, Int.reduceLE, Int.reduceSub, Int.reduceAdd, Int.reduceNeg, Int.reduceToNat, Int.reduceNe, Nat.reduceAdd, Nat.reduceLT, Nat.reduceLeDiff, String.reduceEq, String.reduceBEq]
    rfl
  · rw [Nat.zero_add, Nat.pow_add]
    have h1 : rows.length * (5 * 2 ^ R) ≤ 12 * (5 * 2 ^ R) := Nat.mul_le_mul_right _ hl
    have h2 := LA.two_pos R
    generalize 2 ^ R = q at *
    omega
theorem set_mb {B b : Nat} {r : List Int} {i : Nat} {v : Int} (h : Mb B r) (hv : v.natAbs ≤ b) (hb : B ≤ b) : Mb b (r.set i v) := fun x hx => by
  rcases List.mem_or_eq_of_mem_set hx with hx | rfl
  · exact Nat.le_trans (h x hx) hb
  · exact hv
theorem thin_loop {S : Sto} {p : Nat} {a4 : Option Vl} (hp : p < S.length) : ∀ (n : Nat) (lo : Int) (ks xs : List Int) (j : Nat), 2 ≤ ks.length → xs.length = 49 → Mb (6 * j) xs →
    ∃ (ks' xs' : List Int), loop (.nm 2) w_L_thin_matrix_1 (rngD lo n) [some (.cel p), some (.cel S.length), none, none, a4] (st2 S p ks (.lst (xs.map PH.D.int))) = .next [some (.cel p), some (.cel S.length), none, none, a4] (st2 S p ks' (.lst (xs'.map PH.D.int))) ∧ xs'.length = 49 ∧ Mb (6 * (j + n)) xs' ∧ ks'.length = ks.length
  | 0, lo, ks, xs, j, _, hl, hb => ⟨ks, xs, rfl, hl, hb, rfl⟩
  | n + 1, lo, ks, xs, j, hk, hl, hb => by
    obtain ⟨d1, k1, e1, a1, a2, l1⟩ := dr2 (S := S) (c := .lst (xs.map PH.D.int)) (k := 49) hp hk (by decide) (by decide)
    obtain ⟨d2, k2, e2, b1, b2, l2⟩ := dr2 (S := S) (c := .lst (xs.map PH.D.int)) (k := 13) hp (show 2 ≤ k1.length by omega) (by decide) (by decide)
    obtain ⟨i, rfl⟩ : ∃ i : Nat, d1 = (i : Int) := ⟨d1.toNat, by omega⟩
    have hi : i < xs.length := by omega
    have fb := fn_mb hb i
    have step : w_L_thin_matrix_1 [some (.cel p), some (.cel S.length), some (.dat (.int lo)), none, a4] (st2 S p ks (.lst (xs.map PH.D.int))) = .next [some (.cel p), some (.cel S.length), none, none, a4] (st2 S p k2 (.lst ((xs.set i (LA.fn xs i + d2 - 6)).map PH.D.int))) := by
      have es : mSetI (mOp fSub (mOp (fAdd false) (mOp fIx (mVar 1) (mVar 3)) (mCall m_L_draw (mCons (mVar 0) (mCons (mC (.int 13)) mNil)))) (mC (.int 6))) (mVar 1) (mVar 3) [some (.cel p), some (.cel S.length), some (.dat (.int lo)), some (.dat (.int (i : Int))), a4] (st2 S p k1 (.lst (xs.map PH.D.int))) = .next [some (.cel p), some (.cel S.length), some (.dat (.int lo)), some (.dat (.int (i : Int))), a4] (st2 S p k2 (.lst ((xs.set i (LA.fn xs i + d2 - 6)).map PH.D.int))) := by
        unfold mSetI
        simp (config := { implicitDefEqProofs := false }) only [ixC_int (k := (i : Int)) (n := i) (u := LA.fn xs i) st2_at rfl (by rw [LA.fn_at hi, List.getElem?_eq_getElem hi]), e2, setC_int (u := LA.fn xs i + d2 - 6) (st2_at (S := S) (p := p) (ks := k2) (c := .lst (xs.map PH.D.int))) (rfl : (i : Int) = (i : Int)) hi, st2_put, EV0, EV1, EV2, List.set_cons_zero, List.set_cons_succ, Bool.not_true, Bool.not_false, eq_self, if_true, if_false, Bool.true_or, Bool.false_or, Bool.or_true, Bool.or_false, Bool.and_true, Bool.true_and, Bool.and_false, Bool.false_and, List.set_set, List.length_cons, List.length_nil, beq_self_eq_true, Bool.false_eq_true, lk, isTy, fIsi, fIsi2, kindOf, wipeE, decide_true, decide_false, Int.reduceEq, Int.reduceLT, Int.reduceLE, Int.reduceSub, Int.reduceAdd, Int.reduceNeg, Int.reduceToNat, Int.reduceNe, Nat.reduceAdd, Nat.reduceLT, Nat.reduceLeDiff, String.reduceEq, String.reduceBEq]
      rw [w_L_thin_matrix_1]
      simp (config := { implicitDefEqProofs := false }) only [e1, es, EV0, EV1, EV2, List.set_cons_zero, List.set_cons_succ, Bool.not_true, Bool.not_false, eq_self, if_true, if_false, Bool.true_or, Bool.false_or, Bool.or_true, Bool.or_false, Bool.and_true, Bool.true_and, Bool.and_false, Bool.false_and, List.set_set, List.length_cons, List.length_nil, beq_self_eq_true, Bool.false_eq_true, lk, isTy, fIsi, fIsi2, kindOf, wipeE, decide_true, decide_false, Int.reduceEq, Int.reduceLT, Int.reduceLE, Int.reduceSub, Int.reduceAdd, Int.reduceNeg, Int.reduceToNat, Int.reduceNe, Nat.reduceAdd, Nat.reduceLT, Nat.reduceLeDiff, String.reduceEq, String.reduceBEq]
    obtain ⟨ks', xs', e, g1, g2, g3⟩ := thin_loop (S := S) (a4 := a4) hp n (lo + 1) k2 (xs.set i (LA.fn xs i + d2 - 6)) (j + 1) (by omega) (by simpa using hl) (set_mb hb (by omega) (by omega))
    refine ⟨ks', xs', ?_, g1, by rw [show j + (n + 1) = j + 1 + n by omega]; exact g2, by omega⟩
    rw [rng_cons]
    exact (loop_step rfl step).trans e
theorem thin_ok {S : Sto} {p : Nat} {ks : List Int} (hP : PoolAt S p ks) (ls : LS S) : ∃ (r ks' : List Int), m_L_thin_matrix [.cel p] S = .ok (.dat (rwD r)) (S.set p (PL ks')) ∧ Rw 5 r ∧ ks'.length = ks.length := by
  have hp : p < S.length := (List.getElem?_eq_some_iff.mp hP.1).1
  have hk := hP.2
  have q0 : S ++ [Cell.lst ((List.replicate 49 (0 : Int)).map PH.D.int)] = st2 S p ks (.lst ((List.replicate 49 (0 : Int)).map PH.D.int)) := by
    unfold st2
    rw [pool_same hP]
  obtain ⟨d, k1, e1, a1, a2, l1⟩ := dr2 (S := S) (c := .lst ((List.replicate 49 (0 : Int)).map PH.D.int)) (k := 3) hp hk (by decide) (by decide)
  obtain ⟨n, hn, hn2⟩ : ∃ n : Nat, (1 : Int) + d = (n : Int) ∧ n ≤ 3 := ⟨(1 + d).toNat, by omega, by omega⟩
  obtain ⟨k2, xs, e2, g1, g2, g3⟩ := thin_loop (S := S) (a4 := none) hp n 0 k1 (List.replicate 49 0) 0 (by omega) (by simp) (fun x hx => by rw [List.eq_of_mem_replicate hx]; simp)
  refine ⟨xs, k2, ?_, ⟨g1, mb_bd g2 (by omega)⟩, by omega⟩
  rw [E_L_thin_matrix]
  unfold b_L_thin_matrix
  have ez : kLc true (.nm 4) mYes (mC (.int 0)) [some (.cel p), none, none, none, none] [4] (rngD 0 49) S = .ok (.cel S.length) (st2 S p ks (.lst ((List.replicate 49 (0 : Int)).map PH.D.int))) := by
    rw [zeros_ok fun i => ⟨_, rfl, rfl⟩, ← q0]
    rfl
  have er : kRng1 (.dat (.int (n : Int))) (st2 S p k1 (.lst ((List.replicate 49 (0 : Int)).map PH.D.int))) = .ok (rngD 0 n) (st2 S p k1 (.lst ((List.replicate 49 (0 : Int)).map PH.D.int))) := by
    rw [g_kRng1 (by omega) (by omega)]
    simp
  simp (config := { implicitDefEqProofs := false }) only [rng49, ez, e1, hn, er, e2, g_kFrz st2_at, EV0, EV1, EV2, List.set_cons_zero, List.set_cons_succ, Bool.not_true, Bool.not_false, eq_self, if_true, if_false, Bool.true_or, Bool.false_or, Bool.or_true, Bool.or_false, Bool.and_true, Bool.true_and, Bool.and_false, Bool.false_and, List.set_set, List.length_cons, List.length_nil, beq_self_eq_true, Bool.false_eq_true, lk, isTy, fIsi, fIsi2, kindOf, wipeE, decide_true, decide_false, Int.reduceEq, Int.reduceLT, Int.reduceLE, Int.reduceSub, Int.reduceAdd, Int.reduceNeg, Int.reduceToNat, Int.reduceNe, Nat.reduceAdd, Nat.reduceLT, Nat.reduceLeDiff, String.reduceEq, String.reduceBEq]
  rw [ofOut, st2_put]
  exact trunc_ok ls.set (by simp)
end PH

namespace PH
open PySem PySem.Spec PyProof PyProof.Rows L2
def PenB (B : Nat) (z : Pen) : Prop := z.x.natAbs ≤ B ∧ z.y.natAbs ≤ B ∧ z.u.natAbs ≤ B ∧ z.v.natAbs ≤ B ∧ z.p.natAbs ≤ B ∧ z.q.natAbs ≤ B
theorem mul_nb {k x : Int} {K B : Nat} (hk : k.natAbs ≤ K) (hx : x.natAbs ≤ B) : (k * x).natAbs ≤ K * B := by
  rw [Int.natAbs_mul]
  exact Nat.mul_le_mul hk hx
theorem turn_nb {B : Nat} : ∀ (n : Nat) (w : Int × Int), w.1.natAbs ≤ B → w.2.natAbs ≤ B → (turnN n w).1.natAbs ≤ B ∧ (turnN n w).2.natAbs ≤ B
  | 0, w, h1, h2 => ⟨h1, h2⟩
  | n + 1, w, h1, h2 => turn_nb n (-w.2, w.1) (by simpa using h2) h1
theorem run_nb {c : Cmd} {z : Pen} {B : Nat} (h : c.Ok) (hz : PenB B z) : PenB (10 * B + 9) (c.run z) := by
  obtain ⟨z1, z2, z3, z4, z5, z6⟩ := hz
  cases c with
  | go k =>
    have a := mul_nb (K := 9) (show k.natAbs ≤ 9 by have := h.1; have := h.2; omega) z3
    have b := mul_nb (K := 9) (show k.natAbs ≤ 9 by have := h.1; have := h.2; omega) z4
    refine ⟨?_, ?_, ?_, ?_, ?_, ?_⟩ <;> (simp only [Cmd.run]; omega)
  | turn k =>
    have a := turn_nb k.toNat (z.u, z.v) z3 z4
    refine ⟨?_, ?_, ?_, ?_, ?_, ?_⟩ <;> (simp only [Cmd.run]; omega)
  | scale k =>
    have a := mul_nb (K := 3) (show k.natAbs ≤ 3 by have := h.1; have := h.2; omega) z3
    have b := mul_nb (K := 3) (show k.natAbs ≤ 3 by have := h.1; have := h.2; omega) z4
    refine ⟨?_, ?_, ?_, ?_, ?_, ?_⟩ <;> (simp only [Cmd.run]; first | omega | (rw [Int.mul_comm]; omega))
  | aim a b =>
    obtain ⟨h1, h2⟩ := h
    refine ⟨?_, ?_, ?_, ?_, ?_, ?_⟩ <;> (simp only [Cmd.run]; omega)
  | place a b =>
    obtain ⟨h1, h2⟩ := h
    refine ⟨?_, ?_, ?_, ?_, ?_, ?_⟩ <;> (simp only [Cmd.run]; omega)
  | mirror => refine ⟨?_, ?_, ?_, ?_, ?_, ?_⟩ <;> (simp only [Cmd.run]; omega)
  | mark => refine ⟨?_, ?_, ?_, ?_, ?_, ?_⟩ <;> (simp only [Cmd.run]; omega)
  | ret => refine ⟨?_, ?_, ?_, ?_, ?_, ?_⟩ <;> (simp only [Cmd.run]; omega)
  | exch => refine ⟨?_, ?_, ?_, ?_, ?_, ?_⟩ <;> (simp only [Cmd.run]; omega)
def runC (cs : List Cmd) (z : Pen) : Pen := cs.foldl (fun z c => c.run z) z
theorem runC_nb : ∀ (cs : List Cmd) (z : Pen), (∀ c ∈ cs, c.Ok) → PenB 1 z → cs.length ≤ 3 → PenB 1999 (runC cs z) := by
  have mono : ∀ {A B : Nat} {z : Pen}, PenB A z → A ≤ B → PenB B z := fun h hab => ⟨Nat.le_trans h.1 hab, Nat.le_trans h.2.1 hab, Nat.le_trans h.2.2.1 hab, Nat.le_trans h.2.2.2.1 hab, Nat.le_trans h.2.2.2.2.1 hab, Nat.le_trans h.2.2.2.2.2 hab⟩
  intro cs z h hz hl
  match cs, h, hl with
  | [], _, _ => exact mono hz (by omega)
  | [a], h, _ => exact mono (run_nb (h a (by simp)) hz) (by omega)
  | [a, b], h, _ => exact mono (run_nb (h b (by simp)) (run_nb (h a (by simp)) hz)) (by omega)
  | [a, b, c], h, _ => exact mono (run_nb (h c (by simp)) (run_nb (h b (by simp)) (run_nb (h a (by simp)) hz))) (by omega)
  | _ :: _ :: _ :: _ :: r, _, hl => simp at hl
theorem vc_nb {z : Pen} {B : Nat} (h : PenB B z) (hB : 1 ≤ B) {i : Nat} (hi : i < 7) : (vc z i).natAbs ≤ B := by
  obtain ⟨z1, z2, z3, z4, z5, z6⟩ := h
  unfold vc
  rcases lt7 hi with rfl | rfl | rfl | rfl | rfl | rfl | rfl <;> first | exact z1 | exact z2 | exact z3 | exact z4 | exact z5 | exact z6 | exact hB
theorem zero_nb : PenB 1 zeroP := by unfold PenB zeroP; decide
theorem delta_nb (i j : Nat) : (delta i j).natAbs ≤ 1 := by
  unfold delta
  split <;> decide
theorem unit_nb (j : Nat) : PenB 1 (unitP j) := ⟨delta_nb 0 j, delta_nb 1 j, delta_nb 2 j, delta_nb 3 j, delta_nb 4 j, delta_nb 5 j⟩
theorem probe_row {cs : List Cmd} (h : ∀ c ∈ cs, c.Ok) (hl : cs.length ≤ 3) : Rw 12 (probeM (runC cs)) := by
  refine ⟨probeM_len _, fun x hx => ?_⟩
  have hz := runC_nb cs zeroP h zero_nb hl
  have key : ∀ i j, i < 7 → j < 7 → Bn 12 (probeF (runC cs) i j) := fun i j hi hj => by
    have a := vc_nb hz (by omega) hi
    have b := vc_nb (runC_nb cs (unitP (j - 1)) h (unit_nb _) hl) (by omega) hi
    unfold probeF Bn
    split <;> omega
  unfold probeM at hx
  have := mx_bd key x hx
  unfold Bn at this
  omega
theorem deeds_cmd : ∀ (cs : List Cmd) (s : Ps), ∃ ps, deedsP (cs.map Deed.cmd) s = some ⟨ps, runC cs s.z, s.stk⟩
  | [], s => ⟨s.pens, rfl⟩
  | c :: cs, s => by
    obtain ⟨ps, e⟩ := deeds_cmd cs ⟨s.pens ++ [c.run s.z], c.run s.z, s.stk⟩
    exact ⟨ps, by rw [List.map_cons, deedsP]; exact e⟩
theorem probe_cmds {S : Sto} {cs : List Cmd} (ls : LS S) (h : ∀ c ∈ cs, c.Ok) (hl : cs.length ≤ 3) : m_L_probe [.dat (.lst (cs.map Cmd.d))] S = .ok (.dat (rwD (probeM (runC cs)))) S := by
  have e : ∀ z : Pen, deedsP (cs.map Deed.cmd) ⟨[], z, []⟩ = some ⟨(deeds_cmd cs ⟨[], z, []⟩).choose, runC cs z, []⟩ := fun z => (deeds_cmd cs ⟨[], z, []⟩).choose_spec
  have q := probe_ok (S := S) (ds := cs.map Deed.cmd) (p' := fun z => ⟨(deeds_cmd cs ⟨[], z, []⟩).choose, runC cs z, []⟩) ls (fun d hd => by
    obtain ⟨c, hc, rfl⟩ := List.mem_map.mp hd
    exact h c hc) e (by rw [List.length_map]; omega)
  rw [List.map_map] at q
  exact q
theorem lc_cmds {S : Sto} {p : Nat} {c : Cell} {a1 a2 a3 a4 : Option Vl} (hp : p < S.length) : ∀ (ds : List PH.D) (ks : List Int), 2 ≤ ks.length →
    ∃ (cs : List Cmd) (ks' : List Int), lcGo (.nm 5) mYes (mCall m_L_any_command (mCons (mVar 0) mNil)) [some (.cel p), a1, a2, a3, a4, none] ds (st2 S p ks c) = .ok (cs.map Cmd.d) (st2 S p ks' c) ∧ cs.length = ds.length ∧ (∀ x ∈ cs, x.Ok) ∧ ks'.length = ks.length
  | [], ks, _ => ⟨[], ks, rfl, rfl, (fun x hx => by cases hx), rfl⟩
  | d :: r, ks, hk => by
    obtain ⟨x, k1, e1, hx, l1⟩ := any_cmd_ok (st2_pool (S := S) (c := c) hp hk)
    rw [st2_set hp] at e1
    obtain ⟨xs, k2, e2, hl, hxs, l2⟩ := lc_cmds (a1 := a1) (a2 := a2) (a3 := a3) (a4 := a4) (c := c) hp r k1 (by omega)
    refine ⟨x :: xs, k2, ?_, by simp [hl], fun y hy => ?_, by omega⟩
    · rw [lcGo]
      simp only [tgF, g_yes, if_true]
      simp (config := { implicitDefEqProofs := false }) only [e1, EV0, EV1, EV2, List.set_cons_zero, List.set_cons_succ, Bool.not_true, Bool.not_false, eq_self, if_true, if_false, Bool.true_or, Bool.false_or, Bool.or_true, Bool.or_false, Bool.and_true, Bool.true_and, Bool.and_false, Bool.false_and, List.set_set, List.length_cons, List.length_nil, beq_self_eq_true, Bool.false_eq_true, lk, isTy, fIsi, fIsi2, kindOf, wipeE, decide_true, decide_false, Int.reduceEq, Int.reduceLT, Int.reduceLE, Int.reduceSub, Int.reduceAdd, Int.reduceNeg, Int.reduceToNat, Int.reduceNe, Nat.reduceAdd, Nat.reduceLT, Nat.reduceLeDiff, String.reduceEq, String.reduceBEq]
      rw [e2]
      rfl
    · rcases List.mem_cons.mp hy with rfl | hy
      · exact hx
      · exact hxs y hy
theorem st2_ls {S : Sto} {p : Nat} {ks : List Int} {ds : List PH.D} (ls : LS S) : LS (st2 S p ks (.lst ds)) := ls.set.app
theorem flat_set {S : Sto} {p : Nat} {ks : List Int} (h : S.all flatC = true) : (S.set p (PL ks)).all flatC = true := by
  refine List.all_eq_true.mpr fun c hc => ?_
  rcases List.mem_or_eq_of_mem_set hc with hc | rfl
  · exact List.all_eq_true.mp h c hc
  · show ((ks.map PH.D.int).all isIntB) = true
    refine List.all_eq_true.mpr fun d hd => ?_
    obtain ⟨i, _, rfl⟩ := List.mem_map.mp hd
    rfl
theorem bor_mixed {S : Sto} {p R : Nat} {ks : List Int} {rows : List (List Int)} (hp : p < S.length) (hk : 2 ≤ ks.length) (hf : S.all flatC = true) (hR : R ≤ 1000) (hr : ∀ r ∈ rows, Rw R r) (hl : rows.length ≤ 12) :
    ∃ (r ks' : List Int), kBor 1 m_L_mixed_rows [.cel p, .cel S.length] (st2 S p ks (.lst (rows.map rwD))) = .ok (.dat (rwD r)) (st2 S p ks' (.lst (rows.map rwD))) ∧ Rw (R + 6) r ∧ ks'.length = ks.length := by
  obtain ⟨r, k1, e, h1, h2⟩ := mixed_ok hR (st2_pool (S := S) (c := .dead) hp hk) hr hl
  rw [st2_set hp] at e
  refine ⟨r, k1, ?_, h1, h2⟩
  obtain ⟨x, xs, rfl⟩ : ∃ x xs, r = x :: xs := by
    cases r with
    | nil => have := h1.1; simp at this
    | cons x xs => exact ⟨x, xs, rfl⟩
  have hall : ((x :: xs).map PH.D.int).all isIntB = true := List.all_eq_true.mpr fun d hd => by
    obtain ⟨i, _, rfl⟩ := List.mem_map.mp hd
    rfl
  have q := kBor_ok (j := 1) (md := m_L_mixed_rows) (n := S.length) (ds := [.cel p, .cel S.length]) (S := st2 S p ks (.lst (rows.map rwD))) (es := rows.map rwD) (x := .int x) (xs := xs.map PH.D.int) (S2 := st2 S p k1 .dead) rfl st2_at (List.all_eq_true.mpr fun d hd => by
    obtain ⟨i, _, rfl⟩ := List.mem_map.mp hd
    rfl) (by rw [st2_put]; exact e) hall (by rw [st2_len]; omega) (by
    rw [st2_put]
    unfold st2
    rw [List.all_append, flat_set hf]
    rfl)
  rw [st2_put] at q
  exact q
theorem Rw.mono {R Q : Nat} {r : List Int} (h : Rw R r) (hq : R ≤ Q) : Rw Q r := ⟨h.1, h.2.mono hq⟩
theorem rows_loop {S : Sto} {p : Nat} {a1 : Option Vl} (hp : p < S.length) (ls : LS S) (hf : S.all flatC = true) : ∀ (n : Nat) (lo : Int) (ks : List Int) (rows : List (List Int)), 2 ≤ ks.length → (∀ r ∈ rows, Rw (137 + 6 * rows.length) r) → rows.length + n ≤ 10 →
    ∃ (ks' : List Int) (rows' : List (List Int)), loop (.nm 3) w_L_rows_1 (rngD lo n) [some (.cel p), a1, some (.cel S.length), none, none, none] (st2 S p ks (.lst (rows.map rwD))) = .next [some (.cel p), a1, some (.cel S.length), none, none, none] (st2 S p ks' (.lst (rows'.map rwD))) ∧ (∀ r ∈ rows', Rw (137 + 6 * rows'.length) r) ∧ rows'.length = rows.length + n ∧ ks'.length = ks.length
  | 0, lo, ks, rows, _, hr, _ => ⟨ks, rows, rfl, hr, rfl, rfl⟩
  | n + 1, lo, ks, rows, hk, hr, hl => by
    obtain ⟨d, k1, e1, h0, h6, l1⟩ := dr2 (S := S) (c := .lst (rows.map rwD)) (k := 6) hp hk (by decide) (by decide)
    have hk1 : 2 ≤ k1.length := by omega
    have step : ∃ (r ks2 : List Int), Rw (137 + 6 * rows.length + 6) r ∧ ks2.length = ks.length ∧ w_L_rows_1 [some (.cel p), a1, some (.cel S.length), some (.dat (.int lo)), none, none] (st2 S p ks (.lst (rows.map rwD))) = .next [some (.cel p), a1, some (.cel S.length), none, none, none] (st2 S p ks2 (.lst ((rows ++ [r]).map rwD))) := by
      have ap : ∀ (r : List Int) (k2 : List Int), fApp (.cel S.length) (.dat (rwD r)) (st2 S p k2 (.lst (rows.map rwD))) = .ok (.dat .non) (st2 S p k2 (.lst ((rows ++ [r]).map rwD))) := fun r k2 => by
        rw [g_fApp st2_at (by rw [List.length_map]; show _ < 16777216; omega), st2_put, List.map_append]
        rfl
      by_cases c0 : d = 0
      · subst c0
        obtain ⟨r, k2, e2, h2, l2⟩ := any_matrix_ok (st2_pool (S := S) (c := .lst (rows.map rwD)) hp hk1) (st2_ls ls)
        rw [st2_set hp] at e2
        refine ⟨r, k2, h2.mono (by omega), by omega, ?_⟩
        rw [w_L_rows_1]
        simp (config := { implicitDefEqProofs := false }) only [e1, g_kApp st2_at, e2, ap, EV0, EV1, EV2, List.set_cons_zero, List.set_cons_succ, Bool.not_true, Bool.not_false, eq_self, if_true, if_false, Bool.true_or, Bool.false_or, Bool.or_true, Bool.or_false, Bool.and_true, Bool.true_and, Bool.and_false, Bool.false_and, List.set_set, List.length_cons, List.length_nil, beq_self_eq_true, Bool.false_eq_true, lk, isTy, fIsi, fIsi2, kindOf, wipeE, decide_true, decide_false, Int.reduceEq, Int.reduceLT, Int.reduceLE, Int.reduceSub, Int.reduceAdd, Int.reduceNeg, Int.reduceToNat, Int.reduceNe, Nat.reduceAdd, Nat.reduceLT, Nat.reduceLeDiff, String.reduceEq, String.reduceBEq]
      · by_cases c1 : d = 1
        · subst c1
          obtain ⟨r, k2, e2, h2, l2⟩ := bor_mixed (R := 137 + 6 * rows.length) hp hk1 hf (by omega) hr (by omega)
          refine ⟨r, k2, h2, by omega, ?_⟩
          rw [w_L_rows_1]
          simp (config := { implicitDefEqProofs := false }) only [e1, g_kApp st2_at, g_bor, e2, ap, EV0, EV1, EV2, List.set_cons_zero, List.set_cons_succ, Bool.not_true, Bool.not_false, eq_self, if_true, if_false, Bool.true_or, Bool.false_or, Bool.or_true, Bool.or_false, Bool.and_true, Bool.true_and, Bool.and_false, Bool.false_and, List.set_set, List.length_cons, List.length_nil, beq_self_eq_true, Bool.false_eq_true, lk, isTy, fIsi, fIsi2, kindOf, wipeE, decide_true, decide_false, Int.reduceEq, Int.reduceLT, Int.reduceLE, Int.reduceSub, Int.reduceAdd, Int.reduceNeg, Int.reduceToNat, Int.reduceNe, Nat.reduceAdd, Nat.reduceLT, Nat.reduceLeDiff, String.reduceEq, String.reduceBEq]
        · by_cases c4 : d < 4
          · obtain ⟨r, k2, e2, h2, l2⟩ := thin_ok (st2_pool (S := S) (c := .lst (rows.map rwD)) hp hk1) (st2_ls ls)
            rw [st2_set hp] at e2
            refine ⟨r, k2, h2.mono (by omega), by omega, ?_⟩
            rw [w_L_rows_1]
            simp (config := { implicitDefEqProofs := false }) only [e1, decide_eq_false c0, decide_eq_false c1, decide_eq_true c4, g_kApp st2_at, e2, ap, EV0, EV1, EV2, List.set_cons_zero, List.set_cons_succ, Bool.not_true, Bool.not_false, eq_self, if_true, if_false, Bool.true_or, Bool.false_or, Bool.or_true, Bool.or_false, Bool.and_true, Bool.true_and, Bool.and_false, Bool.false_and, List.set_set, List.length_cons, List.length_nil, beq_self_eq_true, Bool.false_eq_true, lk, isTy, fIsi, fIsi2, kindOf, wipeE, decide_true, decide_false, Int.reduceEq, Int.reduceLT, Int.reduceLE, Int.reduceSub, Int.reduceAdd, Int.reduceNeg, Int.reduceToNat, Int.reduceNe, Nat.reduceAdd, Nat.reduceLT, Nat.reduceLeDiff, String.reduceEq, String.reduceBEq]
          · obtain ⟨d2, k2, e2, g0, g4, l2⟩ := dr2 (S := S) (c := .lst (rows.map rwD)) (k := 4) hp hk1 (by decide) (by decide)
            obtain ⟨m, rfl⟩ : ∃ m : Nat, d2 = (m : Int) := ⟨d2.toNat, by omega⟩
            obtain ⟨cs, k3, e3, lc, hcs, l3⟩ := lc_cmds (S := S) (c := .lst (rows.map rwD)) (a1 := a1) (a2 := some (.cel S.length)) (a3 := some (.dat (.int lo))) (a4 := some (.dat (.int d))) hp (rngD 0 m) k2 (by omega)
            have lm : (rngD 0 m).length = m := by simp [rngD]
            have er : kRng1 (.dat (.int (m : Int))) (st2 S p k2 (.lst (rows.map rwD))) = .ok (rngD 0 m) (st2 S p k2 (.lst (rows.map rwD))) := by
              rw [g_kRng1 (by omega) (by omega)]
              simp
            have el : kLc false (.nm 5) mYes (mCall m_L_any_command (mCons (mVar 0) mNil)) [some (.cel p), a1, some (.cel S.length), some (.dat (.int lo)), some (.dat (.int d)), none] [5] (rngD 0 m) (st2 S p k2 (.lst (rows.map rwD))) = .ok (.dat (.lst (cs.map Cmd.d))) (st2 S p k3 (.lst (rows.map rwD))) := by
              unfold kLc
              rw [if_pos (by rw [lm]; exact sz (by omega)), show wipeE [some (.cel p), a1, some (.cel S.length), some (.dat (.int lo)), some (.dat (.int d)), none] [5] = [some (.cel p), a1, some (.cel S.length), some (.dat (.int lo)), some (.dat (.int d)), none] from rfl, e3]
              rfl
            have ep := probe_cmds (S := st2 S p k3 (.lst (rows.map rwD))) (st2_ls ls) hcs (by omega)
            refine ⟨probeM (runC cs), k3, (probe_row hcs (by omega)).mono (by omega), by omega, ?_⟩
            rw [w_L_rows_1]
            simp (config := { implicitDefEqProofs := false }) only [e1, decide_eq_false c0, decide_eq_false c1, decide_eq_false c4, g_kApp st2_at, e2, er, el, ep, ap, EV0, EV1, EV2, List.set_cons_zero, List.set_cons_succ, Bool.not_true, Bool.not_false, eq_self, if_true, if_false, Bool.true_or, Bool.false_or, Bool.or_true, Bool.or_false, Bool.and_true, Bool.true_and, Bool.and_false, Bool.false_and, List.set_set, List.length_cons, List.length_nil, beq_self_eq_true, Bool.false_eq_true, lk, isTy, fIsi, fIsi2, kindOf, wipeE, decide_true, decide_false, Int.reduceEq, Int.reduceLT, Int.reduceLE, Int.reduceSub, Int.reduceAdd, Int.reduceNeg, Int.reduceToNat, Int.reduceNe, Nat.reduceAdd, Nat.reduceLT, Nat.reduceLeDiff, String.reduceEq, String.reduceBEq]
    obtain ⟨r, k2, h2, l2, et⟩ := step
    obtain ⟨ks', rows', e, g1, g2, g3⟩ := rows_loop (S := S) (a1 := a1) hp ls hf n (lo + 1) k2 (rows ++ [r]) (by omega) (fun x hx => by
      rw [List.length_append, List.length_singleton, Nat.mul_add]
      rcases List.mem_append.mp hx with hx | hx
      · exact (hr x hx).mono (by omega)
      · obtain rfl := List.mem_singleton.mp hx
        exact h2.mono (by omega)) (by simp; omega)
    refine ⟨ks', rows', ?_, g1, by rw [g2]; simp; omega, by omega⟩
    rw [rng_cons]
    exact (loop_step rfl et).trans e
theorem rows_ok {S : Sto} {p : Nat} {ks : List Int} {most : Nat} (hP : PoolAt S p ks) (ls : LS S) (hf : S.all flatC = true) (hm : most ≤ 8) : ∃ (rows : List (List Int)) (ks' : List Int), m_L_rows [.cel p, .dat (.int (most : Int))] S = .ok (.dat (rsD rows)) (S.set p (PL ks')) ∧ (∀ r ∈ rows, Rw 185 r) ∧ rows.length ≤ most ∧ ks'.length = ks.length := by
  have hp : p < S.length := (List.getElem?_eq_some_iff.mp hP.1).1
  have hk := hP.2
  have q0 : S ++ [Cell.lst []] = st2 S p ks (.lst []) := by
    unfold st2
    rw [pool_same hP]
  obtain ⟨d, k1, e1, h0, h1, l1⟩ := dr2 (S := S) (c := .lst []) (k := (most : Int) + 1) hp hk (by omega) (by omega)
  obtain ⟨m, rfl⟩ : ∃ m : Nat, d = (m : Int) := ⟨d.toNat, by omega⟩
  obtain ⟨k2, rows, e2, g1, g2, g3⟩ := rows_loop (S := S) (a1 := some (.dat (.int (most : Int)))) hp ls hf m 0 k1 [] (by omega) (fun r hr => by simp at hr) (by simp; omega)
  have hl : rows.length = m := by simpa using g2
  refine ⟨rows, k2, ?_, fun r hr => (g1 r hr).mono (by omega), by omega, by omega⟩
  rw [E_L_rows]
  unfold b_L_rows
  have er : kRng1 (.dat (.int (m : Int))) (st2 S p k1 (.lst [])) = .ok (rngD 0 m) (st2 S p k1 (.lst [])) := by
    rw [g_kRng1 (by omega) (by omega)]
    simp
  have e2' : loop (.nm 3) w_L_rows_1 (rngD 0 m) [some (.cel p), some (.dat (.int (most : Int))), some (.cel S.length), none, none, none] (st2 S p k1 (.lst [])) = .next [some (.cel p), some (.dat (.int (most : Int))), some (.cel S.length), none, none, none] (st2 S p k2 (.lst (rows.map rwD))) := e2
  simp (config := { implicitDefEqProofs := false }) only [q0, e1, er, e2', g_kFrz st2_at, EV0, EV1, EV2, List.set_cons_zero, List.set_cons_succ, Bool.not_true, Bool.not_false, eq_self, if_true, if_false, Bool.true_or, Bool.false_or, Bool.or_true, Bool.or_false, Bool.and_true, Bool.true_and, Bool.and_false, Bool.false_and, List.set_set, List.length_cons, List.length_nil, beq_self_eq_true, Bool.false_eq_true, lk, isTy, fIsi, fIsi2, kindOf, wipeE, decide_true, decide_false, Int.reduceEq, Int.reduceLT, Int.reduceLE, Int.reduceSub, Int.reduceAdd, Int.reduceNeg, Int.reduceToNat, Int.reduceNe, Nat.reduceAdd, Nat.reduceLT, Nat.reduceLeDiff, String.reduceEq, String.reduceBEq]
  rw [ofOut, st2_put]
  exact trunc_ok ls.set (by simp)
end PH

namespace PH
open PySem PySem.Spec PyProof PyProof.Rows L2
structure Gst (S : Sto) (p : Nat) (ks : List Int) (T : Sto) : Prop where
  ls : LS T
  tk : T.take S.length = S.set p (PL ks)
  hp : p < S.length
  hk : 2 ≤ ks.length
theorem Gst.len {S T : Sto} {p : Nat} {ks : List Int} (h : Gst S p ks T) : S.length ≤ T.length := by
  have := congrArg List.length h.tk
  rw [List.length_take, List.length_set] at this
  omega
theorem Gst.pool {S T : Sto} {p : Nat} {ks : List Int} (h : Gst S p ks T) : PoolAt T p ks := by
  refine ⟨?_, h.hk⟩
  have e : (T.take S.length)[p]? = some (PL ks) := by rw [h.tk, List.getElem?_set, if_pos rfl, if_pos h.hp]
  rwa [List.getElem?_take, if_pos h.hp] at e
theorem Gst.set {S T : Sto} {p : Nat} {ks ks' : List Int} (h : Gst S p ks T) (hl : ks'.length = ks.length) : Gst S p ks' (T.set p (PL ks')) := by
  refine ⟨h.ls.set, ?_, h.hp, by rw [hl]; exact h.hk⟩
  rw [List.take_set, h.tk, List.set_set]
theorem Gst.app {S T : Sto} {p : Nat} {ks : List Int} {ds : List PH.D} (h : Gst S p ks T) : Gst S p ks (T ++ [.lst ds]) := by
  refine ⟨h.ls.app, ?_, h.hp, h.hk⟩
  rw [List.take_append_of_le_length h.len, h.tk]
theorem take_set_ge {S T : Sto} {n : Nat} {c : Cell} (hn : S.length ≤ n) : (T.set n c).take S.length = T.take S.length := by
  apply List.ext_getElem?
  intro i
  rw [List.getElem?_take, List.getElem?_take]
  by_cases hi : i < S.length
  · rw [if_pos hi, if_pos hi, List.getElem?_set, if_neg (by omega)]
  · rw [if_neg hi, if_neg hi]
theorem Gst.put {S T : Sto} {p n : Nat} {ks : List Int} {ds : List PH.D} (h : Gst S p ks T) (hn : S.length ≤ n) : Gst S p ks (T.set n (.lst ds)) :=
  ⟨h.ls.set, by rw [take_set_ge hn]; exact h.tk, h.hp, h.hk⟩
theorem ls_kill {S : Sto} {k : Nat} (h : LS S) : LS (S.set k .dead) := fun c hc n => by
  rcases List.mem_or_eq_of_mem_set hc with hc | rfl
  · exact h c hc n
  · rfl
theorem Gst.kill {S T : Sto} {p n : Nat} {ks : List Int} (h : Gst S p ks T) (hn : S.length ≤ n) : Gst S p ks (T.set n .dead) :=
  ⟨ls_kill h.ls, by rw [take_set_ge hn]; exact h.tk, h.hp, h.hk⟩
theorem Gst.trunc {S T : Sto} {p : Nat} {ks : List Int} {d : PH.D} (h : Gst S p ks T) : PH.trunc S.length (.ok (.dat d) T) = .ok (.dat d) (S.set p (PL ks)) := by
  dsimp only [PH.trunc]
  rw [if_pos (by rw [h.ls.take]; rfl), h.tk]
theorem Gst.self {S : Sto} {p : Nat} {ks : List Int} (hP : PoolAt S p ks) (ls : LS S) : Gst S p ks S :=
  ⟨ls, by rw [List.take_length, pool_same hP], (List.getElem?_eq_some_iff.mp hP.1).1, hP.2⟩
theorem cut_tk {xs : List D} {n : Nat} : cutD xs none (some (n : Int)) = xs.take n := by
  unfold cutD
  rw [HT.sIx_none, HT.sIx_nat]
  simp
end PH

namespace PH
open PySem PySem.Spec PyProof PyProof.Rows L2
theorem copies_ok' {rows : List (List Int)} {S : Sto} (hl : rows.length ≤ 1000) : m_L_row_copies [.dat (rsD rows)] S = .ok (.dat (rsD rows)) S := by
  rw [E_L_row_copies]
  unfold b_L_row_copies
  have el : kLc false (.nm 1) mYes (m1 (fList false) (mVar 1)) [some (.dat (rsD rows)), none] [1] (rows.map rwD) S = .ok (.dat (rsD rows)) S := by
    rw [kLc_map (g := rwD) (sz (by omega)) fun r _ => ⟨_, rfl, by simp (config := { implicitDefEqProofs := false }) only [EV0, EV1, EV2, List.set_cons_zero, List.set_cons_succ, Bool.not_true, Bool.not_false, eq_self, if_true, if_false, Bool.true_or, Bool.false_or, Bool.or_true, Bool.or_false, Bool.and_true, Bool.true_and, Bool.and_false, Bool.false_and, List.set_set, List.length_cons, List.length_nil, beq_self_eq_true, Bool.false_eq_true, lk, isTy, fIsi, fIsi2, kindOf, wipeE, decide_true, decide_false, Int.reduceEq, Int.reduceLT, Int.reduceLE, Int.reduceSub, Int.reduceAdd, Int.reduceNeg, Int.reduceToNat, Int.reduceNe, Nat.reduceAdd, Nat.reduceLT, Nat.reduceLeDiff, String.reduceEq, String.reduceBEq]⟩]
    rfl
  simp (config := { implicitDefEqProofs := false }) only [el, EV0, EV1, EV2, List.set_cons_zero, List.set_cons_succ, Bool.not_true, Bool.not_false, eq_self, if_true, if_false, Bool.true_or, Bool.false_or, Bool.or_true, Bool.or_false, Bool.and_true, Bool.true_and, Bool.and_false, Bool.false_and, List.set_set, List.length_cons, List.length_nil, beq_self_eq_true, Bool.false_eq_true, lk, isTy, fIsi, fIsi2, kindOf, wipeE, decide_true, decide_false, Int.reduceEq, Int.reduceLT, Int.reduceLE, Int.reduceSub, Int.reduceAdd, Int.reduceNeg, Int.reduceToNat, Int.reduceNe, Nat.reduceAdd, Nat.reduceLT, Nat.reduceLeDiff, String.reduceEq, String.reduceBEq]
  rfl
theorem ls_one {ks : List Int} : LS [PL ks] := fun c hc n => by
  rw [List.mem_singleton.mp hc]; rfl
theorem flat_one {ks : List Int} : ([PL ks] : Sto).all flatC = true := by
  show (((ks.map PH.D.int).all isIntB) && true) = true
  rw [Bool.and_true]
  refine List.all_eq_true.mpr fun d hd => ?_
  obtain ⟨i, _, rfl⟩ := List.mem_map.mp hd
  rfl
theorem pool_one {ks : List Int} (h : 2 ≤ ks.length) : PoolAt [PL ks] 0 ks := ⟨rfl, h⟩
theorem zeros_sp {rows : List (List Int)} : LA.SpL rows (LA.fn (List.replicate 49 0)) := by
  have e : LA.fn (List.replicate 49 0) = LA.zv := funext fun x => by
    rcases Nat.lt_or_ge x 49 with y | y
    · rw [LA.fn_at (by simpa using y)]
      exact List.eq_of_mem_replicate (List.getElem_mem _)
    · rw [LA.fn_out (by simpa using y)]; rfl
  rw [e]
  exact .zero
end PH

namespace PH
open PySem PySem.Spec PyProof PyProof.Rows L2
def rwP (r : List Int) : PyData := .list (r.map PyData.int)
def rsP (B : List (List Int)) : PyData := .list (B.map rwP)
theorem intl_py : ∀ r : List Int, D.pys (r.map PH.D.int) = some (r.map PyData.int)
  | [] => rfl
  | x :: r => by
    rw [List.map_cons, List.map_cons, D.pys, intl_py r]
    rfl
theorem row_py (r : List Int) : D.py (rwD r) = some (rwP r) := by
  show D.py (.lst (r.map PH.D.int)) = _
  rw [D.py, intl_py r]
  rfl
theorem rows_pys : ∀ B : List (List Int), D.pys (B.map rwD) = some (B.map rwP)
  | [] => rfl
  | r :: B => by
    rw [List.map_cons, List.map_cons, D.pys, row_py, rows_pys B]
theorem rows_py (B : List (List Int)) : D.py (rsD B) = some (rsP B) := by
  show D.py (.lst (B.map rwD)) = _
  rw [D.py, rows_pys B]
  rfl
theorem intl_pls : ∀ r : List Int, D.Pls (r.map PH.D.int) ∧ D.hts (r.map PH.D.int) = 0
  | [] => ⟨trivial, rfl⟩
  | x :: r => by
    obtain ⟨h1, h2⟩ := intl_pls r
    refine ⟨⟨trivial, h1⟩, ?_⟩
    rw [List.map_cons, D.hts, h2]
    rfl
theorem row_pl {r : List Int} (h : r.length ≤ 1000) : (rwD r).Pl ∧ (rwD r).ht = 1 := by
  obtain ⟨h1, h2⟩ := intl_pls r
  refine ⟨⟨by rw [List.length_map]; exact h, h1⟩, ?_⟩
  show D.hts (r.map PH.D.int) + 1 = 1
  rw [h2]
theorem rows_pls : ∀ B : List (List Int), (∀ r ∈ B, r.length ≤ 1000) → D.Pls (B.map rwD) ∧ D.hts (B.map rwD) ≤ 1
  | [], _ => ⟨trivial, Nat.zero_le _⟩
  | r :: B, h => by
    obtain ⟨h1, h2⟩ := rows_pls B fun x hx => h x (List.mem_cons_of_mem _ hx)
    obtain ⟨k1, k2⟩ := row_pl (h r (List.mem_cons_self ..))
    refine ⟨⟨k1, h1⟩, ?_⟩
    rw [List.map_cons, D.hts, k2]
    omega
theorem rows_pl {B : List (List Int)} (hl : B.length ≤ 1000) (h : ∀ r ∈ B, r.length ≤ 1000) : (rsD B).Pl ∧ (rsD B).ht ≤ 2 := by
  obtain ⟨h1, h2⟩ := rows_pls B h
  refine ⟨⟨by rw [List.length_map]; exact hl, h1⟩, ?_⟩
  show D.hts (B.map rwD) + 1 ≤ 2
  omega
theorem eqvAll_ints : ∀ a b : List Int, PyData.eqvAll (a.map PyData.int) (b.map PyData.int) = decide (a = b)
  | [], [] => by simp [PyData.eqvAll]
  | [], y :: b => by simp [PyData.eqvAll]
  | x :: a, [] => by simp [PyData.eqvAll]
  | x :: a, y :: b => by
    rw [List.map_cons, List.map_cons, PyData.eqvAll, eqvAll_ints a b]
    simp only [PyData.eqv, List.cons.injEq, Bool.decide_and]
    congr 1
theorem eqv_row (a b : List Int) : PyData.eqv (rwP a) (rwP b) = decide (a = b) := by
  unfold rwP
  rw [PyData.eqv, eqvAll_ints]
theorem eqvAll_rows : ∀ a b : List (List Int), PyData.eqvAll (a.map rwP) (b.map rwP) = decide (a = b)
  | [], [] => by simp [PyData.eqvAll]
  | [], y :: b => by simp [PyData.eqvAll]
  | x :: a, [] => by simp [PyData.eqvAll]
  | x :: a, y :: b => by
    rw [List.map_cons, List.map_cons, PyData.eqvAll, eqvAll_rows a b, eqv_row]
    simp only [List.cons.injEq, Bool.decide_and]
theorem eqv_rows (a b : List (List Int)) : PyData.eqv (rsP a) (rsP b) = decide (a = b) := by
  unfold rsP
  rw [PyData.eqv, eqvAll_rows]
theorem shp_ok {d e : PH.D} {p q : PyData} (h1 : d.Pl) (h2 : d.ht ≤ 64) (h3 : d.py = some p) (k1 : e.Pl) (k2 : e.ht ≤ 64) (k3 : e.py = some q) : shp p q = true := by
  unfold shp
  rw [pl_shaped h1 h2 h3, pl_shaped k1 k2 k3]
  rfl
theorem fEq_rows {A B : List (List Int)} {S : Sto} (ha : A.length ≤ 1000) (hb : B.length ≤ 1000) (h : ∀ r ∈ A, r.length ≤ 1000) (k : ∀ r ∈ B, r.length ≤ 1000) : fEq (.dat (rsD A)) (.dat (rsD B)) S = .ok (.dat (.bl (decide (A = B)))) S := by
  obtain ⟨a1, a2⟩ := rows_pl ha h
  obtain ⟨b1, b2⟩ := rows_pl hb k
  show (match D.py (rsD A), D.py (rsD B) with
    | some p, some q => if shp p q = true then Res.ok (Vl.dat (.bl (PyData.eqv p q))) S else .stuck
    | _, _ => .stuck) = _
  rw [rows_py, rows_py]
  dsimp only
  rw [if_pos (shp_ok a1 (by omega) (rows_py A) b1 (by omega) (rows_py B)), eqv_rows]
theorem fNe_rows {A B : List (List Int)} {S : Sto} (ha : A.length ≤ 1000) (hb : B.length ≤ 1000) (h : ∀ r ∈ A, r.length ≤ 1000) (k : ∀ r ∈ B, r.length ≤ 1000) : fNe (.dat (rsD A)) (.dat (rsD B)) S = .ok (.dat (.bl (!decide (A = B)))) S := by
  obtain ⟨a1, a2⟩ := rows_pl ha h
  obtain ⟨b1, b2⟩ := rows_pl hb k
  show (match D.py (rsD A), D.py (rsD B) with
    | some p, some q => if shp p q = true then Res.ok (Vl.dat (.bl (!PyData.eqv p q))) S else .stuck
    | _, _ => .stuck) = _
  rw [rows_py, rows_py]
  dsimp only
  rw [if_pos (shp_ok a1 (by omega) (rows_py A) b1 (by omega) (rows_py B)), eqv_rows]
end PH

namespace PH
open PySem PySem.Spec PyProof PyProof.Rows L2
end PH

namespace PH
open PySem PySem.Spec PyProof PyProof.Rows L2
theorem srows_ok {B : List (List Int)} {S : Sto} (hl : B.length ≤ 1000) : m_Space_rows [.dat (spcD B)] S = .ok (.dat (rsD B)) S := by
  rw [E_Space_rows]
  unfold b_Space_rows
  have e4 : kFld "Space" "basis" (.dat (spcD B)) S = .ok (.dat (rsD B)) S := rfl
  have el : kLc false (.nm 1) mYes (m1 (fList false) (mVar 1)) [some (.dat (spcD B)), none] [1] (B.map rwD) S = .ok (.dat (rsD B)) S := by
    rw [kLc_map (g := rwD) (sz (by omega)) fun r _ => ⟨_, rfl, by simp (config := { implicitDefEqProofs := false }) only [EV0, EV1, EV2, List.set_cons_zero, List.set_cons_succ, Bool.not_true, Bool.not_false, eq_self, if_true, if_false, Bool.true_or, Bool.false_or, Bool.or_true, Bool.or_false, Bool.and_true, Bool.true_and, Bool.and_false, Bool.false_and, List.set_set, List.length_cons, List.length_nil, beq_self_eq_true, Bool.false_eq_true, lk, isTy, fIsi, fIsi2, kindOf, wipeE, decide_true, decide_false, Int.reduceEq, Int.reduceLT, Int.reduceLE, Int.reduceSub, Int.reduceAdd, Int.reduceNeg, Int.reduceToNat, Int.reduceNe, Nat.reduceAdd, Nat.reduceLT, Nat.reduceLeDiff, String.reduceEq, String.reduceBEq]⟩]
    rfl
  simp (config := { implicitDefEqProofs := false }) only [e4, el, EV0, EV1, EV2, List.set_cons_zero, List.set_cons_succ, Bool.not_true, Bool.not_false, eq_self, if_true, if_false, Bool.true_or, Bool.false_or, Bool.or_true, Bool.or_false, Bool.and_true, Bool.true_and, Bool.and_false, Bool.false_and, List.set_set, List.length_cons, List.length_nil, beq_self_eq_true, Bool.false_eq_true, lk, isTy, fIsi, fIsi2, kindOf, wipeE, decide_true, decide_false, Int.reduceEq, Int.reduceLT, Int.reduceLE, Int.reduceSub, Int.reduceAdd, Int.reduceNeg, Int.reduceToNat, Int.reduceNe, Nat.reduceAdd, Nat.reduceLT, Nat.reduceLeDiff, String.reduceEq, String.reduceBEq]
  rfl
theorem isins_sp {B : List (List Int)} {S : Sto} : isIns S "Space" "" (.dat (spcD B)) = true := by simp [isIns, spcD, str_eq]
theorem seq_ok {A B : List (List Int)} {S : Sto} (ha : A.length ≤ 1000) (hb : B.length ≤ 1000) (h : ∀ r ∈ A, r.length = 49) (k : ∀ r ∈ B, r.length = 49) : m_Space_eq [.dat (spcD A), .dat (spcD B)] S = .ok (.dat (.bl (decide (A = B)))) S := by
  have e1 : kFld "Space" "basis" (.dat (spcD A)) S = .ok (.dat (rsD A)) S := rfl
  have e2 : kFld "Space" "basis" (.dat (spcD B)) S = .ok (.dat (rsD B)) S := rfl
  have e3 : fIsC "Space" (.dat (spcD B)) S = .ok (.dat (.bl true)) S := if_pos isins_sp
  have e4 := fEq_rows (S := S) ha hb (fun r hr => by rw [h r hr]; omega) (fun r hr => by rw [k r hr]; omega)
  rw [E_Space_eq]
  unfold b_Space_eq
  simp (config := { implicitDefEqProofs := false }) only [e3, e1, e2, e4, EV0, EV1, EV2, List.set_cons_zero, List.set_cons_succ, Bool.not_true, Bool.not_false, eq_self, if_true, if_false, Bool.true_or, Bool.false_or, Bool.or_true, Bool.or_false, Bool.and_true, Bool.true_and, Bool.and_false, Bool.false_and, List.set_set, List.length_cons, List.length_nil, beq_self_eq_true, Bool.false_eq_true, lk, isTy, fIsi, fIsi2, kindOf, wipeE, decide_true, decide_false, Int.reduceEq, Int.reduceLT, Int.reduceLE, Int.reduceSub, Int.reduceAdd, Int.reduceNeg, Int.reduceToNat, Int.reduceNe, Nat.reduceAdd, Nat.reduceLT, Nat.reduceLeDiff, String.reduceEq, String.reduceBEq]
  rfl
end PH

namespace LA
theorem sp_app {X Y : List (List Int)} {v : Vc} (h : SpL X v) : SpL (X ++ Y) v := h.mono fun w ⟨c, hc, q⟩ => .gen ⟨c, List.mem_append_left _ hc, q⟩
theorem sp_app' {X Y : List (List Int)} {v : Vc} (h : SpL Y v) : SpL (X ++ Y) v := h.mono fun w ⟨c, hc, q⟩ => .gen ⟨c, List.mem_append_right _ hc, q⟩
theorem sp_or {X Y Z : List (List Int)} (h : ∀ v, SpL X v → SpL Z v) (k : ∀ v, SpL Y v → SpL Z v) : ∀ v, SpL (X ++ Y) v → SpL Z v := fun v s => s.mono fun w ⟨c, hc, q⟩ => by
  rcases List.mem_append.mp hc with hc | hc
  · exact h w (.gen ⟨c, hc, q⟩)
  · exact k w (.gen ⟨c, hc, q⟩)
theorem space_uniq {n : Nat} {X Y : List (List Int)} (h : ∀ r ∈ X, r.length = n) (k : ∀ r ∈ Y, r.length = n) (s : ∀ v, SpL X v ↔ SpL Y v) : spaceL X = spaceL Y := by
  obtain ⟨h1, h2⟩ := space_ok h
  obtain ⟨k1, k2⟩ := space_ok k
  exact h1.unique k1 fun v => (h2 v).trans ((s v).trans (k2 v).symm)
end LA

namespace PH
open PySem PySem.Spec PyProof PyProof.Rows L2
end PH

namespace PH
open PySem PySem.Spec PyProof PyProof.Rows L2
end PH

namespace PH
open PySem PySem.Spec PyProof PyProof.Rows L2
theorem mixed_loop2 {all : List (List Int)} {p R : Nat} {a1 : Option Vl} (hR : R ≤ 1000) (rows : List (List Int)) : ∀ (S : Sto) (ks : List Int) (m : List Int) (j : Nat), PoolAt S p ks → (∀ r ∈ rows, Rw R r) → m.length = 49 → Mb (j * (5 * 2 ^ R)) m → (∀ r ∈ rows, r ∈ all) → LA.SpL all (LA.fn m) →
    ∃ (m' ks' : List Int), loop (.nm 3) w_L_mixed_rows_2 (rows.map rwD) [some (.cel p), a1, some (.dat (rwD m)), none, none, none] S = .next [some (.cel p), a1, some (.dat (rwD m')), none, none, none] (S.set p (PL ks')) ∧ m'.length = 49 ∧ Mb ((j + rows.length) * (5 * 2 ^ R)) m' ∧ ks'.length = ks.length ∧ LA.SpL all (LA.fn m') := by
  induction rows with
  | nil => intro S ks m j hP _ hl hm _ hsp; exact ⟨m, ks, by rw [pool_same hP]; rfl, hl, hm, rfl, hsp⟩
  | cons r rows ih =>
    intro S ks m j hP hr hl hm hin hsp
    have hsp2 : LA.SpL all (LA.fn r) := .gen ⟨r, hin r (List.mem_cons_self ..), rfl⟩
    obtain ⟨r1, r2⟩ := hr r (List.mem_cons_self ..)
    obtain ⟨d, k1, e1, h0, h1, l1⟩ := draw_ok hP (k := 11) (by decide) (by decide)
    have P1 := hP.next l1
    have hf : (d - 5).natAbs ≤ 5 := by omega
    have el : kLc false (.nm 5) mYes e_L_mixed_rows_1 [some (.cel p), a1, some (.dat (rwD m)), some (.dat (rwD r)), some (.dat (.int (d - 5))), none] [5] (rngD 0 49) (S.set p (.lst (k1.map PH.D.int))) = .ok (.dat (rwD (addL (d - 5) m r))) (S.set p (.lst (k1.map PH.D.int))) := by
      have e0 : (rngD 0 49).length ≤ sizeLine := by
        rw [show (rngD 0 49).length = 49 from rfl]
        exact sz (by omega)
      have er : rngD 0 49 = (List.range 49).map fun i => PH.D.int ((i : Nat) : Int) := by
        unfold rngD
        exact List.map_congr_left fun i _ => by rw [Int.zero_add]
      rw [er, kLc_map (g := fun i : Nat => PH.D.int (LA.fn m i + (d - 5) * LA.fn r i)) (by rw [List.length_range]; exact sz (by omega)) fun i hi => ⟨_, rfl, ?_⟩]
      · rw [map_range (r := addL (d - 5) m r) (fun i => LA.fn m i + (d - 5) * LA.fn r i) (add_len hl r1) fun k _ => add_fn (by omega) k]
        rfl
      · have hi' : i < 49 := by simpa using hi
        simp only [wipeE, List.set_cons_succ, List.set_cons_zero]
        rw [e_L_mixed_rows_1]
        simp (config := { implicitDefEqProofs := false }) only [ix_row (r := m) (i := i) (by omega), ix_row (r := r) (i := i) (by omega), g_mulI (mulOk (a := 3) (b := R) (i := d - 5) (by omega) (LA.fn_bd r2 i) (by omega)), EV0, EV1, EV2, List.set_cons_zero, List.set_cons_succ, Bool.not_true, Bool.not_false, eq_self, if_true, if_false, Bool.true_or, Bool.false_or, Bool.or_true, Bool.or_false, Bool.and_true, Bool.true_and, Bool.and_false, Bool.false_and, List.set_set, List.length_cons, List.length_nil, beq_self_eq_true, Bool.false_eq_true, lk, isTy, fIsi, fIsi2, kindOf, wipeE, decide_true, decide_false, Int.reduceEq, Int.reduceLT, Int.reduceLE, Int.reduceSub, Int.reduceAdd, Int.reduceNeg, Int.reduceToNat, Int.reduceNe, Nat.reduceAdd, Nat.reduceLT, Nat.reduceLeDiff, String.reduceEq, String.reduceBEq]
    have turn : w_L_mixed_rows_2 [some (.cel p), a1, some (.dat (rwD m)), some (.dat (rwD r)), none, none] S = .next [some (.cel p), a1, some (.dat (rwD (addL (d - 5) m r))), none, none, none] (S.set p (PL k1)) := by
      rw [w_L_mixed_rows_2]
      simp (config := { implicitDefEqProofs := false }) only [e1, rng49, el, EV0, EV1, EV2, List.set_cons_zero, List.set_cons_succ, Bool.not_true, Bool.not_false, eq_self, if_true, if_false, Bool.true_or, Bool.false_or, Bool.or_true, Bool.or_false, Bool.and_true, Bool.true_and, Bool.and_false, Bool.false_and, List.set_set, List.length_cons, List.length_nil, beq_self_eq_true, Bool.false_eq_true, lk, isTy, fIsi, fIsi2, kindOf, wipeE, decide_true, decide_false, Int.reduceEq, Int.reduceLT, Int.reduceLE, Int.reduceSub, Int.reduceAdd, Int.reduceNeg, Int.reduceToNat, Int.reduceNe, Nat.reduceAdd, Nat.reduceLT, Nat.reduceLeDiff, String.reduceEq, String.reduceBEq]
    have hm2 : Mb ((j + 1) * (5 * 2 ^ R)) (addL (d - 5) m r) := by
      rw [Nat.succ_mul]
      exact add_mb hm (bd_mb r2) hf hl r1
    obtain ⟨m', k2, e, g1, g2, g3, g4⟩ := ih (S.set p (PL k1)) k1 (addL (d - 5) m r) (j + 1) P1 (fun x hx => hr x (List.mem_cons_of_mem _ hx)) (add_len hl r1) hm2 (fun x hx => hin x (List.mem_cons_of_mem _ hx)) (by
      have q := LA.Sp.sub2 1 (-(d - 5)) hsp hsp2
      rwa [show (fun x => 1 * LA.fn m x - -(d - 5) * LA.fn r x) = LA.fn (addL (d - 5) m r) from funext fun x => by rw [add_fn (by omega), Int.neg_mul]; omega] at q)
    rw [List.set_set] at e
    refine ⟨m', k2, (loop_step (r := rows.map rwD) rfl turn).trans e, g1, by rw [List.length_cons, show j + (rows.length + 1) = j + 1 + rows.length by omega]; exact g2, by omega, g4⟩
theorem mixed_ok2 {S : Sto} {p R : Nat} {ks : List Int} {rows : List (List Int)} (hR : R ≤ 1000) (hP : PoolAt S p ks) (hr : ∀ r ∈ rows, Rw R r) (hl : rows.length ≤ 12) : ∃ (r ks' : List Int), m_L_mixed_rows [.cel p, .dat (rsD rows)] S = .ok (.dat (rwD r)) (S.set p (PL ks')) ∧ Rw (R + 6) r ∧ ks'.length = ks.length ∧ LA.SpL rows (LA.fn r) := by
  obtain ⟨m', k2, e, g1, g2, g3, g4⟩ := mixed_loop2 (all := rows) (a1 := some (.dat (rsD rows))) hR rows S ks (List.replicate 49 0) 0 hP hr (by simp) (fun x hx => by rw [List.eq_of_mem_replicate hx]; simp) (fun r h => h) zeros_sp
  refine ⟨m', k2, ?_, ⟨g1, mb_bd g2 ?_⟩, g3, g4⟩
  · rw [E_L_mixed_rows]
    unfold b_L_mixed_rows
    have ez : kLc false (.nm 5) mYes (mC (.int 0)) [some (.cel p), some (.dat (rsD rows)), none, none, none, none] [5] (rngD 0 49) S = .ok (.dat (rwD (List.replicate 49 0))) S := zeros_ok fun i => ⟨_, rfl, rfl⟩
    simp (config := { implicitDefEqProofs := false }) only [rng49, ez, e, EV0, EV1, EV2, List.set_cons_zero, List.set_cons_succ, Bool.not_true, Bool.not_false, eq_self, if_true, if_false, Bool.true_or, Bool.false_or, Bool.or_true, Bool.or_false, Bool.and_true, Bool.true_and, Bool.and_false, Bool.false_and, List.set_set, List.length_cons, List.length_nil, beq_self_eq_true, Bool.false_eq_true, lk, isTy, fIsi, fIsi2, kindOf, wipeE, decide_true, decide_false, Int.reduceEq, Int.reduceLT, Int.reduceLE, Int.reduceSub, Int.reduceAdd, Int.reduceNeg, Int.reduceToNat, Int.reduceNe, Nat.reduceAdd, Nat.reduceLT, Nat.reduceLeDiff, String.reduceEq, String.reduceBEq]
    rfl
  · rw [Nat.zero_add, Nat.pow_add]
    have h1 : rows.length * (5 * 2 ^ R) ≤ 12 * (5 * 2 ^ R) := Nat.mul_le_mul_right _ hl
    have h2 := LA.two_pos R
    generalize 2 ^ R = q at *
    omega
end PH

namespace PH
open PySem PySem.Spec PyProof PyProof.Rows L2
end PH

namespace PH
open PySem PySem.Spec PyProof PyProof.Rows L2
theorem sne2_ok {A B : List (List Int)} {S : Sto} (ha : A.length ≤ 1000) (hb : B.length ≤ 1000) (h : ∀ r ∈ A, r.length = 49) (k : ∀ r ∈ B, r.length = 49) : fNeO "Space" m_Space_eq (.dat (spcD A)) (.dat (spcD B)) S = .ok (.dat (.bl (!decide (A = B)))) S := by
  unfold fNeO
  rw [if_pos ⟨isins_sp, isins_sp⟩, seq_ok ha hb h k]
  rfl
end PH

namespace LA
theorem pow_two2 {k n b : Nat} (hk : k ≤ n) (hn : n ≤ 64) : (2 * k * 2 ^ b) ^ k ≤ 2 ^ ((b + 7) * n) := by
  have h1 : 2 * k * 2 ^ b ≤ 2 ^ (b + 7) := by
    rw [Nat.pow_add, Nat.mul_comm]
    exact Nat.mul_le_mul_left _ (by omega)
  calc (2 * k * 2 ^ b) ^ k ≤ (2 ^ (b + 7)) ^ k := Nat.pow_le_pow_left h1 k
    _ = 2 ^ ((b + 7) * k) := by rw [← Nat.pow_mul]
    _ ≤ 2 ^ ((b + 7) * n) := Nat.pow_le_pow_right (by omega) (Nat.mul_le_mul_left _ hk)
section
variable {n b m : Nat} {rows B : List (List Int)}
theorem fams (hC : CnL n B) (hs : ∀ v, SpL B v ↔ SpL rows v) (hb : ∀ r ∈ rows, Bd b r) :
    (∀ j x, j < rows.length → -((2 ^ b : Nat) : Int) ≤ fn (rows.getD j []) x ∧ fn (rows.getD j []) x ≤ (2 ^ b : Nat)) ∧ (∀ j, j < rows.length → Sp (Fam B.length (fam B)) (fn (rows.getD j []))) ∧ ∀ i, i < B.length → Sp (Fam rows.length fun j => fn (rows.getD j [])) (fam B i) := by
  refine ⟨fun j x hj => ?_, fun j hj => ?_, fun i hi => ?_⟩
  · have := fn_bd (hb _ (List.getElem_mem hj)) x
    rw [getD_at hj]
    omega
  · rw [← sp_fam]
    refine (hs _).mpr (.gen ⟨rows[j], List.getElem_mem hj, ?_⟩)
    rw [getD_at hj]
  · have : SpL rows (fam B i) := (hs _).mp (.gen (mem_fam.mpr ⟨i, hi, rfl⟩))
    refine this.mono fun v hv => .gen ?_
    obtain ⟨r, hr, rfl⟩ := hv
    obtain ⟨j, hj, rfl⟩ := List.getElem_of_mem hr
    exact ⟨j, hj, by show fn rows[j] = fn (rows.getD j []); rw [getD_at hj]⟩
/-- the canonical basis of rows below 2 ^ b -/
theorem cnl_bd2 (hC : CnL n B) (hs : ∀ v, SpL B v ↔ SpL rows v) (hb : ∀ r ∈ rows, Bd b r) (hl : B.length ≤ m) (hm : m ≤ 64) : ∀ c ∈ B, Bd ((b + 7) * m + 1) c := by
  intro c hc x hx
  obtain ⟨i, hi, rfl⟩ := List.getElem_of_mem hc
  obtain ⟨j, hj, rfl⟩ := List.getElem_of_mem hx
  obtain ⟨f1, f2, f3⟩ := fams hC hs hb
  have q := hC.cn.bound (m := rows.length) (M := 2 ^ b) (V := fun j => fn (rows.getD j [])) (two_pos b) f1 f2 f3 hi j
  have e : fam B i j = B[i][j] := by
    unfold fam
    rw [getD_at hi, fn_at hj]
  rw [e] at q
  have := pow_two2 (b := b) hl hm
  have := two_pos ((b + 7) * m)
  rw [Nat.pow_succ]
  omega
end
end LA

namespace PH
open PySem PySem.Spec PyProof PyProof.Rows L2
/-- a basis of the span of rows below 2 ^ R -/
structure SpB (R m : Nat) (G B : List (List Int)) : Prop where
  can : LA.CnL 49 B
  sp : ∀ v, LA.SpL B v ↔ LA.SpL G v
  bd : ∀ r ∈ G, Rw R r
  dim : B.length ≤ m
/-- bits of such a basis, and of the multiple of its pivots -/
def eB (R m : Nat) : Nat := (R + 8) * m + 1
theorem SpB.e {R m : Nat} {G B : List (List Int)} (h : SpB R m G B) (hm : m ≤ 64) : ∀ c ∈ B, LA.Bd (eB R m) c := fun c hc =>
  (LA.cnl_bd2 h.can h.sp (fun r hr => (h.bd r hr).2) h.dim hm c hc).mono (by unfold eB; have := Nat.mul_le_mul_right m (show R + 7 ≤ R + 8 by omega); omega)
theorem SpB.gens {R m Q : Nat} {G G2 B : List (List Int)} (h : SpB R m G B) (s : ∀ v, LA.SpL G v ↔ LA.SpL G2 v) (b : ∀ r ∈ G2, Rw Q r) : SpB Q m G2 B := ⟨h.can, fun v => (h.sp v).trans (s v), b, h.dim⟩
end PH

namespace PH
open PySem PySem.Spec PyProof PyProof.Rows L2
theorem sp_mem {X Y : List (List Int)} (h : ∀ r, r ∈ X ↔ r ∈ Y) (v : LA.Vc) : LA.SpL X v ↔ LA.SpL Y v :=
  ⟨fun s => s.mono fun _ ⟨c, hc, q⟩ => .gen ⟨c, (h c).mp hc, q⟩, fun s => s.mono fun _ ⟨c, hc, q⟩ => .gen ⟨c, (h c).mpr hc, q⟩⟩
section
variable {Ra ma Rb mb : Nat} {Ga X Gb Y : List (List Int)} {S : Sto}
end
end PH

namespace PH
open PySem PySem.Spec PyProof PyProof.Rows L2
def rowC (r : List Int) : Cell := .lst (r.map PH.D.int)
theorem ix_cel {S : Sto} {n i : Nat} {r : List Int} (h : S[n]? = some (rowC r)) (hi : i < r.length) : fIx (.cel n) (.dat (.int (i : Int))) S = .ok (.dat (.int (LA.fn r i))) S := by
  refine g_ixC h (atI_nat ?_)
  rw [List.getElem?_map, LA.fn_at hi, List.getElem?_eq_getElem hi]
  rfl
def celR (p n : Nat) : List Vl := (List.range n).map fun i => Vl.cel (p + i)
theorem celR_at {p n i : Nat} (h : i < n) : (celR p n)[i]? = some (.cel (p + i)) := by
  unfold celR
  rw [List.getElem?_map, List.getElem?_range h]
  rfl
theorem celR_succ {p n : Nat} : celR p (n + 1) = .cel p :: celR (p + 1) n := by
  unfold celR
  rw [List.range_succ_eq_map, List.map_cons, List.map_map]
  congr 1
  exact List.map_congr_left fun i _ => by show Vl.cel (p + (i + 1)) = Vl.cel (p + 1 + i); rw [show p + (i + 1) = p + 1 + i by omega]
/-- a list of cells at q, its rows from p on -/
structure LvAt (S : Sto) (q p : Nat) (rows : List (List Int)) : Prop where
  lst : S[q]? = some (.lv (celR p rows.length))
  row : ∀ i (h : i < rows.length), S[p + i]? = some (rowC rows[i])
end PH

namespace PH
open PySem PySem.Spec PyProof PyProof.Rows L2
theorem lcW_rows {x0 : Option Vl} : ∀ (rows : List (List Int)) (S : Sto), lcGoW (.nm 1) mYes (m1 (fList true) (mVar 1)) [x0, none] (rows.map rwD) S = .ok (celR S.length rows.length) (S ++ rows.map rowC)
  | [], S => by simp [lcGoW, celR]
  | r :: rows, S => by
    have ih := lcW_rows (x0 := x0) rows (S ++ [rowC r])
    have e1 : m1 (fList true) (mVar 1) [x0, some (.dat (rwD r))] S = .ok (.cel S.length) (S ++ [rowC r]) := rfl
    rw [List.map_cons, lcGoW]
    simp only [tgF, mYes, if_true, List.set_cons_succ, List.set_cons_zero]
    rw [e1]
    dsimp only
    rw [ih]
    dsimp only
    rw [List.length_append, List.length_singleton, List.length_cons, celR_succ, List.append_assoc]
    rfl
def lvS (S : Sto) (rows : List (List Int)) : Sto := S ++ rows.map rowC ++ [.lv (celR S.length rows.length)]
theorem lvS_at (S : Sto) (rows : List (List Int)) : LvAt (lvS S rows) (S.length + rows.length) S.length rows := by
  refine ⟨?_, fun i hi => ?_⟩
  · unfold lvS
    rw [List.getElem?_append_right (by simp)]
    simp
  · unfold lvS
    rw [List.getElem?_append_left (by simp; omega), List.getElem?_append_right (by omega), show S.length + i - S.length = i by omega, List.getElem?_map, List.getElem?_eq_getElem hi]
    rfl
theorem kLcW_rows {x0 : Option Vl} {rows : List (List Int)} {S : Sto} (hl : rows.length ≤ 1000) : kLcW (.nm 1) mYes (m1 (fList true) (mVar 1)) [1] [x0, none] (rows.map rwD) S = .ok (.cel (S.length + rows.length)) (lvS S rows) := by
  unfold kLcW
  rw [if_pos (by rw [List.length_map]; exact sz hl), show wipeE [x0, none] [1] = [x0, none] from rfl, lcW_rows]
  show newV (celR S.length rows.length) (S ++ rows.map rowC) = _
  unfold newV lvS
  rw [List.length_append, List.length_map]
theorem copiesW_ok {rows : List (List Int)} {S : Sto} (hl : rows.length ≤ 1000) : m_L_row_copies_w [.dat (rsD rows)] S = .ok (.cel (S.length + rows.length)) (lvS S rows) := by
  rw [E_L_row_copies_w]
  unfold b_L_row_copies_w
  simp (config := { implicitDefEqProofs := false }) only [EVJ, kLcW_rows hl, EV0, EV1, EV2, List.set_cons_zero, List.set_cons_succ, Bool.not_true, Bool.not_false, eq_self, if_true, if_false, Bool.true_or, Bool.false_or, Bool.or_true, Bool.or_false, Bool.and_true, Bool.true_and, Bool.and_false, Bool.false_and, List.set_set, List.length_cons, List.length_nil, beq_self_eq_true, Bool.false_eq_true, lk, isTy, fIsi, fIsi2, kindOf, wipeE, decide_true, decide_false, Int.reduceEq, Int.reduceLT, Int.reduceLE, Int.reduceSub, Int.reduceAdd, Int.reduceNeg, Int.reduceToNat, Int.reduceNe, Nat.reduceAdd, Nat.reduceLT, Nat.reduceLeDiff, String.reduceEq, String.reduceBEq]
  rfl
structure Mut (S : Sto) (ks : List Int) (q p n : Nat) : Prop where
  pool : PoolAt S 0 ks
  lst : S[q]? = some (.lv (celR p n))
  row : ∀ i, i < n → ∃ r : List Int, S[p + i]? = some (rowC r) ∧ r.length = 49
  pos : 0 < p
  apart : q < p ∨ p + n ≤ q
theorem Mut.put {S : Sto} {ks k1 : List Int} {q p n i : Nat} {r : List Int} (M : Mut S ks q p n) (hk : 2 ≤ k1.length) (hi : i < n) (hr : r.length = 49) : Mut ((S.set 0 (PL k1)).set (p + i) (rowC r)) k1 q p n := by
  have hq0 : q ≠ 0 := fun e => by
    have := M.lst
    rw [e, M.pool.1] at this
    cases this
  have h0 : 0 < S.length := (List.getElem?_eq_some_iff.mp M.pool.1).1
  have hap := M.apart
  have hp := M.pos
  refine ⟨⟨?_, hk⟩, ?_, fun j hj => ?_, M.pos, M.apart⟩
  · rw [List.getElem?_set, if_neg (by omega), List.getElem?_set, if_pos rfl, if_pos h0]
  · rw [List.getElem?_set, if_neg (by omega), List.getElem?_set, if_neg (Ne.symm hq0)]
    exact M.lst
  · by_cases e : i = j
    · subst e
      obtain ⟨r0, h1, _⟩ := M.row i hi
      have := (List.getElem?_eq_some_iff.mp h1).1
      exact ⟨r, by rw [List.getElem?_set, if_pos rfl, if_pos (by simpa using this)], hr⟩
    · obtain ⟨r0, h1, h2⟩ := M.row j hj
      exact ⟨r0, by rw [List.getElem?_set, if_neg (by omega), List.getElem?_set, if_neg (by omega)]; exact h1, h2⟩
end PH

namespace PH
open PySem PySem.Spec PyProof PyProof.Rows L2
theorem same_dim {C T : List (List Int)} (hC : LA.CnL 49 C) (hT : LA.CnL 49 T) (s : ∀ v, LA.SpL C v → LA.SpL T v) (hl : T.length ≤ C.length) : ∀ v, LA.SpL T v → LA.SpL C v := fun v h => h.mono fun w ⟨t, ht, q⟩ => by
  rw [q]
  obtain ⟨k1, k2, k3⟩ := LA.with_ok hC (hT.len t ht)
  rcases k3 with ⟨_, k⟩ | ⟨k, _⟩
  · exact k
  · exfalso
    have : (LA.withL C t).length ≤ T.length := by
      refine LA.steinitz (b := LA.fam T) k1.cn.indep fun i hi => ?_
      have g : LA.SpL (LA.withL C t) (LA.fam (LA.withL C t) i) := .gen (LA.mem_fam.mpr ⟨i, hi, rfl⟩)
      refine LA.sp_fam.mp (((k2 _).mp g).mono fun u ⟨c, hc, e⟩ => ?_)
      rcases List.mem_cons.mp hc with hc | hc
      · exact .gen ⟨t, ht, by rw [e, hc]⟩
      · exact s u (.gen ⟨c, hc, e⟩)
    omega
theorem dim_iff {X Y : List (List Int)} (hX : ∀ r ∈ X, r.length = 49) (hY : ∀ r ∈ Y, r.length = 49) : LA.spaceL X = LA.spaceL Y ↔ (LA.spaceL Y).length = (LA.spaceL X).length ∧ (LA.spaceL (X ++ Y)).length = (LA.spaceL X).length := by
  have hXY : ∀ r ∈ X ++ Y, r.length = 49 := fun r h => (List.mem_append.mp h).elim (hX r) (hY r)
  obtain ⟨cX, sX⟩ := LA.space_ok hX
  obtain ⟨cY, sY⟩ := LA.space_ok hY
  obtain ⟨cT, sT⟩ := LA.space_ok hXY
  constructor
  · intro e
    refine ⟨by rw [e], ?_⟩
    rw [LA.space_uniq (n := 49) hXY hX fun v => ⟨LA.sp_or (fun _ s => s) (fun v s => (sX v).mp (by rw [e]; exact (sY v).mpr s)) v, LA.sp_app⟩]
  · rintro ⟨h1, h2⟩
    have a := same_dim cX cT (fun v s => (sT v).mpr (LA.sp_app ((sX v).mp s))) (by omega)
    have b := same_dim cY cT (fun v s => (sT v).mpr (LA.sp_app' ((sY v).mp s))) (by omega)
    refine LA.space_uniq (n := 49) hX hY fun v => ⟨fun s => (sY v).mp (b v ((sT v).mpr (LA.sp_app s))), fun s => (sX v).mp (a v ((sT v).mpr (LA.sp_app' s)))⟩
theorem fac_ok {d : Int} {S : Sto} (h0 : 0 ≤ d) (h6 : d < 6) : ∃ f : Int, f ≠ 0 ∧ f.natAbs < 2 ^ 30 ∧ fIx (.dat (.tup [.int 1, .int (-1), .int 2, .int (-3), .int 6, .int (-1000000000)])) (.dat (.int d)) S = .ok (.dat (.int f)) S := by
  rcases (by omega : d = 0 ∨ d = 1 ∨ d = 2 ∨ d = 3 ∨ d = 4 ∨ d = 5) with rfl | rfl | rfl | rfl | rfl | rfl
  · exact ⟨1, by decide, by decide, rfl⟩
  · exact ⟨-1, by decide, by decide, rfl⟩
  · exact ⟨2, by decide, by decide, rfl⟩
  · exact ⟨-3, by decide, by decide, rfl⟩
  · exact ⟨6, by decide, by decide, rfl⟩
  · exact ⟨-1000000000, by decide, by decide, rfl⟩
theorem pow9 {S : Sto} : fPow (.dat (.int 10)) (.dat (.int 9)) S = .ok (.dat (.int 1000000000)) S := rfl
theorem ktup6v {a b c d e f : PH.D} {S : Sto} : kTup [.dat a, .dat b, .dat c, .dat d, .dat e, .dat f] S = .ok (.dat (.tup [a, b, c, d, e, f])) S := rfl
def mixL (f : Int) (r m : List Int) : List Int := (List.range 49).map fun k => LA.fn (r.map (f * ·)) k + LA.fn m k
theorem mix_len (f : Int) (r m : List Int) : (mixL f r m).length = 49 := by simp [mixL]
theorem mix_fn {f : Int} {r m : List Int} (hr : r.length = 49) (hm : m.length = 49) (x : Nat) : LA.fn (mixL f r m) x = f * LA.fn r x + LA.fn m x := by
  by_cases y : x < 49
  · rw [LA.fn_at (by rw [mix_len]; exact y)]
    unfold mixL
    rw [List.getElem_map, List.getElem_range, LA.fn_at (l := r.map (f * ·)) (by rw [List.length_map]; omega), List.getElem_map, LA.fn_at (l := r) (by omega)]
  · rw [LA.fn_out (by rw [mix_len]; omega), LA.fn_out (by omega), LA.fn_out (by omega)]
    simp
theorem mix_rw {f : Int} {r m : List Int} (hf : f.natAbs < 2 ^ 30) (hr : Rw 185 r) (hm : Rw 191 m) : Rw 216 (mixL f r m) := by
  refine ⟨mix_len _ _ _, fun x hx => ?_⟩
  unfold mixL at hx
  obtain ⟨k, hk, rfl⟩ := List.mem_map.mp hx
  have b : LA.Bd 215 (r.map (f * ·)) := fun y hy => by
    obtain ⟨z, hz, rfl⟩ := List.mem_map.mp hy
    exact LA.lt_mono (LA.mul_lt hf (hr.2 z hz)) (by omega)
  have h1 := LA.fn_bd b k
  have h2 := LA.lt_mono (LA.fn_bd hm.2 k) (show 191 ≤ 215 by omega)
  have : (2 : Nat) ^ 216 = 2 ^ 215 + 2 ^ 215 := by decide +kernel
  omega
theorem other_sp {other rows : List (List Int)} {r x : List Int} {f : Int} {i : Nat} {m : LA.Vc} (hf : f ≠ 0) (s : ∀ v, LA.SpL other v ↔ LA.SpL rows v) (hm : LA.SpL rows m) (hx : LA.fn x = LA.lin f (LA.fn r) 1 m) : ∀ v, LA.SpL (other.take i ++ [x] ++ other.drop i) v ↔ LA.SpL (rows ++ [r]) v := by
  have perm : ∀ v, LA.SpL (other.take i ++ [x] ++ other.drop i) v ↔ LA.SpL (other ++ [x]) v := sp_mem fun y => by
    have : y ∈ other ↔ y ∈ other.take i ∨ y ∈ other.drop i := by rw [← List.mem_append, List.take_append_drop]
    simp only [List.mem_append, List.mem_singleton, this]
    constructor
    · rintro ((h | h) | h)
      · exact .inl (.inl h)
      · exact .inr h
      · exact .inl (.inr h)
    · rintro ((h | h) | h)
      · exact .inl (.inl h)
      · exact .inr h
      · exact .inl (.inr h)
  have gx : LA.SpL (other ++ [x]) (LA.fn x) := .gen ⟨x, by simp, rfl⟩
  have gr : LA.SpL (rows ++ [r]) (LA.fn r) := .gen ⟨r, by simp, rfl⟩
  refine fun v => (perm v).trans ⟨LA.sp_or (fun v q => LA.sp_app ((s v).mp q)) (fun v q => q.mono fun w ⟨c, hc, e⟩ => ?_) v, LA.sp_or (fun v q => LA.sp_app ((s v).mpr q)) (fun v q => q.mono fun w ⟨c, hc, e⟩ => ?_) v⟩
  · rw [e, List.mem_singleton.mp hc, hx]
    exact .lin f 1 gr (LA.sp_app hm)
  · rw [e, List.mem_singleton.mp hc]
    refine .div f hf ?_
    have q := LA.Sp.lin 1 (-1) gx (LA.sp_app (Y := [x]) ((s m).mpr hm))
    rwa [show LA.lin 1 (LA.fn x) (-1) m = fun y => f * LA.fn r y from funext fun y => by
      show 1 * LA.fn x y + -1 * m y = f * LA.fn r y
      rw [hx]
      show 1 * (f * LA.fn r y + 1 * m y) + -1 * m y = f * LA.fn r y
      omega] at q
theorem other_loop {S : Sto} {p : Nat} {rows : List (List Int)} (hp : p < S.length) (hr : ∀ r ∈ rows, Rw 185 r) (hl : rows.length ≤ 6) : ∀ (r i : Nat) (ks : List Int) (other : List (List Int)), i + r = rows.length → 2 ≤ ks.length → other.length = i → (∀ x ∈ other, Rw 216 x) → (∀ v, LA.SpL other v ↔ LA.SpL (rows.take i) v) →
    ∃ (ks' : List Int) (other' : List (List Int)), loop (.nm 3) w_L_other_rows_2 (rngD (i : Int) r) [some (.cel p), some (.dat (rsD rows)), some (.cel S.length), none, none, none, none, none, none, none] (st2 S p ks (.lst (other.map rwD))) = .next [some (.cel p), some (.dat (rsD rows)), some (.cel S.length), none, none, none, none, none, none, none] (st2 S p ks' (.lst (other'.map rwD))) ∧ 2 ≤ ks'.length ∧ other'.length = rows.length ∧ (∀ x ∈ other', Rw 216 x) ∧ ∀ v, LA.SpL other' v ↔ LA.SpL rows v
  | 0, i, ks, other, hi, hk, ho, hb, hs => ⟨ks, other, rfl, hk, by omega, hb, by rw [List.take_of_length_le (by omega)] at hs; exact hs⟩
  | r + 1, i, ks, other, hi, hk, ho, hb, hs => by
    have hlt : i < rows.length := by omega
    have hri := hr _ (List.getElem_mem hlt)
    obtain ⟨d, k1, e1, d0, d1, l1⟩ := dr2 (S := S) (c := .lst (other.map rwD)) (k := 6) hp hk (by decide) (by decide)
    have hk1 : 2 ≤ k1.length := by omega
    obtain ⟨f, f0, f1, e2⟩ := fac_ok (S := st2 S p k1 (.lst (other.map rwD))) d0 d1
    obtain ⟨m, k2, e3, hm, l2, hsp⟩ := mixed_ok2 (R := 185) (S := st2 S p k1 (.lst (other.map rwD))) (by omega) (st2_pool hp hk1) (rows := rows.take i) (fun x hx => hr x (List.mem_of_mem_take hx)) (by rw [List.length_take]; omega)
    rw [st2_set hp] at e3
    have hk2 : 2 ≤ k2.length := by omega
    obtain ⟨j, k3, e4, j0, j1, l3⟩ := dr2 (S := S) (c := .lst (other.map rwD)) (k := (other.length : Int) + 1) hp hk2 (by omega) (by omega)
    obtain ⟨t, rfl⟩ : ∃ t : Nat, j = (t : Int) := ⟨j.toNat, by omega⟩
    have eix : ∀ {T : Sto}, fIx (.dat (rsD rows)) (.dat (.int (i : Int))) T = .ok (.dat (rwD rows[i])) T := g_ixL (atI_nat (by rw [List.getElem?_map, List.getElem?_eq_getElem hlt]; rfl))
    have ec : cutD (rows.map rwD) none (some (i : Int)) = (rows.take i).map rwD := by rw [cut_tk, List.map_take]
    have el1 : ∀ {T : Sto}, kLc false (.nm 8) mYes (mOp fMul (mVar 4) (mVar 8)) [some (.cel p), some (.dat (rsD rows)), some (.cel S.length), some (.dat (.int (i : Int))), some (.dat (.int f)), none, none, none, none, none] [8] (rows[i].map PH.D.int) T = .ok (.dat (rwD (rows[i].map (f * ·)))) T := by
      intro T
      rw [kLc_map (g := fun x => PH.D.int (f * x)) (sz (by rw [hri.1]; omega)) fun x hx => ⟨_, rfl, by simp (config := { implicitDefEqProofs := false }) only [g_mulI (mulOk f1 (hri.2 x hx) (by omega)), EV0, EV1, EV2, List.set_cons_zero, List.set_cons_succ, Bool.not_true, Bool.not_false, eq_self, if_true, if_false, Bool.true_or, Bool.false_or, Bool.or_true, Bool.or_false, Bool.and_true, Bool.true_and, Bool.and_false, Bool.false_and, List.set_set, List.length_cons, List.length_nil, beq_self_eq_true, Bool.false_eq_true, lk, isTy, fIsi, fIsi2, kindOf, wipeE, decide_true, decide_false, Int.reduceEq, Int.reduceLT, Int.reduceLE, Int.reduceSub, Int.reduceAdd, Int.reduceNeg, Int.reduceToNat, Int.reduceNe, Nat.reduceAdd, Nat.reduceLT, Nat.reduceLeDiff, String.reduceEq, String.reduceBEq]⟩]
      show Res.ok _ _ = Res.ok (Vl.dat (.lst ((rows[i].map _).map _))) _
      rw [List.map_map]
      rfl
    have el2 : ∀ {T : Sto}, kLc false (.nm 9) mYes e_L_other_rows_1 [some (.cel p), some (.dat (rsD rows)), some (.cel S.length), some (.dat (.int (i : Int))), some (.dat (.int f)), some (.dat (rwD (rows[i].map (f * ·)))), some (.dat (rwD m)), none, none, none] [9] (rngD 0 49) T = .ok (.dat (rwD (mixL f rows[i] m))) T := by
      intro T
      rw [show rngD 0 49 = (List.range 49).map (fun k : Nat => PH.D.int (k : Int)) from by
        unfold rngD
        exact List.map_congr_left fun i _ => by rw [Int.zero_add]]
      rw [kLc_map (g := fun k : Nat => PH.D.int (LA.fn (rows[i].map (f * ·)) k + LA.fn m k)) (by rw [List.length_range]; exact sz (by omega)) fun k hk => ⟨_, rfl, ?_⟩]
      · unfold mixL
        show Res.ok _ _ = Res.ok (Vl.dat (.lst ((List.map _ _).map _))) _
        rw [List.map_map]
        rfl
      · have hk' : k < 49 := by simpa using hk
        simp only [wipeE, List.set_cons_succ, List.set_cons_zero]
        rw [e_L_other_rows_1]
        simp (config := { implicitDefEqProofs := false }) only [ix_row (r := rows[i].map (f * ·)) (i := k) (by rw [List.length_map, hri.1]; exact hk'), ix_row (r := m) (i := k) (by rw [hm.1]; exact hk'), EV0, EV1, EV2, List.set_cons_zero, List.set_cons_succ, Bool.not_true, Bool.not_false, eq_self, if_true, if_false, Bool.true_or, Bool.false_or, Bool.or_true, Bool.or_false, Bool.and_true, Bool.true_and, Bool.and_false, Bool.false_and, List.set_set, List.length_cons, List.length_nil, beq_self_eq_true, Bool.false_eq_true, lk, isTy, fIsi, fIsi2, kindOf, wipeE, decide_true, decide_false, Int.reduceEq, Int.reduceLT, Int.reduceLE, Int.reduceSub, Int.reduceAdd, Int.reduceNeg, Int.reduceToNat, Int.reduceNe, Nat.reduceAdd, Nat.reduceLT, Nat.reduceLeDiff, String.reduceEq, String.reduceBEq]
    have hfx : LA.fn (mixL f rows[i] m) = LA.lin f (LA.fn rows[i]) 1 (LA.fn m) := funext fun y => by
      rw [mix_fn hri.1 hm.1]
      show _ = f * LA.fn rows[i] y + 1 * LA.fn m y
      omega
    have e5 := g_fInL (k := t) (d := rwD (mixL f rows[i] m)) (st2_at (S := S) (p := p) (ks := k3) (c := .lst (other.map rwD))) (by rw [List.length_map]; show _ < 16777216; omega) (by omega)
    rw [st2_put] at e5
    have hto : (other.map rwD).take t ++ [rwD (mixL f rows[i] m)] ++ (other.map rwD).drop t = (other.take t ++ [mixL f rows[i] m] ++ other.drop t).map rwD := by
      simp only [List.map_append, List.map_take, List.map_drop, List.map_cons, List.map_nil]
    rw [hto] at e5
    have hlo : ((other.map rwD).length : Int) = (other.length : Int) := by rw [List.length_map]
    have step : w_L_other_rows_2 [some (.cel p), some (.dat (rsD rows)), some (.cel S.length), some (.dat (.int (i : Int))), none, none, none, none, none, none] (st2 S p ks (.lst (other.map rwD))) = .next [some (.cel p), some (.dat (rsD rows)), some (.cel S.length), none, none, none, none, none, none, none] (st2 S p k3 (.lst ((other.take t ++ [mixL f rows[i] m] ++ other.drop t).map rwD))) := by
      rw [w_L_other_rows_2]
      simp (config := { implicitDefEqProofs := false }) only [ktup6v, pow9, show -(1 : Int) = -1 from rfl, show -(3 : Int) = -3 from rfl, show -(1000000000 : Int) = -1000000000 from rfl, e1, e2, eix, el1, ec, e3, rng49, el2, g_ins, g_kIns1 st2_at, g_kIns2, g_lenC st2_at, List.length_map, e4, e5, EV0, EV1, EV2, List.set_cons_zero, List.set_cons_succ, Bool.not_true, Bool.not_false, eq_self, if_true, if_false, Bool.true_or, Bool.false_or, Bool.or_true, Bool.or_false, Bool.and_true, Bool.true_and, Bool.and_false, Bool.false_and, List.set_set, List.length_cons, List.length_nil, beq_self_eq_true, Bool.false_eq_true, lk, isTy, fIsi, fIsi2, kindOf, wipeE, decide_true, decide_false, Int.reduceEq, Int.reduceLT, Int.reduceLE, Int.reduceSub, Int.reduceAdd, Int.reduceNeg, Int.reduceToNat, Int.reduceNe, Nat.reduceAdd, Nat.reduceLT, Nat.reduceLeDiff, String.reduceEq, String.reduceBEq]
    obtain ⟨ks', other', e6, q1, q2, q3, q4⟩ := other_loop (S := S) (p := p) hp hr hl r (i + 1) k3 (other.take t ++ [mixL f rows[i] m] ++ other.drop t) (by omega) (by omega) (by simp; omega) (fun x hx => by
      simp only [List.mem_append, List.mem_singleton] at hx
      rcases hx with (hx | hx) | hx
      · exact hb x (List.mem_of_mem_take hx)
      · rw [hx]; exact mix_rw f1 hri hm
      · exact hb x (List.mem_of_mem_drop hx)) (by
      rw [show rows.take (i + 1) = rows.take i ++ [rows[i]] by rw [List.take_add_one, List.getElem?_eq_getElem hlt]; rfl]
      exact other_sp f0 hs hsp hfx)
    refine ⟨ks', other', ?_, q1, q2, q3, q4⟩
    rw [rng_cons, show ((i : Int) + 1) = ((i + 1 : Nat) : Int) by omega]
    exact (loop_step rfl step).trans e6
theorem more_loop {S : Sto} {p : Nat} {rows : List (List Int)} (hp : p < S.length) (hr : ∀ r ∈ rows, Rw 185 r) (hl : rows.length ≤ 6) : ∀ (n : Nat) (lo : Int) (ks : List Int) (other : List (List Int)), 2 ≤ ks.length → other.length + n ≤ 8 → (∀ x ∈ other, Rw 216 x) → (∀ v, LA.SpL other v ↔ LA.SpL rows v) →
    ∃ (ks' : List Int) (other' : List (List Int)), loop (.nm 7) w_L_other_rows_3 (rngD lo n) [some (.cel p), some (.dat (rsD rows)), some (.cel S.length), none, none, none, none, none, none, none] (st2 S p ks (.lst (other.map rwD))) = .next [some (.cel p), some (.dat (rsD rows)), some (.cel S.length), none, none, none, none, none, none, none] (st2 S p ks' (.lst (other'.map rwD))) ∧ 2 ≤ ks'.length ∧ other'.length ≤ 8 ∧ (∀ x ∈ other', Rw 216 x) ∧ ∀ v, LA.SpL other' v ↔ LA.SpL rows v
  | 0, lo, ks, other, hk, ho, hb, hs => ⟨ks, other, rfl, hk, by omega, hb, hs⟩
  | n + 1, lo, ks, other, hk, ho, hb, hs => by
    obtain ⟨m, k2, e3, hm, l2, hsp⟩ := mixed_ok2 (R := 185) (S := st2 S p ks (.lst (other.map rwD))) (by omega) (st2_pool hp hk) (rows := rows) hr (by omega)
    rw [st2_set hp] at e3
    have ap : fApp (.cel S.length) (.dat (rwD m)) (st2 S p k2 (.lst (other.map rwD))) = .ok (.dat .non) (st2 S p k2 (.lst ((other ++ [m]).map rwD))) := by
      rw [g_fApp st2_at (by rw [List.length_map]; show _ < 16777216; omega), st2_put, List.map_append]
      rfl
    have step : w_L_other_rows_3 [some (.cel p), some (.dat (rsD rows)), some (.cel S.length), none, none, none, none, some (.dat (.int lo)), none, none] (st2 S p ks (.lst (other.map rwD))) = .next [some (.cel p), some (.dat (rsD rows)), some (.cel S.length), none, none, none, none, none, none, none] (st2 S p k2 (.lst ((other ++ [m]).map rwD))) := by
      rw [w_L_other_rows_3]
      simp (config := { implicitDefEqProofs := false }) only [g_kApp st2_at, e3, ap, EV0, EV1, EV2, List.set_cons_zero, List.set_cons_succ, Bool.not_true, Bool.not_false, eq_self, if_true, if_false, Bool.true_or, Bool.false_or, Bool.or_true, Bool.or_false, Bool.and_true, Bool.true_and, Bool.and_false, Bool.false_and, List.set_set, List.length_cons, List.length_nil, beq_self_eq_true, Bool.false_eq_true, lk, isTy, fIsi, fIsi2, kindOf, wipeE, decide_true, decide_false, Int.reduceEq, Int.reduceLT, Int.reduceLE, Int.reduceSub, Int.reduceAdd, Int.reduceNeg, Int.reduceToNat, Int.reduceNe, Nat.reduceAdd, Nat.reduceLT, Nat.reduceLeDiff, String.reduceEq, String.reduceBEq]
    obtain ⟨ks', other', e6, q1, q2, q3, q4⟩ := more_loop (S := S) (p := p) hp hr hl n (lo + 1) k2 (other ++ [m]) (by omega) (by simp; omega) (fun x hx => by
      rcases List.mem_append.mp hx with hx | hx
      · exact hb x hx
      · rw [List.mem_singleton.mp hx]; exact hm.mono (by omega)) (fun v => ⟨LA.sp_or (fun v q => (hs v).mp q) (fun v q => q.mono fun w ⟨c, hc, e⟩ => by rw [e, List.mem_singleton.mp hc]; exact hsp) v, fun q => LA.sp_app ((hs v).mpr q)⟩)
    refine ⟨ks', other', ?_, q1, q2, q3, q4⟩
    rw [rng_cons]
    exact (loop_step rfl step).trans e6
theorem other_ok {S : Sto} {p : Nat} {ks : List Int} {rows : List (List Int)} (hP : PoolAt S p ks) (ls : LS S) (hr : ∀ r ∈ rows, Rw 185 r) (hl : rows.length ≤ 6) : ∃ (other : List (List Int)) (ks' : List Int), m_L_other_rows [.cel p, .dat (rsD rows)] S = .ok (.dat (rsD other)) (S.set p (PL ks')) ∧ (∀ r ∈ other, Rw 216 r) ∧ other.length ≤ 8 ∧ 2 ≤ ks'.length ∧ ∀ v, LA.SpL other v ↔ LA.SpL rows v := by
  have hp : p < S.length := (List.getElem?_eq_some_iff.mp hP.1).1
  have hk := hP.2
  have q0 : S ++ [Cell.lst []] = st2 S p ks (.lst []) := by
    unfold st2
    rw [pool_same hP]
  obtain ⟨k1, o1, e1, h1, h2, h3, h4⟩ := other_loop (S := S) (p := p) hp hr hl rows.length 0 ks [] (by omega) hk rfl (fun x hx => by simp at hx) fun v => by simp
  rw [g_cast0] at e1
  have e1' : loop (.nm 3) w_L_other_rows_2 (rngD 0 rows.length) [some (.cel p), some (.dat (rsD rows)), some (.cel S.length), none, none, none, none, none, none, none] (st2 S p ks (.lst [])) = .next [some (.cel p), some (.dat (rsD rows)), some (.cel S.length), none, none, none, none, none, none, none] (st2 S p k1 (.lst (o1.map rwD))) := e1
  obtain ⟨d, k2, e2, d0, d1, l2⟩ := dr2 (S := S) (c := .lst (o1.map rwD)) (k := 3) hp h1 (by decide) (by decide)
  obtain ⟨n, rfl⟩ : ∃ n : Nat, d = (n : Int) := ⟨d.toNat, by omega⟩
  obtain ⟨k3, o3, e3, g1, g2, g3, g4⟩ := more_loop (S := S) (p := p) hp hr hl n 0 k2 o1 (by omega) (by omega) h3 h4
  refine ⟨o3, k3, ?_, g3, g2, g1, g4⟩
  rw [E_L_other_rows]
  unfold b_L_other_rows
  have er : ∀ {T : Sto}, kRng1 (.dat (.int (n : Int))) T = .ok (rngD 0 n) T := by
    intro T
    rw [g_kRng1 (by omega) (by omega)]
    simp
  have er2 : ∀ {T : Sto}, kRng1 (.dat (.int (rows.length : Int))) T = .ok (rngD 0 rows.length) T := by
    intro T
    rw [g_kRng1 (by omega) (by omega)]
    simp
  simp (config := { implicitDefEqProofs := false }) only [List.length_map, er2, q0, e1', e2, er, e3, g_kFrz st2_at, EV0, EV1, EV2, List.set_cons_zero, List.set_cons_succ, Bool.not_true, Bool.not_false, eq_self, if_true, if_false, Bool.true_or, Bool.false_or, Bool.or_true, Bool.or_false, Bool.and_true, Bool.true_and, Bool.and_false, Bool.false_and, List.set_set, List.length_cons, List.length_nil, beq_self_eq_true, Bool.false_eq_true, lk, isTy, fIsi, fIsi2, kindOf, wipeE, decide_true, decide_false, Int.reduceEq, Int.reduceLT, Int.reduceLE, Int.reduceSub, Int.reduceAdd, Int.reduceNeg, Int.reduceToNat, Int.reduceNe, Nat.reduceAdd, Nat.reduceLT, Nat.reduceLeDiff, String.reduceEq, String.reduceBEq]
  rw [ofOut, st2_put]
  exact trunc_ok ls.set (by simp)
theorem frz_rows : ∀ (rows : List (List Int)) (A C : Sto), frzItems (celR A.length rows.length) (A ++ rows.map rowC ++ C) = some (rows.map rwD, A ++ List.replicate rows.length .dead ++ C)
  | [], A, C => by simp [frzItems, celR]
  | r :: rows, A, C => by
    have ih := frz_rows rows (A ++ [.dead]) C
    have h0 : (A ++ (r :: rows).map rowC ++ C)[A.length]? = some (.lst (r.map PH.D.int)) := by
      rw [List.append_assoc, List.getElem?_append_right (Nat.le_refl _), Nat.sub_self]
      rfl
    have hk : (A ++ (r :: rows).map rowC ++ C).set A.length .dead = A ++ [.dead] ++ rows.map rowC ++ C := by
      rw [List.append_assoc, List.set_append_right _ _ (Nat.le_refl _), Nat.sub_self]
      simp
    rw [List.length_append, List.length_singleton] at ih
    rw [List.length_cons, celR_succ, frzItems, h0]
    dsimp only
    rw [hk, ih]
    simp [List.replicate_succ]
theorem lvS_set {A : Sto} {rows : List (List Int)} {k : Nat} {r : List Int} (hk : k < rows.length) : (lvS A rows).set (A.length + k) (rowC r) = lvS A (rows.set k r) := by
  unfold lvS
  rw [List.append_assoc, List.set_append_right _ _ (by omega), show A.length + k - A.length = k by omega, List.set_append_left _ _ (by simpa using hk), List.map_set, List.length_set, List.append_assoc]
theorem frzW_lv {A : Sto} {rows : List (List Int)} {ρ : Ev} {k : Nat} (h : lk ρ k = some (.cel (A.length + rows.length))) : mFrzW k ρ (lvS A rows) = .next (ρ.set k (some (.dat (rsD rows)))) (A ++ List.replicate rows.length .dead ++ [.dead]) := by
  have L := lvS_at A rows
  have hk : (lvS A rows).set (A.length + rows.length) .dead = A ++ rows.map rowC ++ [.dead] := by
    unfold lvS
    rw [List.set_append_right _ _ (by simp)]
    simp
  exact g_frzW h L.lst (by rw [hk]; exact frz_rows rows A [.dead])
theorem ls_dead {A : Sto} {n : Nat} (h : LS A) : LS (A ++ List.replicate n .dead ++ [.dead]) := fun c hc m => by
  simp only [List.mem_append, List.mem_singleton] at hc
  rcases hc with (hc | hc) | hc
  · exact h c hc m
  · rw [List.eq_of_mem_replicate hc]; rfl
  · rw [hc]; rfl
/-- behind the third list: where the cells stand -/
theorem fEq_bl {a b : Bool} {S : Sto} : fEq (.dat (.bl a)) (.dat (.bl b)) S = .ok (.dat (.bl (a == b))) S := by
  cases a <;> cases b <;> rfl
theorem thinc2 {T : Sto} {p : Nat} {ks : List Int} (hP : PoolAt T p ks) : ∃ (r ks' : List Int), m_L_thin_matrix_c [.cel p] T = .ok (.cel T.length) (st2 T p ks' (rowC r)) ∧ Rw 5 r ∧ ks'.length = ks.length := by
  have hp : p < T.length := (List.getElem?_eq_some_iff.mp hP.1).1
  have hk := hP.2
  have q0 : T ++ [Cell.lst ((List.replicate 49 (0 : Int)).map PH.D.int)] = st2 T p ks (.lst ((List.replicate 49 (0 : Int)).map PH.D.int)) := by
    unfold st2
    rw [pool_same hP]
  obtain ⟨d, k1, e1, a1, a2, l1⟩ := dr2 (S := T) (c := .lst ((List.replicate 49 (0 : Int)).map PH.D.int)) (k := 3) hp hk (by decide) (by decide)
  obtain ⟨n, hn, hn2⟩ : ∃ n : Nat, (1 : Int) + d = (n : Int) ∧ n ≤ 3 := ⟨(1 + d).toNat, by omega, by omega⟩
  obtain ⟨k2, xs, e2, g1, g2, g3⟩ := thin_loop (S := T) (a4 := none) hp n 0 k1 (List.replicate 49 0) 0 (by omega) (by simp) (fun x hx => by rw [List.eq_of_mem_replicate hx]; simp)
  have e2' : loop (.nm 2) w_L_thin_matrix_c_1 (rngD 0 n) [some (.cel p), some (.cel T.length), none, none, none] (st2 T p k1 (.lst ((List.replicate 49 (0 : Int)).map PH.D.int))) = .next [some (.cel p), some (.cel T.length), none, none, none] (st2 T p k2 (.lst (xs.map PH.D.int))) := e2
  refine ⟨xs, k2, ?_, ⟨g1, mb_bd g2 (by omega)⟩, by omega⟩
  rw [E_L_thin_matrix_c]
  unfold b_L_thin_matrix_c
  have ez : kLc true (.nm 4) mYes (mC (.int 0)) [some (.cel p), none, none, none, none] [4] (rngD 0 49) T = .ok (.cel T.length) (st2 T p ks (.lst ((List.replicate 49 (0 : Int)).map PH.D.int))) := by
    rw [zeros_ok fun i => ⟨_, rfl, rfl⟩, ← q0]
    rfl
  have er : kRng1 (.dat (.int (n : Int))) (st2 T p k1 (.lst ((List.replicate 49 (0 : Int)).map PH.D.int))) = .ok (rngD 0 n) (st2 T p k1 (.lst ((List.replicate 49 (0 : Int)).map PH.D.int))) := by
    rw [g_kRng1 (by omega) (by omega)]
    simp
  simp (config := { implicitDefEqProofs := false }) only [rng49, ez, e1, hn, er, e2', EV0, EV1, EV2, List.set_cons_zero, List.set_cons_succ, Bool.not_true, Bool.not_false, eq_self, if_true, if_false, Bool.true_or, Bool.false_or, Bool.or_true, Bool.or_false, Bool.and_true, Bool.true_and, Bool.and_false, Bool.false_and, List.set_set, List.length_cons, List.length_nil, beq_self_eq_true, Bool.false_eq_true, lk, isTy, fIsi, fIsi2, kindOf, wipeE, decide_true, decide_false, Int.reduceEq, Int.reduceLT, Int.reduceLE, Int.reduceSub, Int.reduceAdd, Int.reduceNeg, Int.reduceToNat, Int.reduceNe, Nat.reduceAdd, Nat.reduceLT, Nat.reduceLeDiff, String.reduceEq, String.reduceBEq]
  rfl
/-- the law's end -/
theorem k27_end {ks : List Int} {A : Sto} {rows third : List (List Int)} {a0 a3 a5 a7 a8 : Option Vl} (ls : LS A) (hr : ∀ r ∈ rows, Rw 185 r) (hl : rows.length ≤ 6) (ht : ∀ r ∈ third, Rw 186 r) (lt : third.length ≤ 6) :
    trunc 0 (ofOut (r_law_k27_1 [a0, some (.cel 0), some (.dat (rsD rows)), a3, some (.dat (spcD (LA.spaceL rows))), a5, some (.cel (A.length + third.length)), a7, a8, none, none, none] (lvS A third))) = .ok (.dat (.bl true)) [] := by
  have l49 : ∀ r ∈ rows, r.length = 49 := fun r h => (hr r h).1
  have t49 : ∀ r ∈ third, r.length = 49 := fun r h => (ht r h).1
  have hr' : ∀ r ∈ rows, Rw 186 r := fun r h => (hr r h).mono (by omega)
  have both : ∀ r ∈ rows ++ third, Rw 186 r := fun r h => (List.mem_append.mp h).elim (hr' r) (ht r)
  have fz := frzW_lv (A := A) (rows := third) (k := 6) (ρ := [a0, some (.cel 0), some (.dat (rsD rows)), a3, some (.dat (spcD (LA.spaceL rows))), a5, some (.cel (A.length + third.length)), a7, a8, none, none, none]) rfl
  generalize hS : A ++ List.replicate third.length Cell.dead ++ [Cell.dead] = S at fz
  have lsS : LS S := by rw [← hS]; exact ls_dead ls
  have cp := copies_ok' (rows := third) (S := S) (by omega)
  have em := smake_ok (b := 186) (m := 6) (S := S) lsS (by omega) (by omega) ⟨t49, fun r h => (ht r h).2, lt⟩
  have u1 := span_ok (R := 186) (N := 11968) (m := 6) (rows := rows) (S := S) (by omega) (by decide) (by omega) hr' (by omega)
  have u2 := span_ok (R := 186) (N := 11968) (m := 6) (rows := third) (S := S) (by omega) (by decide) (by omega) ht (by omega)
  have u3 := span_ok (R := 186) (N := 382976) (m := 11) (rows := rows ++ third) (S := S) (by omega) (by decide) (by omega) both (by simp; omega)
  have z1 := LA.span_len l49
  have z2 := LA.span_len t49
  have z3 := LA.span_len fun r h => (both r h).1
  have ea : fAdd false (.dat (rsD rows)) (.dat (rsD third)) S = .ok (.dat (rsD (rows ++ third))) S := by
    rw [g_addL (by rw [List.length_map, List.length_map]; exact sz (by omega)), show rsD (rows ++ third) = .lst (rows.map rwD ++ third.map rwD) by simp]
    rfl
  have n1 : (LA.spaceL rows).length ≤ 6 := Nat.le_trans (LA.spaceL_len rows [] .nil l49) (by simpa using hl)
  have n2 : (LA.spaceL third).length ≤ 6 := Nat.le_trans (LA.spaceL_len third [] .nil t49) (by simpa using lt)
  have c1 := (LA.space_ok l49).1.len
  have c2 := (LA.space_ok t49).1.len
  have q1 : fEqO "Space" m_Space_eq (.dat (spcD (LA.spaceL rows))) (.dat (spcD (LA.spaceL third))) S = .ok (.dat (.bl (decide (LA.spaceL rows = LA.spaceL third)))) S := by
    unfold fEqO
    rw [if_pos ⟨isins_sp, isins_sp⟩, seq_ok (by omega) (by omega) c1 c2]
    rfl
  have q2 : fEqO "Space" m_Space_eq (.dat (spcD (LA.spaceL third))) (.dat (spcD (LA.spaceL rows))) S = .ok (.dat (.bl (decide (LA.spaceL third = LA.spaceL rows)))) S := by
    unfold fEqO
    rw [if_pos ⟨isins_sp, isins_sp⟩, seq_ok (by omega) (by omega) c2 c1]
    rfl
  have q3 := sne2_ok (S := S) (A := LA.spaceL rows) (B := LA.spaceL third) (by omega) (by omega) c1 c2
  have key := dim_iff l49 t49
  have sym : (LA.spaceL third = LA.spaceL rows) ↔ (LA.spaceL rows = LA.spaceL third) := eq_comm
  unfold r_law_k27_1
  by_cases h1 : (LA.spaceL third).length = (LA.spaceL rows).length
  · by_cases h2 : (LA.spaceL (rows ++ third)).length = (LA.spaceL rows).length
    · have e := key.mpr ⟨h1, h2⟩
      have d1 : ((LA.spaceL third).length : Int) = ((LA.spaceL rows).length : Int) := by omega
      have d2 : ((LA.spaceL (rows ++ third)).length : Int) = ((LA.spaceL rows).length : Int) := by omega
      simp (config := { implicitDefEqProofs := false }) only [fz, cp, em, u1, u2, u3, ea, List.length_map, z1, z2, z3, decide_eq_true d1, decide_eq_true d2, q1, q2, q3, decide_eq_true e, decide_eq_true e.symm, fEq_bl, EV0, EV1, EV2, List.set_cons_zero, List.set_cons_succ, Bool.not_true, Bool.not_false, eq_self, if_true, if_false, Bool.true_or, Bool.false_or, Bool.or_true, Bool.or_false, Bool.and_true, Bool.true_and, Bool.and_false, Bool.false_and, List.set_set, List.length_cons, List.length_nil, beq_self_eq_true, Bool.false_eq_true, lk, isTy, fIsi, fIsi2, kindOf, wipeE, decide_true, decide_false, Int.reduceEq, Int.reduceLT, Int.reduceLE, Int.reduceSub, Int.reduceAdd, Int.reduceNeg, Int.reduceToNat, Int.reduceNe, Nat.reduceAdd, Nat.reduceLT, Nat.reduceLeDiff, String.reduceEq, String.reduceBEq]
      rw [ofOut]
      exact trunc0
    · have e : ¬ LA.spaceL rows = LA.spaceL third := fun e => h2 (key.mp e).2
      have e' : ¬ LA.spaceL third = LA.spaceL rows := fun z => e z.symm
      have d1 : ((LA.spaceL third).length : Int) = ((LA.spaceL rows).length : Int) := by omega
      have d2 : ¬ ((LA.spaceL (rows ++ third)).length : Int) = ((LA.spaceL rows).length : Int) := by omega
      simp (config := { implicitDefEqProofs := false }) only [fz, cp, em, u1, u2, u3, ea, List.length_map, z1, z2, z3, decide_eq_true d1, decide_eq_false d2, q1, q2, q3, decide_eq_false e, decide_eq_false e', fEq_bl, EV0, EV1, EV2, List.set_cons_zero, List.set_cons_succ, Bool.not_true, Bool.not_false, eq_self, if_true, if_false, Bool.true_or, Bool.false_or, Bool.or_true, Bool.or_false, Bool.and_true, Bool.true_and, Bool.and_false, Bool.false_and, List.set_set, List.length_cons, List.length_nil, beq_self_eq_true, Bool.false_eq_true, lk, isTy, fIsi, fIsi2, kindOf, wipeE, decide_true, decide_false, Int.reduceEq, Int.reduceLT, Int.reduceLE, Int.reduceSub, Int.reduceAdd, Int.reduceNeg, Int.reduceToNat, Int.reduceNe, Nat.reduceAdd, Nat.reduceLT, Nat.reduceLeDiff, String.reduceEq, String.reduceBEq]
      rw [ofOut]
      exact trunc0
  · have e : ¬ LA.spaceL rows = LA.spaceL third := fun e => h1 (key.mp e).1
    have e' : ¬ LA.spaceL third = LA.spaceL rows := fun z => e z.symm
    have d1 : ¬ ((LA.spaceL third).length : Int) = ((LA.spaceL rows).length : Int) := by omega
    simp (config := { implicitDefEqProofs := false }) only [fz, cp, em, u1, u2, u3, ea, List.length_map, z1, z2, z3, decide_eq_false d1, q1, q2, q3, decide_eq_false e, decide_eq_false e', fEq_bl, EV0, EV1, EV2, List.set_cons_zero, List.set_cons_succ, Bool.not_true, Bool.not_false, eq_self, if_true, if_false, Bool.true_or, Bool.false_or, Bool.or_true, Bool.or_false, Bool.and_true, Bool.true_and, Bool.and_false, Bool.false_and, List.set_set, List.length_cons, List.length_nil, beq_self_eq_true, Bool.false_eq_true, lk, isTy, fIsi, fIsi2, kindOf, wipeE, decide_true, decide_false, Int.reduceEq, Int.reduceLT, Int.reduceLE, Int.reduceSub, Int.reduceAdd, Int.reduceNeg, Int.reduceToNat, Int.reduceNe, Nat.reduceAdd, Nat.reduceLT, Nat.reduceLeDiff, String.reduceEq, String.reduceBEq]
    rw [ofOut]
    exact trunc0
theorem set_rw {r : List Int} {i : Nat} {d : Int} (h : Rw 185 r) (h0 : 0 ≤ d) (h1 : d < 3) : Rw 186 (r.set i (LA.fn r i + d - 1)) := by
  refine ⟨by rw [List.length_set]; exact h.1, fun x hx => ?_⟩
  have b := LA.fn_bd h.2 i
  have e : (2 : Nat) ^ 186 = 2 ^ 185 + 2 ^ 185 := by decide +kernel
  have e2 : (2 : Nat) ≤ 2 ^ 185 := by decide +kernel
  rcases List.mem_or_eq_of_mem_set hx with hx | rfl
  · have := h.2 x hx
    omega
  · omega
theorem law_true_k27 : ∀ ns : List Int, ns.length ≤ 63 → ∃ S, m_law_k27 [.scr ns] [] = .ok (.dat (.bl true)) S := by
  intro ns hn
  obtain ⟨k0, e0, h0⟩ := pool_ok (S := []) hn
  have e0' : m_L_pool [.scr ns] [] = .ok (.cel 0) [.lst (k0.map PH.D.int)] := e0
  obtain ⟨rows, k1, e1, hr, hl, l1⟩ := rows_ok (most := 6) (pool_one h0) ls_one flat_one (by omega)
  have e1' : m_L_rows [.cel 0, .dat (.int 6)] [.lst (k0.map PH.D.int)] = .ok (.dat (rsD rows)) [.lst (k1.map PH.D.int)] := e1
  have hk1 : 2 ≤ k1.length := by omega
  obtain ⟨other, k2, e2, ho, lo, hk2, hs⟩ := other_ok (pool_one hk1) ls_one hr hl
  have e2' : m_L_other_rows [.cel 0, .dat (rsD rows)] [.lst (k1.map PH.D.int)] = .ok (.dat (rsD other)) [.lst (k2.map PH.D.int)] := e2
  have l49 : ∀ r ∈ rows, r.length = 49 := fun r h => (hr r h).1
  have o49 : ∀ r ∈ other, r.length = 49 := fun r h => (ho r h).1
  have ls : LS [.lst (k2.map PH.D.int)] := ls_one
  have cp1 := copies_ok' (rows := rows) (S := [.lst (k2.map PH.D.int)]) (by omega)
  have cp2 := copies_ok' (rows := other) (S := [.lst (k2.map PH.D.int)]) (by omega)
  have em1 := smake_ok (b := 185) (m := 6) (S := [.lst (k2.map PH.D.int)]) ls (by omega) (by omega) ⟨l49, fun r h => (hr r h).2, hl⟩
  have em2 := smake_ok (b := 216) (m := 8) (S := [.lst (k2.map PH.D.int)]) ls (by omega) (by omega) ⟨o49, fun r h => (ho r h).2, lo⟩
  have q : LA.spaceL other = LA.spaceL rows := LA.space_uniq (n := 49) o49 l49 hs
  rw [q] at em2
  have nA : (LA.spaceL rows).length ≤ 6 := Nat.le_trans (LA.spaceL_len rows [] .nil l49) (by simpa using hl)
  have cA := (LA.space_ok l49).1.len
  have n1 : fNeO "Space" m_Space_eq (.dat (spcD (LA.spaceL rows))) (.dat (spcD (LA.spaceL rows))) [.lst (k2.map PH.D.int)] = .ok (.dat (.bl false)) [.lst (k2.map PH.D.int)] := by
    rw [sne2_ok (by omega) (by omega) cA cA]
    simp
  have n2 : fEqO "Space" m_Space_eq (.dat (spcD (LA.spaceL rows))) (.dat (spcD (LA.spaceL rows))) [.lst (k2.map PH.D.int)] = .ok (.dat (.bl true)) [.lst (k2.map PH.D.int)] := by
    unfold fEqO
    rw [if_pos ⟨isins_sp, isins_sp⟩, seq_ok (by omega) (by omega) cA cA]
    simp [boolR]
  have n3 := fNe_rows (A := LA.spaceL rows) (B := LA.spaceL rows) (S := [.lst (k2.map PH.D.int)]) (by omega) (by omega) (fun r h => by rw [cA r h]; omega) fun r h => by rw [cA r h]; omega
  have w1 := srows_ok (B := LA.spaceL rows) (S := [.lst (k2.map PH.D.int)]) (by omega)
  have z1 := slen_ok (B := LA.spaceL rows) (S := [.lst (k2.map PH.D.int)]) (by omega)
  have i1 : ∀ {B : List (List Int)} {S : Sto}, isIns S "Space" "rows" (.dat (spcD B)) = true := by intro B S; simp [isIns, spcD, str_eq]
  have e3 := copiesW_ok (rows := rows) (S := [.lst (k2.map PH.D.int)]) (by omega)
  have L1 := lvS_at [.lst (k2.map PH.D.int)] rows
  have cl0 : (celR [Cell.lst (k2.map PH.D.int)].length rows.length).length = rows.length := by simp [celR]
  have hp0 : ∀ ks : List Int, (lvS [.lst (ks.map PH.D.int)] rows)[0]? = some (PL ks) := fun ks => rfl
  have hset : ∀ ks k3 : List Int, (lvS [.lst (ks.map PH.D.int)] rows).set 0 (PL k3) = lvS [.lst (k3.map PH.D.int)] rows := fun ks k3 => rfl
  refine ⟨[], ?_⟩
  rw [E_law_k27]
  unfold b_law_k27 r_law_k27_2
  cases hrows : rows with
  | nil =>
    subst hrows
    obtain ⟨r, k3, e5, h5, l5⟩ := thinc2 (T := lvS [.lst (k2.map PH.D.int)] []) (p := 0) ⟨hp0 k2, hk2⟩
    have hst : st2 (lvS [.lst (k2.map PH.D.int)] []) 0 k3 (rowC r) ++ [.lv [.cel (lvS [.lst (k2.map PH.D.int)] []).length]] = lvS [.lst (k3.map PH.D.int), .lv []] [r] := rfl
    have en := k27_end (ks := k3) (A := [.lst (k3.map PH.D.int), .lv []]) (rows := []) (third := [r]) (a0 := some (.scr ns)) (a3 := some (.dat (rsD other))) (a5 := some (.dat (spcD (LA.spaceL [])))) (a7 := none) (a8 := none) (fun c hc n => by
      rcases List.mem_cons.mp hc with rfl | hc
      · rfl
      · rw [List.mem_singleton.mp hc]; rfl) hr hl (fun x hx => by rw [List.mem_singleton.mp hx]; exact h5.mono (by omega)) (by simp)
    have e5' : m_L_thin_matrix_c [.cel 0] (lvS [.lst (k2.map PH.D.int)] []) = .ok (.cel 2) (st2 (lvS [.lst (k2.map PH.D.int)] []) 0 k3 (rowC r)) := e5
    have el : (st2 (lvS [.lst (k2.map PH.D.int)] []) 0 k3 (rowC r)).length = 3 := rfl
    have L1' : (lvS [.lst (k2.map PH.D.int)] [])[1]? = some (.lv []) := rfl
    have e3' : m_L_row_copies_w [.dat (rsD [])] [.lst (k2.map PH.D.int)] = .ok (.cel 1) (lvS [.lst (k2.map PH.D.int)] []) := e3
    simp (config := { implicitDefEqProofs := false }) only [e0', e1', e2', cp1, cp2, em1, em2, n1, n2, n3, g_kMeth i1, w1, z1, e3', g_lenV L1', EVV, e5', el, EV0, EV1, EV2, List.set_cons_zero, List.set_cons_succ, Bool.not_true, Bool.not_false, eq_self, if_true, if_false, Bool.true_or, Bool.false_or, Bool.or_true, Bool.or_false, Bool.and_true, Bool.true_and, Bool.and_false, Bool.false_and, List.set_set, List.length_cons, List.length_nil, beq_self_eq_true, Bool.false_eq_true, lk, isTy, fIsi, fIsi2, kindOf, wipeE, decide_true, decide_false, Int.reduceEq, Int.reduceLT, Int.reduceLE, Int.reduceSub, Int.reduceAdd, Int.reduceNeg, Int.reduceToNat, Int.reduceNe, Nat.reduceAdd, Nat.reduceLT, Nat.reduceLeDiff, String.reduceEq, String.reduceBEq]
    exact en
  | cons r0 rest =>
    have hpos : 0 < rows.length := by rw [hrows]; simp
    obtain ⟨d, k3, e4, d0, d1, l3⟩ := draw_ok (S := lvS [.lst (k2.map PH.D.int)] rows) (p := 0) ⟨hp0 k2, hk2⟩ (k := (rows.length : Int)) (by omega) (by omega)
    rw [hset k2 k3] at e4
    obtain ⟨j, rfl⟩ : ∃ j : Nat, d = (j : Int) := ⟨d.toNat, by omega⟩
    have hj : j < rows.length := by omega
    have hk3 : 2 ≤ k3.length := by omega
    obtain ⟨t, k4, e5, t0, t1, l4⟩ := draw_ok (S := lvS [.lst (k3.map PH.D.int)] rows) (p := 0) ⟨hp0 k3, hk3⟩ (k := 49) (by omega) (by omega)
    rw [hset k3 k4] at e5
    obtain ⟨i, rfl⟩ : ∃ i : Nat, t = (i : Int) := ⟨t.toNat, by omega⟩
    have hk4 : 2 ≤ k4.length := by omega
    obtain ⟨u, k5, e6, u0, u1, l5⟩ := draw_ok (S := lvS [.lst (k4.map PH.D.int)] rows) (p := 0) ⟨hp0 k4, hk4⟩ (k := 3) (by omega) (by omega)
    rw [hset k4 k5] at e6
    have hrj := hr _ (List.getElem_mem hj)
    have L3 := lvS_at [.lst (k3.map PH.D.int)] rows
    have L4 := lvS_at [.lst (k4.map PH.D.int)] rows
    have L5 := lvS_at [.lst (k5.map PH.D.int)] rows
    have ix1 : fIxV (.cel (1 + rows.length)) (.dat (.int (j : Int))) (lvS [.lst (k3.map PH.D.int)] rows) = .ok (.cel (1 + j)) (lvS [.lst (k3.map PH.D.int)] rows) := g_ixV L3.lst (atI_nat (celR_at hj))
    have ix2 : fIx (.cel (1 + j)) (.dat (.int (i : Int))) (lvS [.lst (k4.map PH.D.int)] rows) = .ok (.dat (.int (LA.fn rows[j] i))) (lvS [.lst (k4.map PH.D.int)] rows) := ix_cel (L4.row j hj) (by rw [hrj.1]; omega)
    have st : setC (.cel (1 + j)) (i : Int) (.int (LA.fn rows[j] i + u - 1)) (lvS [.lst (k5.map PH.D.int)] rows) = some (lvS [.lst (k5.map PH.D.int)] (rows.set j (rows[j].set i (LA.fn rows[j] i + u - 1)))) := by
      have e : setC (.cel (1 + j)) (i : Int) (.int (LA.fn rows[j] i + u - 1)) (lvS [.lst (k5.map PH.D.int)] rows) = some ((lvS [.lst (k5.map PH.D.int)] rows).set (1 + j) (.lst ((rows[j].set i (LA.fn rows[j] i + u - 1)).map PH.D.int))) := setC_int (ks := rows[j]) (L5.row j hj) (rfl : (i : Int) = (i : Int)) (by rw [hrj.1]; omega)
      rw [e]
      exact congrArg some (lvS_set (A := [.lst (k5.map PH.D.int)]) hj)
    have es : mSetI (mOp fSub (mOp (fAdd false) (mOp fIx (mVar 7) (mVar 8)) (mCall m_L_draw (mCons (mVar 1) (mCons (mC (.int 3)) mNil)))) (mC (.int 1))) (mVar 7) (mVar 8) [some (.scr ns), some (.cel 0), some (.dat (rsD rows)), some (.dat (rsD other)), some (.dat (spcD (LA.spaceL rows))), some (.dat (spcD (LA.spaceL rows))), some (.cel (1 + rows.length)), some (.cel (1 + j)), some (.dat (.int (i : Int))), none, none, none] (lvS [.lst (k4.map PH.D.int)] rows) = .next [some (.scr ns), some (.cel 0), some (.dat (rsD rows)), some (.dat (rsD other)), some (.dat (spcD (LA.spaceL rows))), some (.dat (spcD (LA.spaceL rows))), some (.cel (1 + rows.length)), some (.cel (1 + j)), some (.dat (.int (i : Int))), none, none, none] (lvS [.lst (k5.map PH.D.int)] (rows.set j (rows[j].set i (LA.fn rows[j] i + u - 1)))) := by
      unfold mSetI
      simp (config := { implicitDefEqProofs := false }) only [ix2, e6, st, EV0, EV1, EV2, List.set_cons_zero, List.set_cons_succ, Bool.not_true, Bool.not_false, eq_self, if_true, if_false, Bool.true_or, Bool.false_or, Bool.or_true, Bool.or_false, Bool.and_true, Bool.true_and, Bool.and_false, Bool.false_and, List.set_set, List.length_cons, List.length_nil, beq_self_eq_true, Bool.false_eq_true, lk, isTy, fIsi, fIsi2, kindOf, wipeE, decide_true, decide_false, Int.reduceEq, Int.reduceLT, Int.reduceLE, Int.reduceSub, Int.reduceAdd, Int.reduceNeg, Int.reduceToNat, Int.reduceNe, Nat.reduceAdd, Nat.reduceLT, Nat.reduceLeDiff, String.reduceEq, String.reduceBEq]
    have en := k27_end (ks := k5) (A := [.lst (k5.map PH.D.int)]) (rows := rows) (third := rows.set j (rows[j].set i (LA.fn rows[j] i + u - 1))) (a0 := some (.scr ns)) (a3 := some (.dat (rsD other))) (a5 := some (.dat (spcD (LA.spaceL rows)))) (a7 := some (.cel (1 + j))) (a8 := some (.dat (.int (i : Int)))) ls_one hr hl (fun x hx => by
      rcases List.mem_or_eq_of_mem_set hx with hx | rfl
      · exact (hr x hx).mono (by omega)
      · exact set_rw hrj u0 u1) (by rw [List.length_set]; exact hl)
    rw [List.length_set] at en
    have e3' : m_L_row_copies_w [.dat (rsD rows)] [.lst (k2.map PH.D.int)] = .ok (.cel (1 + rows.length)) (lvS [.lst (k2.map PH.D.int)] rows) := e3
    have lv2 : fLenV (.cel (1 + rows.length)) (lvS [.lst (k2.map PH.D.int)] rows) = .ok (.dat (.int (rows.length : Int))) (lvS [.lst (k2.map PH.D.int)] rows) := by
      have e : fLenV (.cel (1 + rows.length)) (lvS [.lst (k2.map PH.D.int)] rows) = .ok (.dat (.int ((celR [Cell.lst (k2.map PH.D.int)].length rows.length).length : Int))) (lvS [.lst (k2.map PH.D.int)] rows) := g_lenV L1.lst
      rw [e, cl0]
    simp (config := { implicitDefEqProofs := false }) only [e0', e1', e2', cp1, cp2, em1, em2, n1, n2, n3, g_kMeth i1, w1, z1, e3', lv2, decide_eq_true (show (0 : Int) < (rows.length : Int) by omega), e4, ix1, e5, es, EV0, EV1, EV2, List.set_cons_zero, List.set_cons_succ, Bool.not_true, Bool.not_false, eq_self, if_true, if_false, Bool.true_or, Bool.false_or, Bool.or_true, Bool.or_false, Bool.and_true, Bool.true_and, Bool.and_false, Bool.false_and, List.set_set, List.length_cons, List.length_nil, beq_self_eq_true, Bool.false_eq_true, lk, isTy, fIsi, fIsi2, kindOf, wipeE, decide_true, decide_false, Int.reduceEq, Int.reduceLT, Int.reduceLE, Int.reduceSub, Int.reduceAdd, Int.reduceNeg, Int.reduceToNat, Int.reduceNe, Nat.reduceAdd, Nat.reduceLT, Nat.reduceLeDiff, String.reduceEq, String.reduceBEq]
    exact en
end PH

open PySem PySem.W PySem.Calls PyProof.Rows
set_option maxHeartbeats 0 in
theorem PySem.Challenge.cw_penhome_k27_equal_spaces_holds : PySem.Challenge.rw_penhome_k27_equal_spaces.Holds := by
  w_on; o_law
  refine HandSHeadRun.head_any (r := OpenLaw.row PySem.Challenge.rw_penhome_k27_equal_spaces) (q := view (OpenLaw.row PySem.Challenge.rw_penhome_k27_equal_spaces).prog [36]) (H := PHZ.hk) (ob := PHZ.ob) (M := 8000) (loose := PHZ.loose) (d := HandSHeadRun.topDef (OpenLaw.row PySem.Challenge.rw_penhome_k27_equal_spaces).prog 36) (kwd := []) PHZ.ob_eq
    (by kernel_rfl) (fun s => by kernel_rfl) PHZ.run_ (by kernel_rfl) (by kernel_rfl) (by kernel_rfl) (by rfl) (by first | assumption | decide +kernel) (by decide +kernel) ⟨rfl, rfl, rfl, rfl, rfl, by decide +kernel⟩ ?hw ?hc
  case hw => w_witness2
  case hc =>
    refine PH.walk_x (l := PySem.Challenge.rw_penhome_k27_equal_spaces) (n := 63) (k := 40) (x := "_law_script") rfl (by decide) (by kernel_rfl) ⟨rfl, by decide, by decide⟩ ?F
    intro w mg fa h Y G hmg0
    obtain ⟨K, KX, c⟩ := Y
    have hmg : mg ("law" : PySem.Str) = some (.ref fa) := by
      have e : (HandSHeadRun.topDef (OpenLaw.row PySem.Challenge.rw_penhome_k27_equal_spaces).prog 36).name = ("law" : PySem.Str) := by kernel_rfl
      rw [← e]
      exact hmg0
    have T := PHZ.txt (P := (PySem.Challenge.rw_penhome_k27_equal_spaces).prog) ⟨rfl⟩ (w := w) KX G c
    have e := hmg.symm.trans T.G_law_k27
    cases e
    obtain ⟨fd, b, F⟩ := PHZ.law_fn (P := (PySem.Challenge.rw_penhome_k27_equal_spaces).prog) T
    exact ⟨K, fd, PH.spF K PH.m_law_k27, KX, fun s v => b s [v] rfl, fun H a ns hl hO hS => PH.law_start PH.law_true_k27 H a ns hl hO hS, fun base _ _ => F base⟩

