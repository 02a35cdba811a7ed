import PyProof.Rows.All
import Wide.All
import OpenK.AllK
import Wide.FinOn
import KE.KStateDown
import Lean
import HandS.ForMost
import HandS.ForExc
import HandS.More
import HandS.Flow
import HandS.IsInst
import HandS.Defaults
import HandS.Head0
import HandS.Head1
import HandS.Head2
import HandS.HeadEnd
import HandS.HeadHook1
import HandS.HeadHook2
import HandS.HeadHook3
import HandS.TupAny
import HandS.Star
import HandS.Wide
import HandS.Zip
import HandS.Rev
import HandS.TryMany
import HandS.Small
import HandS.RaiseMore
import HandS.OwnEq
import HandS.Walk
import HandS.Deep
import HandS.ExcInit
import HandS.ExcField
import HandS.RevRange
import HandS.SortInts
import KE.GoesMore
import HandS.CallSlots
import PyProof.Rows.NestShow
import HandS.Dict
import HandS.Style
import HandS.Text
import HandS.FStr
import HandS.StrMore
import HandS.SetFor
import PyProof.InstNe
import HandS.ReplaceLit
import KE.SortKeyHeap
import HandS.ExcValue
import HandS.SortKw
import HandS.SetKeys
import HandS.WordsDict
import HandS.Conv
import HandS.DictComp
import HandS.Iter
import HandS.TupLen
import HandS.GenList
import HandS.IterNext
import HandS.DictSub
import HandS.GenOver
import HandS.ExcInitHot
import KE.KExcIs
import PyProof.EqKinds
import PyProof.FactsAll.dict
import PyProof.P3In
import HandS.Property
import HandS.MakeKwOnly
import KE.KCallOwn
import HandS.ExcIs
import HandS.HeadNt
import PyProof.ReprLen
import PyProof.StrLawsRepr
import PySem.Challenge.RW_penhome_k97_refused_by_a_live_pen
set_option Elab.async false
set_option linter.all false
set_option maxRecDepth 100000
set_option maxHeartbeats 4000000
open PySem.W renaming Frag → aD, findIn → cQ, fnOf → dP, nsIn → jB, keepIn → lF, typeIn → lG, view → lH, kitOne → oW, subIn → qS, noSeq → qT, specialIn → zG, hasDictIn → zH, selfFirst → zI, fnIn → zJ, takesIn → BA, SharedT → BB, exmOne → CL, InstAt → CN, clsIn → Dk, methodCall_KW → GQ, callWith_K0 → HX, callWith_KW → HY, plainGet_of → HZ, callWith_K → Ib, boot_heap → Jt, openGood → Jz
open And renaming intro → aF
open List renaming getElem?_eq_some_iff → aJ, getElem?_set → aQ, getElem?_append_left → aT, mem_cons_of_mem → aU, range → aV, map_cons → bA, length_cons → bB, length_map → bC, mem_cons_self → bD, getD_eq_getElem?_getD → bE, all_eq_true → bI, set_cons_zero → bM, replicate → bR, getElem?_map → cC, set_cons_succ → cE, map_nil → cJ, length_append → cK, getElem?_append_right → cM, set_set → cP, mem_cons → cS, getElem?_eq_getElem → cU, append_nil → cZ, length_nil → dQ, mem_range → eI, map_append → eO, length_set → eP, map_congr_left → eW, map_map → fE, all_cons → fF, length_take → fG, lookup_cons → fH, getElem?_take → fK, mem_of_getElem? → fY, mem_singleton → hX, mem_append → hZ, range' → jD, getElem_mem → jJ, cons_append → jK, length_drop → jL, not_mem_nil → jM, nil_append → kI, ext_getElem? → lT, set_append_right → nD, mem_of_mem_take → oF, mem_or_eq_of_mem_set → rS, mem_map → uR, all_nil → uS, mem_of_mem_drop → wW, getElem?_range → zF, zip_cons_cons → AG, mem_filterMap → AH, map_id → CO, drop_eq_getElem_cons → F2, range_succ_eq_map → Ha, dropLast_eq_take → Ia, getElem?_eq_none → Ic, set_getElem_self → Ie, forall_mem_cons → Ju, dropLast_concat → Jv, set_append_left → Jw, replicate_succ → K0
open Bool renaming and_eq_true → cA, and_true → nP, true_and → zK, and_self → zL, and_false → Ey
open Nat renaming le_refl → cN, zero_le → hW, zero_add → qA, le_of_not_lt → tO, le_trans → BC, lt_succ_self → CM
open Int renaming emod_lt_of_pos → fM, emod_nonneg → fZ, toNat_natCast → mK
open Or renaming inr → tN, inl → zE
namespace PH
open PySem PySem.Spec PyProof.Rows L2
abbrev veL : List Value := [.type "ValueError", .type "Exception", .type "BaseException", .type "object"]
def xcB (K : aD) (x : Str) : Bool := PySem.W.excIn K (He.ga K x) veL "ValueError.__new__" && (lF K (.ref (He.ga K x)) && (decide (qS K (.ref (He.ga K x)) (.type "BaseException") = some true) && decide (lG K (.ref (He.ga K x)) = some (.type "type"))))
def gV : Stmt -> List Stmt
 | .ClassDef _ _ _ b _ _ _ _ _ _ _ => b
 | _ => []
def limits : List (Str × Nat × Int × Int) := [("go", 1, -9, 9), ("turn", 1, 1, 3), ("mirror", 0, 0, 0), ("scale", 1, -3, 3), ("aim", 2, -9, 9), ("place", 2, -9, 9), ("mark", 0, 0, 0), ("return", 0, 0, 0), ("exchange", 0, 0, 0)]
def Fg (K : aD) (z : Str) : Addr := match jB K (He.ga K "LIMITS") z with
 | some (some (.ref a)) => a
 | _ => 0
def GT (K : aD) (a : Addr) (vs : List V) : Bool := match K.lookup a with
 | some ⟨.type c, _, .seq its _, _⟩ => decide (c = "tuple") && (decide (its.size <= sizeLine) && He.relAll vs its.toList)
 | _ => false
def limB (K : aD) : Bool := limits.all fun q => He.eqO (jB K (He.ga K "LIMITS") q.1) (some (some (.ref (Fg K q.1)))) && GT K (Fg K q.1) [.int (q.2.1 : Nat), .int q.2.2.1, .int q.2.2.2]
def Gn : He.Tab := (fun K => He.ga K "LIMITS", limits.map (·.1))
def Pu (K : aD) (C : Addr) : Bool := match K.lookup C with
 | some ⟨.type "type", _, .cls cd, sl⟩ => (match cd.mro, sl.toList with
  | .ref C' :: bm, [_, _, _, _, some (.builtin n), _] => C' == C && n == "ValueError.__new__" && !cd.hasDel && cd.hasDict && PySem.HandSPX.refsVE bm
  | _, _ => false)
 | _ => false
def xaB (K : aD) (x : Str) (fs : List Str) : Bool := Pu K (He.ga K x) && (decide (cQ K (.ref (He.ga K x)) "__setattr__" = some (some (.builtin "object.__setattr__"))) && (decide (qS K (.ref (He.ga K x)) (.type "BaseException") = some true) && (decide (lG K (.ref (He.ga K x)) = some (.type "type")) && (lF K (.ref (He.ga K x)) && (decide (cQ K (.ref (He.ga K x)) "__init__" = some (some (.ref (He.ma K (He.ga K x) "__init__")))) && (decide (lG K (.ref (He.ma K (He.ga K x) "__init__")) = some (.type "function")) && (xfB K (He.ga K x) && fs.all fun f => decide (cQ K (.ref (He.ga K x)) f = some none))))))))
end PH
namespace PH
open PySem PySem.Spec PyProof PyProof.Rows L2
def frR (g : Addr -> Option Obj) (n : Nat) : aD := He.frG g (aV n)
def obC (c : List He.DefD) (K : aD) : Bool × List He.FnW := (c.all fun d => d.ok K, c.map fun d => He.fnW K d.at_)
theorem J2 {σ β γ : Type} {o : Option σ} {l : σ -> β} {b : β} {sn : σ -> γ} {c : γ} {K : σ -> aD} {fa : List He.Fa} {fs : List (List He.DefD)} {ts : List He.Tab} {ex : aD -> Bool} {tv : List (Option (List (Option (Str × Int))))}
  (hA : (o.map fun s => (l s, sn s, fa.all fun f => f.ok (K s), ts.map fun t => He.dicW (K s) (t.1 (K s)), ex (K s))) = some (b, c, true, tv, true))
  (hD : ∀ f ∈ fs, (o.map fun s => obC f (K s)) = some (true, f.map He.DefD.val)) :
  (o.map fun s => (l s, sn s, (He.obsT fa fs.flatten ts (K s), ex (K s)))) = some (b, c, ((true, fs.flatten.map He.DefD.val), tv), true) := by
 cases o with
 | none => cases hA
 | some s =>
  have hA := Option.some.inj hA;have h1 := congrArg (fun z => z.1) hA
  have h2 := congrArg (fun z => z.2.1) hA
  have h3 := congrArg (fun z => z.2.2.1) hA
  have h4 := congrArg (fun z => z.2.2.2.1) hA
  have h5 := congrArg (fun z => z.2.2.2.2) hA
  dsimp only at h1 h2 h3 h4 h5;have hf : ∀ f ∈ fs, (f.all fun d => d.ok (K s)) = true /\ (f.map fun d => He.fnW (K s) d.at_) = f.map He.DefD.val := fun f hf => by
   have z := Option.some.inj (hD f hf);exact ⟨congrArg (fun z => z.1) z, congrArg (fun z => z.2) z⟩
  have hall : (fs.flatten.all fun d => d.ok (K s)) = true := by
   rw [bI];intro d hd;obtain ⟨f, h1, h2⟩ := List.mem_flatten.mp hd;exact bI.mp (hf f h1).1 d h2
  have hmap : (fs.flatten.map fun d => He.fnW (K s) d.at_) = fs.flatten.map He.DefD.val := by
   rw [List.map_flatten, List.map_flatten]
   congr 1
   exact eW fun f h => (hf f h).2
  show some (l s, sn s, ((((fa.all fun f => f.ok (K s)) && (fs.flatten.all fun d => d.ok (K s)), fs.flatten.map fun d => He.fnW (K s) d.at_), ts.map fun t => He.dicW (K s) (t.1 (K s))), ex (K s))) = _
  rw [h1, h2, h3, h4, h5, hall, hmap];rfl
def sZ (n : Str) (s : Stmt) : He.DefD := ⟨(n, none), n, n, defArgs s, defBody s, defScope s, [], []⟩
end PH
namespace PH
open PySem PySem.Spec PyProof.Rows L2
def xsB (K : aD) (D : Addr) : Bool := (Dk K D).isSome && (decide (cQ K (.ref D) "__getattribute__" = some (some (.builtin "BaseException.__getattribute__"))) && (decide (cQ K (.ref D) "__getattr__" = some none) && (decide (qS K (.ref D) (.type "BaseException") = some true) && (decide (cQ K (.ref D) "__class__" = some (some (.builtin "object.__class__"))) && (decide (zG K (.builtin "object.__class__") "__get__" = some (some (.builtin "getset_descriptor.__get__"))) && (decide (BA K (.builtin "object.__class__") = some true) && decide (PySem.W.mroIn K D (.type "object") = some true)))))))
section
variable {P : Program} {w : World} {K : aD} {mg : Str -> Option Value} {base : Heap}
def Nh (K : aD) (C f : Str) : Addr := match PySem.W.recIn K (He.ma K (He.ga K C) f) "property" with
 | some (.ref g :: _) => g
 | _ => 0
end
inductive XH where
 | own (y : Str) | ty (T : String)
def kitH (K : aD) (c : Str) : XH -> Bool
 | .own y => decide (oW K (.ref (He.ga K c)) (.ref (He.ga K y)) = some (decide (c = y)))
 | .ty T => decide (oW K (.ref (He.ga K c)) (.type T) = some true)
def xhsB (K : aD) (b : Str) (cs : List Str) (ys : List XH) : Bool := (cs.all fun c => decide (CL K (.ref (He.ga K c)) (.ref (He.ga K b)) = some true)) && ((cs.all fun c => xsB K (He.ga K c)) && ((cs.all fun c => zH K (He.ga K c)) && (cs.all fun c => ys.all fun y => kitH K c y)))
section
variable {X : Cx} {W : WX} {e : Expr} {es : List Expr} {K : aD} {B : Addr -> Prop} {φ φ' : List Addr} {S S' : aN} {H H' : Hp} {σ : L2.St} {D : Ends} {x : Str} {m : FS} {cs : List Str} {pos p p2 p3 : Pos}
def AF (ys : List XH) (r : List (List XH)) (fin : Option (List XH)) : List XH := ys ++ r.flatten ++ fin.getD []
end
end PH
namespace PH
open PySem PySem.Spec PyProof PyProof.Rows L2
abbrev RZ : Type := He.AlT × Bool × Bool × List He.FnW
def SaysG (gn : List He5.DefA) (K : aD) : Prop := (gn.all fun d => d.ok K) = true /\ (gn.map fun d => He5.fnA K (d.at_ K)) = gn.map He5.DefA.val
def JG (gn : List He5.DefA) (K : aD) : Bool × List He.FnW := (gn.all fun d => d.ok K, gn.map fun d => He5.fnA K (d.at_ K))
def Pv (n : Nat) (fa : List He.Fa) (fn : List He.DefD) (ts : List He.Tab) (ex : aD -> Bool) (gn : List He5.DefA) (g : Addr -> Option Obj) : RZ := (He.obsT fa fn ts (frR g n), ex (frR g n), JG gn (frR g n))
def P8 (n : Nat) (fa : List He.Fa) (fn : List He.DefD) (ts : List He.Tab) (ex : aD -> Bool) (gn : List He5.DefA) : PySem.W.Hook where
 α := RZ
 obs := fun s => Pv n fa fn ts ex gn s.heap.get?
 val := fun w => (He.valT fn ts w, true, true, gn.map He5.DefA.val)
 says := fun w h => ∃ K : aD, K.In h /\ He.SaysT fa fn ts w K /\ ex K = true /\ SaysG gn K
 of := fun _ _ e => ⟨_, He.frG_in, congrArg (fun z : RZ => z.1) e, congrArg (fun z : RZ => z.2.1) e, congrArg (fun z : RZ => z.2.2.1) e, congrArg (fun z : RZ => z.2.2.2) e⟩
 keeps := fun _ _ _ ⟨K, hK, c⟩ k => ⟨K, PySem.W.Frag.In.keeps hK k, c⟩
theorem BY {σ β γ : Type} {o : Option σ} {l : σ -> β} {b : β} {sn : σ -> γ} {c : γ} {K : σ -> aD} {fa : List He.Fa} {fs : List (List He.DefD)} {ts : List He.Tab} {ex : aD -> Bool} {gn : List He5.DefA} {tv : List (Option (List (Option (Str × Int))))}
  (hA : (o.map fun s => (l s, sn s, fa.all fun f => f.ok (K s), ts.map fun t => He.dicW (K s) (t.1 (K s)), ex (K s))) = some (b, c, true, tv, true))
  (hG : (o.map fun s => JG gn (K s)) = some (true, gn.map He5.DefA.val))
  (hD : ∀ f ∈ fs, (o.map fun s => obC f (K s)) = some (true, f.map He.DefD.val)) :
  (o.map fun s => (l s, sn s, (He.obsT fa fs.flatten ts (K s), ex (K s), JG gn (K s)))) = some (b, c, ((true, fs.flatten.map He.DefD.val), tv), true, true, gn.map He5.DefA.val) := by
 have h := J2 hA hD;cases o with
 | none => cases hA
 | some s =>
  have h := Option.some.inj h;have g := Option.some.inj hG;have h1 := congrArg (fun z => z.1) h
  have h2 := congrArg (fun z => z.2.1) h
  have h3 := congrArg (fun z => z.2.2.1) h
  have h4 := congrArg (fun z => z.2.2.2) h
  dsimp only at h1 h2 h3 h4 g
  show some (l s, sn s, (He.obsT fa fs.flatten ts (K s), ex (K s), JG gn (K s))) = _
  rw [h1, h2, h3, h4, g]
def Om (K : aD) (C f : Str) : Bool := decide (cQ K (.ref (He.ga K C)) f = some (some (.ref (He.ma K (He.ga K C) f)))) && (decide (zG K (.ref (He.ma K (He.ga K C) f)) "__get__" = some (some (.builtin "property.__get__"))) && (decide (BA K (.ref (He.ma K (He.ga K C) f)) = some true) && (match PySem.W.recIn K (He.ma K (He.ga K C) f) "property" with
 | some (.ref _ :: _) => true
 | _ => false)))
end PH
namespace PHZ
open PH PySem PySem.Spec PyProof.Rows L2
def top (i : Nat) : Stmt := PySem.Challenge.pw_penhome_k97_refused_by_a_live_pen.main.body.getD i (.Pass ⟨0, 0, 0, 0⟩)
abbrev rV : Stmt := top 14
abbrev BQ : Stmt := top 15
abbrev xF : Stmt := top 16
abbrev nR : Stmt := top 17
abbrev wA : Stmt := top 18
abbrev tV : Stmt := top 19
abbrev E7 : Stmt := top 20
abbrev tW : Stmt := top 26
abbrev qC : Stmt := top 27
abbrev kL : Stmt := top 29
abbrev gO : Stmt := top 28
abbrev qD : Stmt := top 30
abbrev qF : Stmt := top 31
abbrev jZ : Stmt := (gV (top 33)).getD 0 (.Pass ⟨0, 0, 0, 0⟩)
abbrev oI : Stmt := (gV (top 33)).getD 1 (.Pass ⟨0, 0, 0, 0⟩)
abbrev hI : Stmt := (gV (top 33)).getD 6 (.Pass ⟨0, 0, 0, 0⟩)
abbrev nF : Stmt := top 34
abbrev eT : Stmt := (gV (top 36)).getD 0 (.Pass ⟨0, 0, 0, 0⟩)
abbrev gB : Stmt := (gV (top 36)).getD 1 (.Pass ⟨0, 0, 0, 0⟩)
abbrev fP : Stmt := (gV (top 36)).getD 2 (.Pass ⟨0, 0, 0, 0⟩)
abbrev fO : Stmt := (gV (top 36)).getD 3 (.Pass ⟨0, 0, 0, 0⟩)
abbrev eX : Stmt := (gV (top 36)).getD 4 (.Pass ⟨0, 0, 0, 0⟩)
abbrev fQ : Stmt := (gV (top 36)).getD 5 (.Pass ⟨0, 0, 0, 0⟩)
abbrev gC : Stmt := (gV (top 36)).getD 6 (.Pass ⟨0, 0, 0, 0⟩)
abbrev oG : Stmt := top 37
abbrev qE : Stmt := top 38
abbrev Cm : Stmt := top 39
abbrev E5 : Stmt := top 41
abbrev BP : Stmt := top 42
abbrev iD : Stmt := (gV (top 44)).getD 2 (.Pass ⟨0, 0, 0, 0⟩)
abbrev jY : Stmt := (gV (top 44)).getD 0 (.Pass ⟨0, 0, 0, 0⟩)
abbrev lP : Stmt := (gV (top 44)).getD 1 (.Pass ⟨0, 0, 0, 0⟩)
abbrev iE : Stmt := (gV (top 44)).getD 4 (.Pass ⟨0, 0, 0, 0⟩)
abbrev iC : Stmt := (gV (top 44)).getD 5 (.Pass ⟨0, 0, 0, 0⟩)
abbrev mO : Stmt := (gV (top 44)).getD 6 (.Pass ⟨0, 0, 0, 0⟩)
abbrev mP : Stmt := (gV (top 44)).getD 7 (.Pass ⟨0, 0, 0, 0⟩)
abbrev xG : Stmt := top 46
abbrev BV : Stmt := top 47
abbrev tY : Stmt := top 48
abbrev BU : Stmt := top 49
abbrev zP : Stmt := top 51
abbrev zS : Stmt := top 50
abbrev wB : Stmt := top 52
abbrev BX : Stmt := top 53
abbrev BW : Stmt := top 54
abbrev oH : Stmt := top 55
abbrev rW : Stmt := top 56
abbrev zQ : Stmt := top 57
abbrev tX : Stmt := top 58
abbrev nS : Stmt := top 59
abbrev kM : Stmt := top 60
abbrev pE : Stmt := top 61
abbrev BS : Stmt := top 62
abbrev lW : Stmt := top 63
abbrev zR : Stmt := top 64
abbrev qX : Stmt := top 65
abbrev qW : Stmt := (gV (top 5)).getD 0 (.Pass ⟨0, 0, 0, 0⟩)
abbrev tS : Stmt := (gV (top 8)).getD 0 (.Pass ⟨0, 0, 0, 0⟩)
def vR : He.DefD := sZ "is_integer" rV
def DY : He.DefD := sZ "is_bit" BQ
def DX : He.DefD := sZ "is_pen" xF
def vS : He.DefD := sZ "is_command" nR
def AS : He.DefD := sZ "executed" wA
def yD : He.DefD := sZ "check_pen" tV
def G7 : He.DefD := sZ "moved" E7
def yE : He.DefD := sZ "blocks_of" tW
def uJ : He.DefD := sZ "with_blocks" qC
def tF : He.DefD := sZ "copied_block" kL
def nN : He.DefD := sZ "copied_statement" gO
def uK : He.DefD := sZ "well_formed" qD
def uM : He.DefD := sZ "first_fault" qF
def yL : He.DefD := ⟨("Book", some "__init__"), "__init__", "Book.__init__", defArgs jZ, defBody jZ, defScope jZ, [], []⟩
def AX : He.DefD := ⟨("Book", some "__len__"), "__len__", "Book.__len__", defArgs oI, defBody oI, defScope oI, [], []⟩
def uO : He.DefD := ⟨("Book", some "bodies"), "bodies", "Book.bodies", defArgs hI, defBody hI, defScope hI, [], []⟩
def rH : He.DefD := sZ "has_procedure" nF
def pO : He.DefD := ⟨("Execution", some "__init__"), "__init__", "Execution.__init__", defArgs eT, defBody eT, defScope eT, [], []⟩
def pM : He.DefD := ⟨("Execution", some "take"), "take", "Execution.take", defArgs gB, defBody gB, defScope gB, [], []⟩
def oS : He.DefD := ⟨("Execution", some "enter"), "enter", "Execution.enter", defArgs fP, defBody fP, defScope fP, [], []⟩
def oR : He.DefD := ⟨("Execution", some "leave"), "leave", "Execution.leave", defArgs fO, defBody fO, defScope fO, [], []⟩
def nO : He.DefD := ⟨("Execution", some "unwind"), "unwind", "Execution.unwind", defArgs eX, defBody eX, defScope eX, [], []⟩
def oU : He.DefD := ⟨("Execution", some "begin"), "begin", "Execution.begin", defArgs fQ, defBody fQ, defScope fQ, [], []⟩
def pN : He.DefD := ⟨("Execution", some "step"), "step", "Execution.step", defArgs gC, defBody gC, defScope gC, [], []⟩
def tE : He.DefD := sZ "executed_run" oG
def uL : He.DefD := sZ "pens_behind" qE
def ME : He.DefD := ⟨("ran", none), "ran", "ran", defArgs Cm, defBody Cm, defScope Cm, [], [("pen", .glo "HOME")]⟩
def G6 : He.DefD := sZ "whole" E5
def DW : He.DefD := sZ "within" BP
def tH : He.DefD := ⟨("Live", some "move_to"), "move_to", "Live.move_to", defArgs iD, defBody iD, defScope iD, [], []⟩
def yF : He.DefD := ⟨("Live", some "__init__"), "__init__", "Live.__init__", defArgs jY, defBody jY, defScope jY, [], [("pen", .glo "HOME")]⟩
def AR : He5.DefA := ⟨fun K => Nh K "Live" "pen", "pen", "Live.pen", defArgs lP, defBody lP, defScope lP, [], []⟩
def tI : He.DefD := ⟨("Live", some "__getitem__"), "__getitem__", "Live.__getitem__", defArgs iE, defBody iE, defScope iE, [], []⟩
def tG : He.DefD := ⟨("Live", some "__setitem__"), "__setitem__", "Live.__setitem__", defArgs iC, defBody iC, defScope iC, [], []⟩
def yG : He.DefD := ⟨("Live", some "__iadd__"), "__iadd__", "Live.__iadd__", defArgs mO, defBody mO, defScope mO, [], []⟩
def yH : He.DefD := ⟨("Live", some "__call__"), "__call__", "Live.__call__", defArgs mP, defBody mP, defScope mP, [], []⟩
def Da : He.DefD := sZ "_law_pool" xG
def Dd : He.DefD := sZ "_law_draw" BV
def yK : He.DefD := sZ "_law_command" tY
def Dc : He.DefD := sZ "_law_pair" BU
def C4 : He.DefD := sZ "_law_piece" zP
def C7 : He.DefD := sZ "_law_block" zS
def AW : He.DefD := sZ "_law_around" wB
def Df : He.DefD := sZ "_law_body" BX
def De : He.DefD := sZ "_law_book" BW
def AV : He.DefD := sZ "_law_copied" oH
def AU : He.DefD := sZ "_law_same" rW
def C5 : He.DefD := sZ "_law_odd" zQ
def yJ : He.DefD := sZ "_law_index" tX
def vT : He.DefD := sZ "_law_integers" nS
def tJ : He.DefD := sZ "_law_is_command" kM
def yI : He.DefD := sZ "_law_numbers" pE
def DZ : He.DefD := sZ "_law_step" BS
def uN : He.DefD := sZ "_law_requested" lW
def C6 : He.DefD := sZ "_law_due" zR
def C3 : He.DefD := sZ "law" qX
def C2 : He.DefD := ⟨("NoBook", some "__init__"), "__init__", "NoBook.__init__", defArgs qW, defBody qW, defScope qW, [], []⟩
def DV : He.DefD := ⟨("NoRun", some "__init__"), "__init__", "NoRun.__init__", defArgs tS, defBody tS, defScope tS, [], []⟩
def fa : List He.Fa := ([.free "isinstance", .free "int", .free "bool", .free "tuple", .free "len", .free "all", .free "str", .glo "LIMITS", .free "range", .glo "NoPen", .glo "NoCommand", .int "DEEPEST" 3, .free "list", .free "enumerate", .int "MOST_IN_LIST" 8, .int "MOST_IN_PROCEDURE" 12, .int "MOST_PROCEDURES" 3, .glo "NoBook", .cls "Book", .noat "Book" "own"] : List He.Fa) ++ ([.cls "Execution", .noat "Execution" "own", .noat "Execution" "bits", .noat "Execution" "taken", .noat "Execution" "deeds", .noat "Execution" "stack", .noat "Execution" "active", .noat "Execution" "ended", .glo "NoRun", .glo "NoProcedure", .cls "Execution", .mkr "Execution", .glo "Execution", .cls "Live", .noat "Live" "place", .noat "Live" "heading", .noat "Live" "mark", .noat "Live" "book", .glo "NoPart", .glo "NoNumber"] : List He.Fa) ++ ([.cls "Live", .mkr "Live", .glo "Live", .glo "NoRun", .glo "NoProcedure", .glo "NoCommand", .glo "NoPen", .glo "NoNumber", .glo "NoPart", .glo "HomeError", .cls "Book", .mkr "Book", .glo "Book", .glo "is_integer", .glo "is_bit", .glo "is_pen", .glo "is_command", .glo "executed", .glo "check_pen", .glo "moved"] : List He.Fa) ++ ([.glo "blocks_of", .glo "with_blocks", .glo "copied_block", .glo "copied_statement", .glo "well_formed", .glo "first_fault", .meth "Book" "__init__", .meth "Book" "__len__", .meth "Book" "bodies", .glo "has_procedure", .meth "Execution" "__init__", .meth "Execution" "take", .meth "Execution" "enter", .meth "Execution" "leave", .meth "Execution" "unwind", .meth "Execution" "begin", .meth "Execution" "step", .glo "executed_run", .glo "pens_behind", .glo "ran"] : List He.Fa) ++ ([.glo "whole", .glo "within", .meth "Live" "move_to", .meth "Live" "__getitem__", .meth "Live" "__setitem__", .meth "Live" "__iadd__", .meth "Live" "__call__", .glo "_law_pool", .glo "_law_draw", .glo "_law_command", .glo "_law_pair", .glo "_law_piece", .glo "_law_block", .glo "_law_around", .glo "_law_body", .glo "_law_book", .glo "_law_copied", .glo "_law_same", .glo "_law_odd", .glo "_law_index"] : List He.Fa) ++ ([.glo "_law_integers", .glo "_law_is_command", .glo "_law_numbers", .glo "_law_step", .glo "_law_requested", .glo "_law_due", .glo "law"] : List He.Fa)
def fn0 : List He.DefD := [C2, DV, vR, DY, DX, vS, AS, yD, G7, yE, uJ, tF, nN, uK, uM, yL, AX, uO, rH, pO, pM, oS, oR, nO, oU, pN, tE, uL, ME, G6, DW, tH, yF, tI, tG, yG, yH, Da, Dd, yK, Dc, C4, C7, AW, Df, De, AV, AU, C5, yJ, vT, tJ, yI, DZ, uN, C6, C3]
def fns : List (List He.DefD) := [fn0]
def fn : List He.DefD := fns.flatten
def ts : List He.Tab := [Gn]
def exs (K : aD) : List Bool := [limB K, xcB K "NoPen", xcB K "NoCommand", xaB K "NoBook" ["procedure", "path"], xaB K "NoRun" ["index"], xcB K "NoProcedure", xcB K "NoPart", xcB K "NoNumber", qT K (He.ga K "Live"), zI K (He.ga K "Live"), xhsB K "HomeError" ["NoBook", "NoCommand", "NoNumber", "NoPart", "NoPath", "NoPen", "NoProcedure", "NoRun"] (AF [.own "NoPart", .own "NoNumber", .own "NoPen"] [[.own "NoCommand", .own "NoProcedure", .own "NoRun"]] none), Om K "Live" "pen"]
def ex (K : aD) : Bool := (exs K).all id
def loose : List Str := (["_wall", "HomeError", "NoPen", "NoCommand", "NoBook", "NoProcedure", "NoPath", "NoRun", "NoPart", "NoNumber", "HOME", "LIMITS", "is_integer", "is_bit", "is_pen", "is_command", "executed", "check_pen", "moved", "MOST_PROCEDURES", "MOST_IN_LIST", "MOST_IN_PROCEDURE", "DEEPEST", "blocks_of", "with_blocks", "copied_statement", "copied_block", "well_formed", "first_fault", "statement_at"] : List Str) ++ (["Book", "has_procedure", "Execution", "executed_run", "pens_behind", "ran", "whole", "within", "Live", "_law_pool", "_law_draw", "_law_command", "_law_pair", "_law_block", "_law_piece", "_law_around", "_law_body", "_law_book", "_law_copied", "_law_same", "_law_odd", "_law_index", "_law_integers", "_law_is_command", "_law_numbers", "_law_step", "_law_requested", "_law_due"] : List Str)
def gn : List He5.DefA := [AR]
abbrev R : PySem.W.OpenRow := PySem.W.OpenLaw.row PySem.Challenge.rw_penhome_k97_refused_by_a_live_pen
abbrev hk : PySem.W.Hook := P8 1200 fa fn ts ex gn
def ob (s : BB) : RZ := Pv 1200 fa fn ts ex gn (HandSHeadRun.getT s)
abbrev MP (w : World) : Prop := HandSHeadRun.RunEq R (lH R.prog [65]) hk ob 8000 loose w
noncomputable abbrev Jf (w : World) (os : OsState) := HandSHeadRun.endF (HandSHeadRun.stepQ (HandSHeadRun.denQ HandSHeadRun.tabQ) R.prog w) 8000 R.prog w os
abbrev Jy (s : BB) : aD := frR (HandSHeadRun.getT s) 1200
set_option maxHeartbeats 0 in
theorem Mu (w : World) : ∀ os : OsState, (Jf (w.withFollow "special-get-raises" true) os).map (fun s => JG gn (Jy s)) = some (true, gn.map He5.DefA.val) := by
 intro os
 kernel_rfl
set_option maxHeartbeats 0 in
theorem Mx (w : World) : ∀ os : OsState, (Jf (w.withFollow "special-get-raises" false) os).map (fun s => JG gn (Jy s)) = some (true, gn.map He5.DefA.val) := by
 intro os
 kernel_rfl
set_option maxHeartbeats 0 in
theorem My (w : World) : ∀ os : OsState, (Jf (w.withFollow "special-get-raises" false) os).map (fun s => (HandSHeadRun.looksF R.prog (Jt (w.withFollow "special-get-raises" false).params) s.abs, HandSHeadRun.seenQ (lH R.prog [65]) loose (PySem.importedModules R.prog.main.body) (fun s => PySem.W.xlAt (lH R.prog [65]) [] s && PySem.W.recOk R.toRowW.records s) s.abs, fa.all fun f => f.ok (Jy s), ts.map fun t => He.dicW (Jy s) (t.1 (Jy s)), ex (Jy s))) = some (true, Jz (lH R.prog [65]) loose, true, ts.map (fun t => some (He.keysIn (w.withFollow "special-get-raises" false).params t.2)), true) := by
 intro os
 kernel_rfl
set_option maxHeartbeats 0 in
theorem Mz (w : World) : ∀ os : OsState, (Jf (w.withFollow "special-get-raises" false) os).map (fun s => obC fn0 (Jy s)) = some (true, fn0.map He.DefD.val) := by
 intro os
 kernel_rfl
theorem run_f (w : World) : MP (w.withFollow "special-get-raises" false) := fun os => BY (fs := fns) (My w os) (Mx w os) (Ju.mpr ⟨Mz w os, fun f hf => nomatch hf⟩)
set_option maxHeartbeats 0 in
theorem Mv (w : World) : ∀ os : OsState, (Jf (w.withFollow "special-get-raises" true) os).map (fun s => (HandSHeadRun.looksF R.prog (Jt (w.withFollow "special-get-raises" true).params) s.abs, HandSHeadRun.seenQ (lH R.prog [65]) loose (PySem.importedModules R.prog.main.body) (fun s => PySem.W.xlAt (lH R.prog [65]) [] s && PySem.W.recOk R.toRowW.records s) s.abs, fa.all fun f => f.ok (Jy s), ts.map fun t => He.dicW (Jy s) (t.1 (Jy s)), ex (Jy s))) = some (true, Jz (lH R.prog [65]) loose, true, ts.map (fun t => some (He.keysIn (w.withFollow "special-get-raises" true).params t.2)), true) := by
 intro os
 kernel_rfl
set_option maxHeartbeats 0 in
theorem Mw (w : World) : ∀ os : OsState, (Jf (w.withFollow "special-get-raises" true) os).map (fun s => obC fn0 (Jy s)) = some (true, fn0.map He.DefD.val) := by
 intro os
 kernel_rfl
theorem run_t (w : World) : MP (w.withFollow "special-get-raises" true) := fun os => BY (fs := fns) (Mv w os) (Mu w os) (Ju.mpr ⟨Mw w os, fun f hf => nomatch hf⟩)
theorem run_ (w : World) : MP w := PySem.W.byRow2 "special-get-raises" run_f run_t w
end PHZ
namespace PH
open PySem PySem.Spec PyProof.Rows L2
section
variable {X : Cx}
theorem dF {e : Expr} {t u : TE} (h : PE X e t) (i : ∀ σ H Q, u σ H Q -> t σ H Q) : PE X e u := ⟨fun pins s σ H Q I q => h.run pins s σ H Q I (i σ H Q q)⟩
theorem CD {e : Expr} {t u : TT} (h : PT X e t) (i : ∀ σ H Q, u σ H Q -> t σ H Q) : PT X e u := ⟨fun pins s σ H Q I q => h.run pins s σ H Q I (i σ H Q q)⟩
theorem gX {f : Value -> Value -> Sem Value} {r u : R2} (h : OpR X f r) (i : ∀ x y H Q, u x y H Q -> r x y H Q) : OpR X f u := fun pins s σ H x y v w Q I rx ry q => h pins s σ H x y v w Q I rx ry (i x y H Q q)
theorem lS {f : Value} {r u : List V -> Hp -> VK -> Prop} (h : CallR X f r) (i : ∀ xs H Q, u xs H Q -> r xs H Q) : CallR X f u := fun pins s σ H xs us Q I rx q => h pins s σ H xs us Q I rx (i xs H Q q)
theorem IX {r u : R2} (h : IxR X r) (i : ∀ x y H Q, u x y H Q -> r x y H Q) : IxR X u := fun e1 e2 pins s σ H x y v w Q I rx ry q => h e1 e2 pins s σ H x y v w Q I rx ry (i x y H Q q)
def sl : L2.St -> Nat -> Option V
 | [], _ => none
 | x :: _, 0 => x
 | _ :: r, n + 1 => sl r n
theorem Of : ∀ {σ : L2.St} {i : Nat} {v : V}, sl σ i = some v -> σ[i]? = some (some v)
 | [], _, _, h => by cases h
 | x :: _, 0, v, h => by
  have e : x = some v := h;rw [e]; rfl
 | _ :: r, n + 1, v, h => by
  have e := Of (σ := r) (i := n) (v := v) h
  simpa using e
def wL (i : Nat) : TE := fun σ H Q => match sl σ i with
 | some v => Q v H
 | none => False
theorem cv (i : Nat) {x : Str} {pos : Pos} (hN : X.N[i]? = some x := by rfl) (hv : Vis X.env.scope x := by first | exact zE rfl | exact tN (zE rfl) | exact tN (tN rfl)) (hd : (x == ("__debug__" : Str)) = false := by decide)
  (hcd : (x == ("__classdict__" : Str)) = false := by decide) : PE X (.Name x pos) (wL i) := dF (pe_var hN hv hd hcd) fun σ H Q h => by
 unfold wL at h;cases e : sl σ i with
 | none => rw [e] at h; exact h.elim
 | some v => rw [e] at h; exact ⟨v, Of e, h⟩
def cI0 (g : Int -> Int -> V) : R2 := fun x y H Q => match x, y with
 | .int i, .int j => Q (g i j) H
 | _, _ => False
def cI (C : Int -> Int -> Prop) (g : Int -> Int -> V) : R2 := fun x y H Q => match x, y with
 | .int i, .int j => C i j /\ Q (g i j) H
 | _, _ => False
theorem wM {g : Int -> Int -> V} : ∀ x y H Q, cI0 g x y H Q -> rI0 g x y H Q := fun x y H Q h => by
 cases x with
 | int i => cases y with
  | int j => exact ⟨i, j, rfl, rfl, h⟩
  | _ => exact h.elim
 | _ => exact h.elim
theorem IS {C : Int -> Int -> Prop} {g : Int -> Int -> V} : ∀ x y H Q, cI C g x y H Q -> rI C g x y H Q := fun x y H Q h => by
 cases x with
 | int i => cases y with
  | int j => exact ⟨i, j, rfl, rfl, h.1, h.2⟩
  | _ => exact h.elim
 | _ => exact h.elim
def rAddI : R2 := fun x y H Q => match x, y with
 | .int i, .int j => Q (.int (i + j)) H
 | _, _ => False
def KZ : R2 := fun x y H Q => match x, y with
 | .int i, .int j => Q (.int (i - j)) H
 | _, _ => False
def Oi : R2 := fun x y H Q => match x, y with
 | .int i, .int j => IntMulOk i j /\ Q (.int (i * j)) H
 | _, _ => False
def Oj : R2 := fun x y H Q => match x, y with
 | .int i, .int j => (0 < j) /\ Q (.int (i % j)) H
 | _, _ => False
def Kb : R2 := fun x y H Q => match x, y with
 | .int i, .int j => (CDiv i j) /\ Q (.int (i / j)) H
 | _, _ => False
def Oh : R2 := fun x y H Q => match x, y with
 | .int i, .int j => (CPow i j) /\ Q (.int (i ^ j.toNat)) H
 | _, _ => False
def rLtC : R2 := fun x y H Q => match x, y with
 | .int i, .int j => Q (.bl (decide (i < j))) H
 | _, _ => False
def rLeC : R2 := fun x y H Q => match x, y with
 | .int i, .int j => Q (.bl (decide (i <= j))) H
 | _, _ => False
def rGtC : R2 := fun x y H Q => match x, y with
 | .int i, .int j => Q (.bl (decide (j < i))) H
 | _, _ => False
def rGeC : R2 := fun x y H Q => match x, y with
 | .int i, .int j => Q (.bl (decide (j <= i))) H
 | _, _ => False
def Jl (K : aD) : R2 := fun x y H Q => match x, y with
 | .int i, .int j => Q (.int (i + j)) H
 | .str a, .str b => a.length + b.length <= sizeLine /\ Q (.str (a ++ b)) H
 | .ref _, .ref _ => rCat x y H Q \/ rCatA K x y H Q
 | _, _ => False
theorem bN : OpR X (binaryOp .Add) (Jl X.K) := by
 refine gX (OpR.or (X := X) op_add (OpR.or op_add_str (OpR.or op_cat op_catA))) fun x y H Q h => ?_
 cases x with
 | int i => cases y with
  | int j => exact .inl ⟨i, j, rfl, rfl, h⟩
  | _ => exact h.elim
 | str i => cases y with
  | str j => exact .inr (.inl ⟨i, j, rfl, rfl, h.1, h.2⟩)
  | _ => exact h.elim
 | ref i => cases y with
  | ref j => exact .inr (.inr h)
  | _ => exact h.elim
 | _ => exact h.elim
theorem fR : OpR X (binaryOp .Sub) KZ := gX op_sub fun x y H Q h => wM (g := fun i j => .int (i - j)) x y H Q h
theorem N6 : OpR X (binaryOp .Mult) (rI IntMulOk fun i j => .int (i * j)) := opI fun _ _ _ _ _ _ _ hc q => mul_int q hc
theorem lX : OpR X (binaryOp .Mult) Oi := gX N6 fun x y H Q h => IS (C := IntMulOk) (g := fun i j => .int (i * j)) x y H Q h
theorem mulL {i j : Int} (h1 : -(2 ^ 64) < i) (h2 : i < 2 ^ 64) : IntMulOk i j := CMul.ok (.inl ⟨h1, h2⟩)
theorem mulR {i j : Int} (h1 : -(2 ^ 64) < j) (h2 : j < 2 ^ 64) : IntMulOk i j := CMul.ok (.inr ⟨h1, h2⟩)
theorem nU : OpR X (binaryOp .Mod) Oj := gX op_mod fun x y H Q h => IS (C := fun _ j => 0 < j) (g := fun i j => .int (i % j)) x y H Q h
theorem uA : OpR X (binaryOp .FloorDiv) Kb := gX op_fdiv fun x y H Q h => IS (C := CDiv) (g := fun i j => .int (i / j)) x y H Q h
theorem xI : OpR X (binaryOp .Pow) Oh := gX op_pow fun x y H Q h => IS (C := CPow) (g := fun i j => .int (i ^ j.toNat)) x y H Q h
theorem iF : OpR X (compareOp .Lt) rLtC := gX op_lt fun x y H Q h => wM (g := fun i j => .bl (decide (i < j))) x y H Q h
theorem nG : OpR X (compareOp .LtE) rLeC := gX op_le fun x y H Q h => wM (g := fun i j => .bl (decide (i <= j))) x y H Q h
theorem jR : OpR X (compareOp .Gt) rGtC := gX op_gt fun x y H Q h => wM (g := fun i j => .bl (decide (j < i))) x y H Q h
theorem Kl : OpR X (compareOp .GtE) rGeC := gX op_ge fun x y H Q h => wM (g := fun i j => .bl (decide (j <= i))) x y H Q h
def cNeg : V -> Hp -> VK -> Prop := fun x H Q => match x with
 | .int i => Q (.int (-i)) H
 | _ => False
theorem Me : UnR X (unaryOp .USub) cNeg := fun pins s σ H x v Q I rx h => un_neg pins s σ H x v Q I rx (by
 cases x with
 | int i => exact ⟨i, rfl, h⟩
 | _ => exact h.elim)
def cEq (K : aD) : R2 := fun x y H Q => match x, y with
 | .int i, .int j => Q (.bl (decide (i = j))) H
 | .str i, .str j => Q (.bl (decide (i = j))) H
 | _, _ => rEqD K x y H Q
def cNe (K : aD) : R2 := fun x y H Q => match x, y with
 | .int i, .int j => Q (.bl (!decide (i = j))) H
 | .str i, .str j => Q (.bl (!decide (i = j))) H
 | _, _ => rNeD K x y H Q
theorem dI {i j : Int} : decide (V.int i = V.int j) = decide (i = j) := by
 by_cases h : i = j
 ·rw [decide_eq_true h, h, decide_eq_true rfl]
 ·rw [decide_eq_false h, decide_eq_false fun e => h (V.int.inj e)]
theorem dS {i j : Str} : decide (V.str i = V.str j) = decide (i = j) := by
 by_cases h : i = j
 ·rw [decide_eq_true h, h, decide_eq_true rfl]
 ·rw [decide_eq_false h, decide_eq_false fun e => h (V.str.inj e)]
theorem aZ (hu : X.A.units + 64 < cLine) : OpR X (compareOp .Eq) (cEq X.K) := by
 refine gX (OpR.or (X := X) op_eq (op_eqD hu)) fun x y H Q h => ?_
 cases x with
 | int i => cases y with
  | int j => exact .inl ⟨rfl, by rw [dI]; exact h⟩
  | _ => exact .inr h
 | str i => cases y with
  | str j => exact .inl ⟨rfl, by rw [dS]; exact h⟩
  | _ => exact .inr h
 | _ => exact .inr h
theorem rX (hu : X.A.units + 64 < cLine) : OpR X (compareOp .NotEq) (cNe X.K) := by
 refine gX (OpR.or (X := X) op_ne (op_neD hu)) fun x y H Q h => ?_
 cases x with
 | int i => cases y with
  | int j => exact .inl ⟨rfl, by rw [dI]; exact h⟩
  | _ => exact .inr h
 | str i => cases y with
  | str j => exact .inl ⟨rfl, by rw [dS]; exact h⟩
  | _ => exact .inr h
 | _ => exact .inr h
variable {a b c : Expr} {ta tb tc : TE} {pos : Pos}
def cT (K : aD) : V -> Hp -> (Bool -> Hp -> Prop) -> Prop := fun x H Q => match x with
 | .bl k => Q k H
 | .non => Q false H
 | .int i => Q (i != 0) H
 | x => ∃ k, TruV K x H k /\ Q k H
def cTest (K : aD) (t : TE) : TT := fun σ H Q => t σ H fun x H' => cT K x H' Q
theorem MI {K : aD} : ∀ x H Q, cT K x H Q -> ∃ k, TruV K x H k /\ Q k H := fun x H Q h => by
 cases x with
 | bl k => exact ⟨k, rfl, h⟩
 | non => exact ⟨false, rfl, h⟩
 | int i => exact ⟨_, rfl, h⟩
 | _ => exact h
theorem t_val (ha : PE X a ta) (he : ∀ whole, isTrue a X.env whole = (do let v <- whole; standAt a.pos; holding [v] (truthy v)) := by intro _; rfl) : PT X a (cTest X.K ta) := by
 refine ⟨fun pins s σ H Q I h => ?_⟩
 exact isTrue_plain (thn (ha.run pins s σ H _ I h) fun v s1 ⟨x, H1, I1, r1, q1⟩ => tru_ok pins s1 σ H1 x v Q I1 r1 (MI x H1 Q q1)) (he _)
def cB (t : TE) : TT := fun σ H Q => t σ H fun x H' => match x with
 | .bl k => Q k H'
 | _ => False
theorem Oe {op : CmpOp} {r : R2} (ho : OpR X (compareOp op) r) (ha : PE X a ta) (hb : PE X b tb) (hm : behindInMarks op b = false := by rfl) : PT X (.Compare a [op] [b] pos) (cB (tOp r ta tb)) := by
 refine ⟨fun pins s σ H Q I h => ?_⟩
 have h' : ta σ H fun x H1 => tb σ H1 fun y H2 => r x y H2 fun z H3 => (match z with | .bl k => Q k H3 | _ => False) := h
 refine wpAny_isTrue_Compare1 (thn (ha.run pins s σ H _ I h') fun v s1 ⟨x, H1, I1, r1, q1⟩ => thn (hb.run pins s1 σ H1 _ I1 q1) fun u s2 ⟨y, H2, I2, r2, q2⟩ => thn (ho pins s2 σ H2 x y v u _ I2 r1 r2 q2) fun d s3 hz => ?_) hm
 obtain ⟨z, H3, I3, r3, q3⟩ := hz;cases z with
 | bl k => cases r3; exact wpAny_truthy_bool ⟨H3, I3, q3⟩
 | _ => exact q3.elim
theorem e_cmp {op : CmpOp} {r : R2} (ho : OpR X (compareOp op) r) (ha : PE X a ta) (hb : PE X b tb) (hm : behindInMarks op b = false := by rfl) : PE X (.Compare a [op] [b] pos) (tOp r ta tb) := pe_cmpR ho ha hb hm
end
section
variable {X : Cx} {a b c : Expr} {ta tb tc : TE} {pos : Pos}
variable {rest : List Expr}
def cAndV (ta tb : TE) : TE := fun σ H Q => ta σ H fun x H1 => match x with
 | .bl c => if c = true then tb σ H1 Q else Q (.bl false) H1
 | _ => False
def cNotV (K : aD) (ta : TE) : TE := fun σ H Q => ta σ H fun x H1 => cT K x H1 fun k H2 => Q (.bl (!k)) H2
theorem e_and (ha : PE X a ta) (hb : PE X (.BoolOp .And (b :: rest) pos) tb) : PE X (.BoolOp .And (a :: b :: rest) pos) (cAndV ta tb) := by
 refine ⟨fun pins s σ H Q I h => ?_⟩
 refine BoolOp_and (thn (ha.run pins s σ H _ I h) fun v s1 hq => ?_)
 obtain ⟨x, H1, I1, r1, q1⟩ := hq;cases x with
 | bl c =>
  cases r1;refine wpAny_truthy_bool ?_
  cases c with
  | true => exact hb.run pins s1 σ H1 Q I1 q1
  | false => exact ⟨.bl false, H1, I1, rfl, q1⟩
 | _ => exact q1.elim
theorem e_not (ha : PE X a ta) : PE X (.UnaryOp .Not a pos) (cNotV X.K ta) := by
 refine ⟨fun pins s σ H Q I h => ?_⟩
 refine UnaryOp_ (thn (ha.run pins s σ H _ I h) fun v s1 hq => ?_)
 obtain ⟨x, H1, I1, r1, q1⟩ := hq;exact not_of (thn (tru_ok pins s1 σ H1 x v (fun c H2 => Q (.bl (!c)) H2) I1 r1 (MI x H1 _ q1)) fun c s2 ⟨H2, I2, q2⟩ => ⟨.bl (!c), H2, I2, rfl, q2⟩)
def Ep (r r' : R2) (ta tb tc : TE) : TE := fun σ H Q => ta σ H fun x H1 => tb σ H1 fun y H2 => r x y H2 fun z H3 => match z with
 | .bl k => if k = true then tc σ H3 fun w' H4 => r' y w' H4 Q else Q (.bl false) H3
 | _ => False
theorem OT {op op' : CmpOp} {r r' : R2} (ho : OpR X (compareOp op) r) (ho' : OpR X (compareOp op') r') (ha : PE X a ta) (hb : PE X b tb) (hc : PE X c tc)
  (hm : lastMarks [op, op'] [b, c] = false := by with_unfolding_all rfl) : PE X (.Compare a [op, op'] [b, c] pos) (Ep r r' ta tb tc) := by
 refine ⟨fun pins s σ H Q I h => ?_⟩
 refine Compare_chain (thn (ha.run pins s σ H _ I h) fun v s1 ⟨x, H1, I1, r1, q1⟩ => chain_link (thn (hb.run pins s1 σ H1 _ I1 q1) fun u s2 ⟨y, H2, I2, r2, q2⟩ =>
  thn (ho pins s2 σ H2 x y v u _ I2 r1 r2 q2) fun d s3 hz => ?_)) hm
 obtain ⟨z, H3, I3, r3, q3⟩ := hz;cases z with
 | bl k =>
  cases r3;refine wpAny_truthy_bool ?_
  cases k with
  | false => exact ite_ff ⟨.bl false, H3, I3, rfl, q3⟩
  | true => exact ite_tt (chain_last (thn (hc.run pins s3 σ H3 _ I3 q3) fun w' s4 ⟨z', H4, I4, r4, q4⟩ => ho' pins s4 σ H4 y z' u w' Q I4 r2 r4 q4))
 | _ => exact q3.elim
theorem Mh {op op' : CmpOp} {r r' : R2} (ho : OpR X (compareOp op) r) (ho' : OpR X (compareOp op') r') (ha : PE X a ta) (hb : PE X b tb) (hc : PE X c tc)
  (hm : lastMarks [op, op'] [b, c] = false := by with_unfolding_all rfl) : PT X (.Compare a [op, op'] [b, c] pos) (cB (Ep r r' ta tb tc)) := by
 refine ⟨fun pins s σ H Q I h => ?_⟩
 refine isTrue_chain (thn (ha.run pins s σ H _ I h) fun v s1 ⟨x, H1, I1, r1, q1⟩ => test_link (thn (hb.run pins s1 σ H1 _ I1 q1) fun u s2 ⟨y, H2, I2, r2, q2⟩ =>
  thn (ho pins s2 σ H2 x y v u _ I2 r1 r2 q2) fun d s3 hz => ?_)) hm
 obtain ⟨z, H3, I3, r3, q3⟩ := hz;cases z with
 | bl k =>
  cases r3;refine wpAny_truthy_bool ?_
  cases k with
  | false => exact ite_ff ⟨H3, I3, q3⟩
  | true =>
   refine ite_tt (test_last (thn (hc.run pins s3 σ H3 _ I3 q3) fun w' s4 ⟨z', H4, I4, r4, q4⟩ => thn (ho' pins s4 σ H4 y z' u w' _ I4 r2 r4 q4) fun d' s5 hz2 => ?_))
   obtain ⟨z2, H5, I5, r5, q5⟩ := hz2;cases z2 with
   | bl k2 => cases r5; exact wpAny_truthy_bool ⟨H5, I5, q5⟩
   | _ => exact q5.elim
 | _ => exact q3.elim
def cIx (K : aD) : R2 := fun x y H Q => match x, y with
 | .ref p, .int i => ∃ xs v, (SqL K H p xs \/ SqT K H p xs) /\ atI xs i = some v /\ Q v H
 | .str z, .int i => z.length <= sizeLine /\ ∃ c, atI z.cps.toList i = some c /\ Q (.str ⟨#[c]⟩) H
 | _, _ => False
theorem ix_C : IxR X (cIx X.K) := IX ix_seq fun x y H Q h => by
 cases x with
 | ref p => cases y with
  | int i =>
   obtain ⟨xs, v, h1 | h1, h2, q⟩ := h
   ·exact .inl ⟨p, xs, i, v, rfl, rfl, h1, h2, q⟩
   ·exact .inr (.inl ⟨p, xs, i, v, rfl, rfl, h1, h2, q⟩)
  | _ => exact h.elim
 | str z => cases y with
  | int i =>
   obtain ⟨h1, c, h2, q⟩ := h;exact .inr (.inr ⟨z, i, c, rfl, rfl, h1, h2, q⟩)
  | _ => exact h.elim
 | _ => exact h.elim
theorem e_ix (ha : PE X a ta) (hb : PE X b tb) (hs : PlainIx b := by intro _ _; rfl) : PE X (.Subscript a b pos) (tOp (cIx X.K) ta tb) := pe_ix ix_C ha hb hs
def cLen (K : aD) : V -> Hp -> VK -> Prop := fun x H Q => match x with
 | .str z => z.length <= sizeLine /\ Q (.int z.length) H
 | .ref p => ∃ ys, (SqL K H p ys \/ SqT K H p ys) /\ Q (.int ys.length) H
 | _ => False
def c1 (r : V -> Hp -> VK -> Prop) : List V -> Hp -> VK -> Prop := fun xs H Q => match xs with
 | [x] => r x H Q
 | _ => False
theorem e_len {p : Pos} (hm : X.mg "len" = none) (ha : PE X a ta) (hg : Gl X "len" := by rfl) (hs : starEach [a] X.env = [(false, eval a X.env)] := by rfl) : PE X (.Call (.Name "len" p) [a] [] pos) (tCB (c1 (cLen X.K)) (tCons ta tNil)) :=
 pe_callB (lS (CallR.or call_len_seq call_len_str) fun xs H Q h => by
  match xs, h with
  | [x], h =>
   cases x with
   | str z => exact .inr ⟨z, rfl, h.1, h.2⟩
   | ref p =>
    obtain ⟨ys, h1, q⟩ := h;exact .inl ⟨p, ys, rfl, h1, q⟩
   | _ => exact h.elim) hg hm boot_len (pa_cons ha pa_nil hs) (he := hs)
def cInt : V -> Hp -> VK -> Prop := fun x H Q => match x with
 | .int i => Q (.int i) H
 | .bl k => Q (.int (if k then 1 else 0)) H
 | _ => False
theorem e_int {p : Pos} (hm : X.mg "int" = none) (ha : PE X a ta) (hg : Gl X "int" := by rfl) (hs : starEach [a] X.env = [(false, eval a X.env)] := by rfl) : PE X (.Call (.Name "int" p) [a] [] pos) (tCB (c1 cInt) (tCons ta tNil)) :=
 pe_callTy (lS call_int1 fun xs H Q h => by
  match xs, h with
  | [x], h =>
   cases x with
   | int i => exact .inl ⟨i, rfl, h⟩
   | bl k => exact .inr ⟨k, rfl, h⟩
   | _ => exact h.elim) hg hm boot_int (pa_cons ha pa_nil hs) (he := hs)
def isTy (T n : String) : Bool := n == T || (n == "bool" && T == "int")
def kinds : List String := ["NoneType", "bool", "int", "str", "list", "tuple", "dict"]
def targets : List String := ["int", "bool", "str", "list", "tuple", "dict"]
theorem NO (K : aD) : (kinds.all fun n => targets.all fun T => decide (oW K (.type n) (.type T) = some (isTy T n))) = true := by kernel_rfl
theorem Gp {K : aD} {n T : String} (hn : n ∈ kinds) (hT : T ∈ targets) : oW K (.type n) (.type T) = some (isTy T n) :=
 of_decide_eq_true (bI.mp (bI.mp (NO K) n hn) T hT)
def CF (K : aD) (H : Hp) (a : Addr) (n : String) : Prop := n ∈ ["list", "tuple", "dict"] /\ TyX K H (.ref a) (.type n)
def MK (K : aD) (T : String) : V -> Hp -> VK -> Prop := fun x H Q => match x with
 | .non => Q (.bl false) H
 | .bl _ => Q (.bl (T == "bool" || T == "int")) H
 | .int _ => Q (.bl (T == "int")) H
 | .str _ => Q (.bl (T == "str")) H
 | .ref a => ∃ n, CF K H a n /\ Q (.bl (n == T)) H
 | _ => False
def cIsiL (K : aD) (T : String) : List V -> Hp -> VK -> Prop := fun xs H Q => match xs with
 | [x, .ty n] => if n = T then MK K T x H Q else False
 | _ => False
theorem Jj {T : String} (hT : T ∈ targets) : CallR X (.builtin "isinstance") (cIsiL X.K T) := lS call_isi fun xs H Q h => by
 match xs, h with
 | [x, .ty n], h =>
  have h0 : if n = T then MK X.K T x H Q else False := h
  by_cases e : n = T
  case neg => rw [if_neg e] at h0; exact h0.elim
  rw [if_pos e] at h0
  replace h := h0
  subst e;have go : ∀ (k : String) (b : Bool), k ∈ kinds -> TyX X.K H x (.type k) -> b = isTy n k -> Q (.bl b) H -> rIsi X.K [x, .ty n] H Q := fun k b hk ty e q => ⟨x, .ty n, .type k, .type n, isTy n k, rfl, .ty n, ty, Gp hk hT, by rw [<- e]; exact q⟩
  have h6 : n = "int" \/ n = "bool" \/ n = "str" \/ n = "list" \/ n = "tuple" \/ n = "dict" := by simpa [targets] using hT
  cases x with
  | non => exact go "NoneType" false (by decide) (.base .non) (by rcases h6 with e | e | e | e | e | e <;> subst e <;> decide) h
  | bl b => exact go "bool" _ (by decide) (.base (.bl b)) (by rcases h6 with e | e | e | e | e | e <;> subst e <;> decide) h
  | int b => exact go "int" _ (by decide) (.base (.int b)) (by rcases h6 with e | e | e | e | e | e <;> subst e <;> decide) h
  | str b => exact go "str" _ (by decide) (.base (.str b)) (by rcases h6 with e | e | e | e | e | e <;> subst e <;> decide) h
  | ref a =>
   obtain ⟨k, ⟨hk, ty⟩, q⟩ := h;have h3 : k = "list" \/ k = "tuple" \/ k = "dict" := by simpa using hk
   exact go k _ (by rcases h3 with e | e | e <;> subst e <;> decide) ty (by rcases h6 with e | e | e | e | e | e <;> rcases h3 with e' | e' | e' <;> subst e <;> subst e' <;> decide) q
  | _ => exact h.elim
def cIsE (K : aD) (T : String) (ta : TE) : TE := fun σ H Q => ta σ H fun x H1 => MK K T x H1 Q
theorem e_isi {p q : Pos} {T : String} {y : Str} (hm : X.mg "isinstance" = none) (hmT : X.mg y = none) (ha : PE X a ta) (hT : T ∈ targets := by decide) (hv : bootBuiltins y = some (.type T) := by decide +kernel)
  (hg : Gl X "isinstance" := by rfl) (hgT : Gl X y := by rfl) (hn : y ≠ "__name__" := by decide) (hd : (y == ("__debug__" : Str)) = false := by decide) (hs : starEach [a, .Name y q] X.env = (false, eval a X.env) :: starEach [.Name y q] X.env := by rfl) :
  PE X (.Call (.Name "isinstance" p) [a, .Name y q] [] pos) (cIsE X.K T ta) :=
 dF (pe_callB (Jj hT) hg hm boot_isinstance (pa_cons ha (pa_cons (pe_bltn (v := .ty T) hgT hmT hv rfl hn hd) pa_nil) hs) (he := hs)) fun σ H Q h => by
  show ta σ H fun x H1 => if T = T then MK X.K T x H1 Q else False
  simp only [if_true];exact h
def cAll (K : aD) : V -> Hp -> VK -> Prop := fun x H Q => match x with
 | .ref p => ∃ bs : List Bool, SqL K H p (bs.map V.bl) /\ Q (.bl (bs.all id)) H
 | _ => False
theorem e_all {p : Pos} (hm : X.mg "all" = none) (ha : PE X a ta) (hc : X.calm = true := by rfl) (hg : Gl X "all" := by rfl) (hs : starEach [a] X.env = [(false, eval a X.env)] := by rfl) : PE X (.Call (.Name "all" p) [a] [] pos) (tCB (c1 (cAll X.K)) (tCons ta tNil)) :=
 pe_callB (lS (cr_all hc) fun xs H Q h => by
  match xs, h with
  | [x], h =>
   cases x with
   | ref p =>
    obtain ⟨bs, h1, q⟩ := h;exact ⟨p, bs, rfl, h1, q⟩
   | _ => exact h.elim) hg hm boot_all (pa_cons ha pa_nil hs) (he := hs)
def PR (K : aD) : V -> Hp -> VK -> Prop := fun x H Q => match x with
 | .ref p => ∃ ys, (SqL K H p ys \/ SqT K H p ys) /\ ∀ l, H l = none -> Q (.ref l) (upd H l (.lst ys))
 | _ => False
theorem RN {p : Pos} (hm : X.mg "list" = none) (ha : PE X a ta) (hg : Gl X "list" := by rfl) (hs : starEach [a] X.env = [(false, eval a X.env)] := by rfl) : PE X (.Call (.Name "list" p) [a] [] pos) (tCB (c1 (PR X.K)) (tCons ta tNil)) :=
 pe_callTy (lS call_list_of fun xs H Q h => by
  match xs, h with
  | [x], h =>
   cases x with
   | ref p =>
    obtain ⟨bs, h1, q⟩ := h;exact ⟨p, bs, rfl, h1, q⟩
   | _ => exact h.elim) hg hm boot_list (pa_cons ha pa_nil hs) (he := hs)
def MH (K : aD) : V -> Hp -> VK -> Prop := fun x H Q => match x with
 | .ref p => ∃ ys, SqL K H p ys /\ ∀ l, H l = none -> Q (.ref l) (upd H l (.tup ys))
 | _ => False
theorem OS {p : Pos} (hm : X.mg "tuple" = none) (ha : PE X a ta) (hg : Gl X "tuple" := by rfl) (hs : starEach [a] X.env = [(false, eval a X.env)] := by rfl) : PE X (.Call (.Name "tuple" p) [a] [] pos) (tCB (c1 (MH X.K)) (tCons ta tNil)) :=
 pe_callTy (lS call_tuple_of fun xs H Q h => by
  match xs, h with
  | [x], h =>
   cases x with
   | ref p =>
    obtain ⟨ys, h1, q⟩ := h;exact ⟨p, ys, rfl, .inl ⟨h1, q⟩⟩
   | _ => exact h.elim) hg hm boot_tuple (pa_cons ha pa_nil hs) (he := hs)
end
def Ok (P : Program) (w : World) (K : aD) (mg : Str -> Option Value) (base : Heap) (k : Nat) (x : Str) (ps : List Str) (sp : Sp) : Prop :=
 ∃ fd, FnOk P w K mg base CX0 k (He.ga K x) fd ps sp /\ mg x = some (.ref (He.ga K x)) /\ lF K (.ref (He.ga K x)) = true /\ Binds K fd ps [] /\ ∃ oc od osl, K.lookup (He.ga K x) = some ⟨oc, od, .func fd, osl⟩
section
variable {P : Program} {w : World} {K : aD} {mg : Str -> Option Value} {base : Heap}
abbrev qQ (K : aD) (x : Str) (st : Stmt) : Prop := ∃ fd, FunD K x x (defArgs st) (defBody st) (defScope st) [] [] (He.ga K x) fd
end
section
variable {X : Cx} {o i e : Expr} {to ti te : TE} {pos tpos : Pos}
def IT : V -> V -> Hp -> VK -> Prop := fun x y H Q => match x, y with
 | .ref p, .int i => ∃ xs v, H p = some (.lst xs) /\ 0 <= i /\ xs[i.toNat]? = some v /\ Q v H
 | _, _ => False
theorem JR : PGet X IT := by
 intro pins s σ H o i ov iv Q I ro ri h;cases o with
 | ref p => cases i with
  | int k =>
   obtain ⟨xs, v, hp, h0, hx, q⟩ := h;cases ro;obtain ⟨t, rfl⟩ := ri;obtain ⟨its, r, pl, hz⟩ := I.list (.inl (.inl hp));obtain ⟨w, ew, rw'⟩ := r.get hx;have hl := r.length;have hn := line63;have hlt : k.toNat < xs.length := (aJ.mp hx).1;exact wpAny_getItem_list pl.isList h0 (by omega) (by simpa using ew) ⟨v, H, I, rw', q⟩
  | _ => exact h.elim
 | _ => exact h.elim
def IR : V -> V -> V -> Hp -> (Hp -> Prop) -> Prop := fun o i v H Q => match o, i with
 | .ref p, .int k => ∃ xs, H p = some (.lst xs) /\ 0 <= k /\ k.toNat < xs.length /\ Q (upd H p (.lst (xs.set k.toNat v)))
 | _, _ => False
theorem Ck : PSet X IR := by
 intro pins s σ H o i v ov iv u Q I ro ri rv h;refine set_list pins s σ H o i v ov iv u Q I ro ri rv ?_
 cases o with
 | ref p => cases i with
  | int k =>
   obtain ⟨xs, hp, h0, hk, q⟩ := h;exact ⟨p, xs, k, k.toNat, rfl, rfl, hp, by unfold ixN; rw [if_pos h0, if_pos (by omega)], q⟩
  | _ => exact h.elim
 | _ => exact h.elim
def cIp (r : R2) : TIp := fun x y H Q => r x y H Q
theorem EZ : PIp X .Add (cIp rAddI) := fun pins s σ H x y v u Q I r1 r2 h => ip_add pins s σ H x y v u Q I r1 r2 (wM (g := fun i j => .int (i + j)) x y H Q h)
theorem NY : PIp X .Sub (cIp KZ) := fun pins s σ H x y v u Q I r1 r2 h => ip_sub pins s σ H x y v u Q I r1 r2 (wM (g := fun i j => .int (i - j)) x y H Q h)
theorem KU {op : Operator} {tip : TIp} (ho : PE X o to) (hi : PE X i ti) (he : PE X e te) (hp : PIp X op tip)
  (ha : ∀ ov iv new, augStore i ov iv new = (do holding [new, ov, iv] (setItem ov iv new); release [new, ov, iv] []; pure .next) := by intros; rfl) : PS X (.AugAssign (.Subscript o i tpos) op e pos) (tAugS to ti te IT tip IR) :=
 ps_augS ho hi JR he hp Ck ha
end
section
variable {X : Cx} {tg e : Expr} {te : TE} {pos p : Pos}
def Ol : R2 := fun x y H Q => match y with
 | .non => Q (.bl (decide (x = .non))) H
 | _ => False
def Ka : R2 := fun x y H Q => match y with
 | .non => Q (.bl (!decide (x = .non))) H
 | _ => False
theorem EE : OpR X (compareOp .Is) Ol := gX op_isN fun x y H Q h => by
 cases y with
 | non => exact ⟨rfl, h⟩
 | _ => exact h.elim
theorem FY : OpR X (compareOp .IsNot) Ka := gX op_notN fun x y H Q h => by
 cases y with
 | non => exact ⟨rfl, h⟩
 | _ => exact h.elim
def cPart (t : TE) : TO := fun σ H Q => t σ H fun x H1 => match x with
 | .int i => Q (some i) H1
 | _ => False
theorem Ke (h : PE X e te) : PO X (some e) (cPart te) := by
 refine ⟨fun pins s σ H Q I hw => ?_⟩
 rw [evalPart_some];refine thn (h.run pins s σ H _ I hw) fun u s1 hq => ?_
 obtain ⟨x, H1, I1, r1, q1⟩ := hq;cases x with
 | int i =>
  obtain ⟨t, rfl⟩ := r1;exact ⟨some i, H1, I1, .int i t, q1⟩
 | _ => exact q1.elim
theorem Oc {r u : V -> Option Int -> Option Int -> Hp -> VK -> Prop} (h : SlR X r) (i : ∀ x lo hi H Q, u x lo hi H Q -> r x lo hi H Q) : SlR X u := by
 intro pins s σ H x v vl vu lo hi sl Q I rx hs pl pu q;exact h pins s σ H x v vl vu lo hi sl Q I rx hs pl pu (i x lo hi H Q q)
def cSl (K : aD) : V -> Option Int -> Option Int -> Hp -> VK -> Prop := fun x lo hi H Q => match x with
 | .ref a => (∃ xs, SqL K H a xs /\ ∀ p, H p = none -> Q (.ref p) (upd H p (.lst (cutV xs lo hi)))) \/ (∃ xs, SqT K H a xs /\
  (HT.sIx xs.length 0 lo = 0 /\ HT.sIx xs.length xs.length hi = xs.length -> Q (.ref a) H) /\ (¬ (HT.sIx xs.length 0 lo = 0 /\ HT.sIx xs.length xs.length hi = xs.length) -> ∀ p, H p = none -> Q (.ref p) (upd H p (.tup (cutV xs lo hi)))))
 | .str z => z.length <= sizeLine /\ Q (.str (cutS z lo hi)) H
 | _ => False
theorem sl_C : SlR X (cSl X.K) := Oc (SlR.or sl_list (SlR.or sl_tupA sl_str)) fun x lo hi H Q h => by
 cases x with
 | ref a =>
  rcases h with ⟨xs, h1, q⟩ | ⟨xs, h1, q⟩
  ·exact .inl ⟨a, xs, rfl, h1, q⟩
  ·exact .inr (.inl ⟨a, xs, rfl, h1, q⟩)
 | str z => exact .inr (.inr ⟨z, rfl, h⟩)
 | _ => exact h.elim
def iSeq (K : aD) (tl : TE) : TI := fun σ H R => tl σ H fun x H1 => match x with
 | .ref a => ((∃ xs, SqL K H1 a xs) /\ R (Itl K a) H1) \/ ((∃ xs, SqT K H1 a xs) /\ R (Itt K a) H1)
 | _ => False
theorem Pr (hl : PE X e te) : PI X tg e (iSeq X.K te) := by
 refine ⟨fun pins s σ H R I h => ?_⟩
 refine thn (hl.run pins s σ H _ I h) fun v s1 hq => ?_
 obtain ⟨x, H1, I1, r1, q1⟩ := hq;cases x with
 | ref a =>
  rcases q1 with ⟨h1, q⟩ | ⟨h1, q⟩
  ·cases r1
   obtain ⟨xs, hq⟩ := h1;obtain ⟨its, rv, p, hz⟩ := I1.list hq;refine wpAny_pyIter_list p.isList ?_
   refine ⟨s1.heap.objs.size, [s1.heap.objs.size], _, _, H1, rfl, I1.kept (t' := s1.toks) fun b o e => Heap.get?_push_of_some _ e, turn_list a _, ⟨_, Heap.get?_push_size _ rfl, rfl, rfl⟩, fun b hb => ?_, q⟩
   have e : b = s1.heap.objs.size := by simpa using hb
   subst e;exact I1.fpOk (cN _) (I1.hok.fresh (cN _))
  ·cases r1
   obtain ⟨xs, hq⟩ := h1;obtain ⟨its, rv, p, hz⟩ := I1.tuple hq;refine wpAny_pyIter_tuple (show s1.heap.IsTuple a its.toArray from p) ?_
   refine ⟨s1.heap.objs.size, [s1.heap.objs.size], _, _, H1, rfl, I1.kept (t' := s1.toks) fun b o e => Heap.get?_push_of_some _ e, turn_tuple a _, ⟨_, Heap.get?_push_size _ rfl, rfl, rfl⟩, fun b hb => ?_, q⟩
   have e : b = s1.heap.objs.size := by simpa using hb
   subst e;exact I1.fpOk (cN _) (I1.hok.fresh (cN _))
 | _ => exact q1.elim
def IU : V -> List V -> Hp -> VK -> Prop := fun x vs H Q => match x, vs with
 | .ref l, [y] => ∃ xs, H l = some (.lst xs) /\ xs.length < sizeLine /\ Q .non (upd H l (.lst (xs ++ [y])))
 | _, _ => False
theorem Gi : MtR X "list.append" IU := fun pins s σ H x xs v us Q I rx r h => mt_append pins s σ H x xs v us Q I rx r (by
 match x, xs, h with
 | .ref l, [y], ⟨xs, h1, h2, q⟩ => exact ⟨l, xs, y, rfl, rfl, h1, h2, q⟩)
def cPop : V -> List V -> Hp -> VK -> Prop := fun x vs H Q => match x, vs with
 | .ref l, [] => ∃ xs y, H l = some (.lst xs) /\ xs[xs.length - 1]? = some y /\ Q y (upd H l (.lst xs.dropLast))
 | _, _ => False
theorem NG : MtR X "list.pop" cPop := fun pins s σ H x xs v us Q I rx r h => mt_pop pins s σ H x xs v us Q I rx r (by
 match x, xs, h with
 | .ref l, [], ⟨xs, y, h1, h2, q⟩ => exact ⟨l, xs, y, rfl, rfl, h1, h2, q⟩)
theorem RQ {x : Str} {i : Int} (h : ∃ t, X.mg x = some (.int i t)) (hg : Gl X x := by rfl) (hd : (x == ("__debug__" : Str)) = false := by decide) : PE X (.Name x pos) (tC (.int i)) := by
 obtain ⟨t, h⟩ := h;exact pe_glob hg h ⟨t, rfl⟩ hd
def PV (K : aD) (d : Addr) (neg : Bool) : R2 := fun x y H Q => match x, y with
 | .str z, .ref a => a = d /\ ∃ r, jB K d z = some r /\ Q (.bl (if neg then !r.isSome else r.isSome)) H
 | _, _ => False
theorem ED {d : Addr} (D : ∃ es n, KDict X.K X.w d es n) : OpR X (compareOp .NotIn) (PV X.K d true) := by
 obtain ⟨es, n, D⟩ := D;refine gX (op_notIn_kd D) fun x y H Q h => ?_
 match x, y, h with
 | .str z, .ref a, ⟨e, r, h1, q⟩ => exact ⟨z, r, rfl, by rw [e], h1, q⟩
def cIxKd (K : aD) (d : Addr) : R2 := fun x y H Q => match x, y with
 | .ref a, .str z => a = d /\ ∃ u v, jB K d z = some (some u) /\ RelV v u /\ Q v H
 | _, _ => False
theorem QQ {d : Addr} (D : ∃ es n, KDict X.K X.w d es n) : IxR X (cIxKd X.K d) := by
 obtain ⟨es, n, D⟩ := D;refine IX ix_kdict fun x y H Q h => ?_
 match x, y, h with
 | .ref a, .str z, ⟨e, u, v, h1, h2, q⟩ => exact ⟨d, z, v, by rw [e], rfl, ⟨es, n, u, D.at_, D.lit, h1, h2⟩, q⟩
end
structure XcF (K : aD) (mg : Str -> Option Value) (x : Str) : Prop where
 exc : PySem.W.excIn K (He.ga K x) veL "ValueError.__new__" = true
 glo : mg x = some (.ref (He.ga K x))
 kp : lF K (.ref (He.ga K x)) = true
 sub : qS K (.ref (He.ga K x)) (.type "BaseException") = some true
 ty : lG K (.ref (He.ga K x)) = some (.type "type")
theorem BD {K : aD} {mg : Str -> Option Value} {x : Str} (h : xcB K x = true) (g : mg x = some (.ref (He.ga K x))) : XcF K mg x := by
 obtain ⟨h1, h2⟩ := He.ba h;obtain ⟨h3, h4⟩ := He.ba h2;obtain ⟨h5, h6⟩ := He.ba h4;exact ⟨h1, g, h3, of_decide_eq_true h5, of_decide_eq_true h6⟩
section
variable {X : Cx} {x : Str} {p pos pos' : Pos} {W : WX} {e : Expr} {es : List Expr} {t : TA} {ps : List Str} {sp : Sp} {k j : Nat} {E : XK}
def Pf (cls : Value) (W : WX) : TS := fun _ σ H => W cls none σ H
theorem Kf (F : XcF X.K X.mg x) (hg : Gl X x) (hdb : (x == ("__debug__" : Str)) = false) : PMk X (.Call (.Name x p) [] [] pos) (fun _ H Q => Q (.ref (He.ga X.K x)) none H) := by
 intro pins s σ H Q I q;refine wpAny_Call_Name_kw (ld_glob I hg F.glo ?_ hdb)
 refine HX I.kIn F.kp ?_
 show wpAny _ _ (call (.ref (He.ga X.K x)) []) _ _ _
 obtain ⟨_, _, _, _, _, _, _, _, _, _, _, _, _, _, _, _, _, c1, c2, c3, T⟩ := exc_obj I.kIn F.exc;exact wpAny_call_exc_subT PySem.F.excBase_ValueError T c1 c2 c3 (fun _ _ m => mk_of I m (raises_own F.sub F.ty) q (I.hok.gone m.new)) (hW _)
theorem N5 (F : XcF X.K X.mg x) (tk : Takes X W) (hc : X.calm = true := by rfl) (hg : Gl X x := by rfl) (hdb : (x == ("__debug__" : Str)) = false := by decide) : PS X (.Raise (some (.Call (.Name x p) [] [] pos)) none pos') (Pf (.ref (He.ga X.K x)) W) :=
 ps_raise hc tk (Kf F hg hdb)
end
def pZ (P : Program) (w : World) (K : aD) (mg : Str -> Option Value) (base : Heap) (k : Nat) (x : Str) (ps : List Str) (sp : Sp) : Prop :=
 ∃ fd, FnOk P w K mg base (L2.CX P w) k (He.ga K x) fd ps sp /\ mg x = some (.ref (He.ga K x)) /\ lF K (.ref (He.ga K x)) = true /\ Binds K fd ps []
section
variable {P : Program} {w : World} {K : aD} {mg : Str -> Option Value} {base : Heap}
theorem Ko {x : Str} {st : Stmt} {N ps : List Str} {k : Nat} {sp : Sp} (F : qQ K x st) (g : mg x = some (.ref (He.ga K x))) (S : FnScope N ps (defScope st)) (len : ∀ vs H Q E, sp vs H Q E -> vs.length = ps.length)
  (bnd : ∀ (kV doc pm : Value) (an : Option Addr) (cdv ct : Value) (us : List Value), us.length = ps.length -> bindArgs (dP x x (defArgs st) (defBody st) (defScope st) .none kV doc pm an cdv ct) ⟨us, []⟩ = pure (ps.zip us))
  (hbody : ∀ (cdv : Value) (A : Around) (outer : List Env) (s : Shared) (H : Hp) (vs : List V) (Q : VK) (E : XK), Room k (A.deeper (envOfC x (defScope st) s.heap.objs.size (He.ga K x) cdv)) -> sp vs H Q E ->
   ∃ t, PSs (cxOf (L2.CX P w) P w K mg base N x (defScope st) (He.ga K x) cdv A outer s H E) (defBody st) t /\ t { nx := fun _ H' => Q .non H', rt := Q } (start N vs) H) : pZ P w K mg base (k + 1) x ps sp := by
 obtain ⟨fd, F⟩ := F;refine ⟨fd, ?_, g, F.kp, F.bindsN bnd⟩
 obtain ⟨oc, od, dV, kV, doc, pm, an, cdv, ct, osl, e, lk, hc⟩ := F.ex;subst e;exact fn_of lk hc.1 S len fun A outer s H vs Q E hr hsp => hbody cdv A outer s H vs Q E hr hsp
end
def Mb : WX := fun _ _ _ _ => False
def PU (K : aD) (T U : String) : V -> Hp -> (Bool -> Prop) -> Prop := fun x H Q => match x with
 | .non => Q false
 | .bl _ => Q (isTy T "bool" || isTy U "bool")
 | .int _ => Q (isTy T "int" || isTy U "int")
 | .str _ => Q (isTy T "str" || isTy U "str")
 | .ref a => ∃ n, CF K H a n /\ Q (isTy T n || isTy U n)
 | _ => False
def MJ (K : aD) (T U : String) : List V -> Hp -> VK -> Prop := fun xs H Q => match xs with
 | [x, .ref tp] => H tp = some (.tup [.ty T, .ty U]) /\ PU K T U x H fun b => Q (.bl b) H
 | _ => False
def cIsE2 (K : aD) (T U : String) (ta : TE) : TE := tCB (MJ K T U) (tCons ta (tCons (tTup (tCons (tC (.ty T)) (tCons (tC (.ty U)) tNil))) tNil))
section
variable {X : Cx} {a : Expr} {ta : TE} {pos p : Pos}
theorem NP {K : aD} {n T U : String} (hn : n ∈ kinds) (hT : T ∈ targets) (hU : U ∈ targets) : PySem.W.kitAny K (.type n) [.type T, .type U] = some (isTy T n || isTy U n) := by
 have h1 := Gp (K := K) hn hT;have h2 := Gp (K := K) hn hU;cases e1 : isTy T n with
 | true =>
  rw [e1] at h1;exact kitAny_cons h1 (fun z => by cases z) fun _ => rfl
 | false =>
  rw [e1] at h1;refine kitAny_cons h1 (fun _ => ?_) (fun z => by cases z)
  cases e2 : isTy U n with
  | true =>
   rw [e2] at h2;exact kitAny_cons h2 (fun z => by cases z) fun _ => rfl
  | false =>
   rw [e2] at h2;exact kitAny_cons h2 (fun _ => rfl) (fun z => by cases z)
theorem Jk {T U : String} (hT : T ∈ targets) (hU : U ∈ targets) : CallR X (.builtin "isinstance") (MJ X.K T U) := lS call_isiT fun xs H Q h => by
 match xs, h with
 | [x, .ref tp], ⟨ht, h⟩ =>
  have go : ∀ (k : String) (b : Bool), k ∈ kinds -> TyX X.K H x (.type k) -> b = (isTy T k || isTy U k) -> Q (.bl b) H -> rIsiT X.K [x, .ref tp] H Q := fun k b hk ty e q => ⟨x, tp, _, .type k, [.type T, .type U], _, rfl, ht, .cons (.ty T) (.cons (.ty U) .nil), ty, NP hk hT hU, by rw [<- e]; exact q⟩
  cases x with
  | non =>
   refine go "NoneType" false (by decide) (.base .non) ?_ h
   have : ∀ T ∈ targets, isTy T "NoneType" = false := by decide
   rw [this T hT, this U hU];rfl
  | bl b => exact go "bool" _ (by decide) (.base (.bl b)) rfl h
  | int b => exact go "int" _ (by decide) (.base (.int b)) rfl h
  | str b => exact go "str" _ (by decide) (.base (.str b)) rfl h
  | ref a =>
   obtain ⟨k, ⟨hk, ty⟩, q⟩ := h;have h3 : k = "list" \/ k = "tuple" \/ k = "dict" := by simpa using hk
   exact go k _ (by rcases h3 with e | e | e <;> subst e <;> decide) ty rfl q
  | _ => exact h.elim
theorem RP {q1 q2 tpos : Pos} {j : Nat} {T U : String} {y z : Str} (hm : X.mg "isinstance" = none) (hmT : X.mg y = none) (hmU : X.mg z = none) (ha : PE X a ta) (hT : T ∈ targets := by decide) (hU : U ∈ targets := by decide)
  (hv : bootBuiltins y = some (.type T) := by decide +kernel) (hw : bootBuiltins z = some (.type U) := by decide +kernel) (hg : Gl X "isinstance" := by rfl) (hgT : Gl X y := by rfl) (hgU : Gl X z := by rfl) (hn : y ≠ "__name__" := by decide) (hd : (y == ("__debug__" : Str)) = false := by decide) (hn2 : z ≠ "__name__" := by decide) (hd2 : (z == ("__debug__" : Str)) = false := by decide)
  (hs : starEach [a, .Tuple [.Name y q1, .Name z q2] j tpos] X.env = (false, eval a X.env) :: starEach [.Tuple [.Name y q1, .Name z q2] j tpos] X.env := by rfl) :
  PE X (.Call (.Name "isinstance" p) [a, .Tuple [.Name y q1, .Name z q2] j tpos] [] pos) (cIsE2 X.K T U ta) :=
 pe_callB (Jk hT hU) hg hm boot_isinstance (pa_cons ha (pa_cons (pe_tup (pa_cons (pe_bltn (v := .ty T) hgT hmT hv rfl hn hd) (pa_cons (pe_bltn (v := .ty U) hgU hmU hw rfl hn2 hd2) pa_nil))) pa_nil) hs) (he := hs)
end
structure OkMX (P : Program) (w : World) (K : aD) (mg : Str -> Option Value) (base : Heap) (k : Nat) (C m : Str) (ps : List Str) (sp : Sp) : Prop where
 ex : ∃ fd, FnOk P w K mg base (L2.CX P w) k (He.ma K (He.ga K C) m) fd ps sp /\ Binds K fd ps []
 mt : Meth K (He.ga K C) m (He.ma K (He.ga K C) m)
section
variable {X : Cx} {o e : Expr} {es : List Expr} {t : TA} {ta : TE} {apos pos p : Pos} {C m x : Str} {ps : List Str} {sp : Sp} {k j : Nat} {E : XK} {W : WX}
def cMeth (C : Addr) (m : Str) (sp : Sp) (E : XK) (ta : TE) (t : TA) : TE := fun σ H Q => ta σ H fun x H1 => match x with
 | .ref a => ∃ dx fs, H1 a = some (.ins C dx fs) /\ fs.lookup m = none /\ t σ H1 fun vs H2 => sp (.ref a :: vs) H2 Q E
 | _ => False
def cFld (C : Addr) (f : Str) (ta : TE) : TE := fun σ H Q => ta σ H fun x H1 => match x with
 | .ref a => ∃ dx fs v, H1 a = some (.ins C dx fs) /\ fs.lookup f = some v /\ Q v H1
 | _ => False
theorem e_fld {C : Addr} {f : Str} (c : Cls X.K C) (n : NoAttr X.K C f) (he : PE X e ta) (hb : attributeBase e f X.env (eval e X.env) = eval e X.env := by rfl) : PE X (.Attribute e f pos) (cFld C f ta) := by
 refine ⟨fun pins s σ H Q I h => ?_⟩
 refine attr_of hb (thn (he.run pins s σ H _ I h) fun u s1 hh => ?_)
 obtain ⟨x, H1, I1, rx, hq⟩ := hh;cases x with
 | ref a =>
  obtain ⟨dx, fs, v, ea, l, q⟩ := hq;obtain rfl : u = Value.ref a := rx;exact getattr_ok I1 ea c n l fun _ _ I2 ru => ⟨v, H1, I2, ru, q⟩
 | _ => exact hq.elim
def cSetF (C : Addr) (f : Str) (ta tv : TE) : TS := fun D σ H => tv σ H fun y H1 => ta σ H1 fun x H2 => match x with
 | .ref a => ∃ dx fs, H2 a = some (.ins C dx fs) /\ fs.length < 1000 /\ D.nx σ (upd H2 a (.ins C dx (putF f y fs)))
 | _ => False
theorem Pm {C : Addr} {f : Str} {value : Expr} {tv : TE} {pos' : Pos} (c : Cls X.K C) (n : NoAttr X.K C f) (ha : PE X o ta) (hv : PE X value tv) (hs : swapsWith value (some (.Attribute o f pos')) pos.line X.env = pure false := by rfl) : PS X (.Assign [.Attribute o f pos'] value pos) (cSetF C f ta tv) := by
 refine ⟨fun pins s σ H D I h => ?_⟩
 refine plainObj_wpAny_Assign_Attribute (thn (hv.run pins s σ H _ I h) fun u s1 hh => ?_) hs
 obtain ⟨y, H1, I1, ry, q⟩ := hh;refine thn (ha.run pins s1 σ H1 _ I1 q) fun ov s2 hh => ?_
 obtain ⟨x, H2, I2, rx, hq⟩ := hh;cases x with
 | ref a =>
  obtain ⟨dx, fs, ea, l, q2⟩ := hq;obtain rfl : ov = Value.ref a := rx;exact setattr_ok I2 ea c n l ry fun _ I3 => ⟨σ, _, I3, q2⟩
 | _ => exact hq.elim
structure ClF (K : aD) (mg : Str -> Option Value) (C : Str) : Prop where
 cls : Cls K (He.ga K C)
 mak : Mk K (He.ga K C) (He.ma K (He.ga K C) "__init__")
 glo : mg C = some (.ref (He.ga K C))
def rLenO (C : Addr) (sp : Sp) (E : XK) : V -> Hp -> VK -> Prop := fun x H Q => match x with
 | .ref a => ∃ dx fs, H a = some (.ins C dx fs) /\ sp [.ref a] H (fun v H' => match v with | .int n => (0 <= n /\ n < 2 ^ 62) /\ Q (.int n) H' | _ => False) E
 | _ => False
end
abbrev CK (K : aD) (C m q : Str) (st : Stmt) : Prop := ∃ fd, FunD K m q (defArgs st) (defBody st) (defScope st) [] [] (He.ma K (He.ga K C) m) fd
section
variable {P : Program} {w : World} {K : aD} {mg : Str -> Option Value} {base : Heap}
theorem N9 {C m q : Str} {st : Stmt} {N ps : List Str} {k : Nat} {sp : Sp} (F : CK K C m q st) (g : Meth K (He.ga K C) m (He.ma K (He.ga K C) m)) (S : FnScope N ps (defScope st)) (len : ∀ vs H Q E, sp vs H Q E -> vs.length = ps.length)
  (bnd : ∀ (kV doc pm : Value) (an : Option Addr) (cdv ct : Value) (us : List Value), us.length = ps.length -> bindArgs (dP m q (defArgs st) (defBody st) (defScope st) .none kV doc pm an cdv ct) ⟨us, []⟩ = pure (ps.zip us))
  (hbody : ∀ (cdv : Value) (A : Around) (outer : List Env) (s : Shared) (H : Hp) (vs : List V) (Q : VK) (E : XK), Room k (A.deeper (envOfC q (defScope st) s.heap.objs.size (He.ma K (He.ga K C) m) cdv)) -> sp vs H Q E ->
   ∃ t, PSs (cxOf (L2.CX P w) P w K mg base N q (defScope st) (He.ma K (He.ga K C) m) cdv A outer s H E) (defBody st) t /\ t { nx := fun _ H' => Q .non H', rt := Q } (start N vs) H) : OkMX P w K mg base (k + 1) C m ps sp := by
 obtain ⟨fd, F⟩ := F;exact ⟨⟨fd, FunD.ok F S len fun cdv A outer s H vs Q E hr hsp => hbody cdv A outer s H vs Q E hr hsp, F.bindsN bnd⟩, g⟩
end
inductive D where
 | non | bl (b : Bool) | int (i : Int) | str (x : Str) | lst (xs : List D) | tup (xs : List D) | ins (C : Str) (ns : List Str) (xs : List D) | dct | opq (k : Option (Int × Int))
inductive Vl where
 | dat (d : D) | cel (n : Nat) | cels (ns : List Nat) | scr (ns : List Int) | tc (xs : List (D ⊕ Nat))
inductive Cell where
 | dead | lst (xs : List D) | ins (C : Str) (fs : List (Str × Vl)) | dct (fs : List (Str × Vl)) | lv (xs : List Vl) | dki (ks : List Int) (xs : List Vl) | dkt (ks : List (Int × Int)) (xs : List Vl)
abbrev aN := List Cell
abbrev Ev := List (Option Vl)
structure Er where
 cls : Str
 ns : List Str := []
 xs : List D := []
inductive Res (α : Type) where
 | ok (a : α) (S : aN) | err (e : Er) (S : aN) | stuck
def Res.bind {α β : Type} (r : Res α) (k : α -> aN -> Res β) : Res β := match r with
 | .ok a S => k a S
 | .err e S => .err e S
 | .stuck => .stuck
def lM (φ : List Addr) (S : aN) (a : Addr) : Prop := ∃ (n : Nat) (c : Cell), S[n]? = some c /\ c ≠ .dead /\ φ[n]? = some a
def lJ (B : Addr -> Prop) (φ : List Addr) (S : aN) (a : Addr) : Prop := B a \/ lM φ S a
mutual
/-- the tree d is at v -/
def Rep (K : aD) (Bk : Addr -> Prop) (H : Hp) : D -> V -> Prop
 | .non, v => v = .non
 | .bl b, v => v = .bl b
 | .int i, v => v = .int i
 | .str x, v => v = .str x
 | .lst ds, v => ∃ a vs, v = .ref a /\ ¬ Bk a /\ H a = some (.lst vs) /\ RepL K Bk H ds vs
 | .tup ds, v => ∃ a vs, v = .ref a /\ SqT K H a vs /\ RepL K Bk H ds vs
 | .ins C ns ds, v => ∃ a dx vs, v = .ref a /\ ¬ Bk a /\ H a = some (.ins (He.ga K C) dx (ns.zip vs)) /\ RepL K Bk H ds vs
 | .dct, v => ∃ a, v = .ref a /\ ¬ Bk a /\ H a = some (.dK [])
 | .opq none, v => ∃ a, v = .ref a
 | .opq (some k), v => ∃ a, v = .ref a /\ ¬ Bk a /\ H a = some (.tup [.int k.1, .int k.2])
def RepL (K : aD) (Bk : Addr -> Prop) (H : Hp) : List D -> List V -> Prop
 | [], vs => vs = []
 | d :: ds, vs => ∃ v ws, vs = v :: ws /\ Rep K Bk H d v /\ RepL K Bk H ds ws
end
structure Kp (Bk : Addr -> Prop) (H : Hp) (Bk' : Addr -> Prop) (H' : Hp) : Prop where
 old : ∀ b o, H b = some o -> ¬ Bk b -> H' b = some o /\ ¬ Bk' b
 tup : ∀ b u, Rd H b (.tup u) -> Rd H' b (.tup u)
theorem SqT.kp {K : aD} {H H' : Hp} {a : Addr} {vs : List V} (t : ∀ b u, Rd H b (.tup u) -> Rd H' b (.tup u)) (h : SqT K H a vs) : SqT K H' a vs := by
 rcases h with h | h
 ·exact .inl (t _ _ h)
 ·exact .inr h
mutual
theorem Rep.kp {K : aD} {Bk Bk' : Addr -> Prop} {H H' : Hp} (k' : Kp Bk H Bk' H') : ∀ (d : D) (v : V), Rep K Bk H d v -> Rep K Bk' H' d v
 | .non, v, h => h
 | .bl b, v, h => h
 | .int i, v, h => h
 | .str x, v, h => h
 | .lst ds, v, ⟨a, vs, e, nb, h, r⟩ => ⟨a, vs, e, (k'.old _ _ h nb).2, (k'.old _ _ h nb).1, RepL.kp k' ds vs r⟩
 | .tup ds, v, ⟨a, vs, e, h, r⟩ => ⟨a, vs, e, SqT.kp k'.tup h, RepL.kp k' ds vs r⟩
 | .ins C ns ds, v, ⟨a, dx, vs, e, nb, h, r⟩ => ⟨a, dx, vs, e, (k'.old _ _ h nb).2, (k'.old _ _ h nb).1, RepL.kp k' ds vs r⟩
 | .dct, v, ⟨a, e, nb, h⟩ => ⟨a, e, (k'.old _ _ h nb).2, (k'.old _ _ h nb).1⟩
 | .opq none, v, h => h
 | .opq (some k), v, ⟨a, e, nb, h⟩ => ⟨a, e, (k'.old _ _ h nb).2, (k'.old _ _ h nb).1⟩
theorem RepL.kp {K : aD} {Bk Bk' : Addr -> Prop} {H H' : Hp} (k : Kp Bk H Bk' H') : ∀ (ds : List D) (vs : List V), RepL K Bk H ds vs -> RepL K Bk' H' ds vs
 | [], vs, h => h
 | d :: ds, vs, ⟨v, ws, e, h1, h2⟩ => ⟨v, ws, e, Rep.kp k d v h1, RepL.kp k ds ws h2⟩
end
def ScrAt (K : aD) (H : Hp) (a : Addr) (vs : List V) : Prop := (∃ o, H a = some (.frz o (.lst vs))) \/ SqL K (fun _ => none) a vs
theorem ScrAt.sq {K : aD} {H : Hp} {a : Addr} {vs : List V} (h : ScrAt K H a vs) : SqL K H a vs := by
 rcases h with ⟨o, h⟩ | (h | ⟨o, h⟩) | h
 ·exact .inl (.inr ⟨o, h⟩)
 ·cases h
 ·cases h
 ·exact .inr h
theorem ScrAt.keep {K : aD} {H H' : Hp} {a : Addr} {vs : List V} (h : ScrAt K H a vs) (k : ∀ o u, H a = some (.frz o u) -> H' a = some (.frz o u)) : ScrAt K H' a vs := by
 rcases h with ⟨o, h⟩ | h
 ·exact .inl ⟨o, k _ _ h⟩
 ·exact .inr h
def RepI (K : aD) (Bk : Addr -> Prop) (φ : List Addr) (H : Hp) : D ⊕ Nat -> V -> Prop
 | .inl d, v => Rep K Bk H d v
 | .inr n, v => ∃ a, v = .ref a /\ φ[n]? = some a
def RepIs (K : aD) (Bk : Addr -> Prop) (φ : List Addr) (H : Hp) : List (D ⊕ Nat) -> List V -> Prop
 | [], vs => vs = []
 | x :: xs, vs => ∃ v ws, vs = v :: ws /\ RepI K Bk φ H x v /\ RepIs K Bk φ H xs ws
theorem RepI.kp {K : aD} {Bk Bk' : Addr -> Prop} {φ φ' : List Addr} {H H' : Hp} (k : Kp Bk H Bk' H') (hφ : ∀ (n : Nat) (a : Addr), φ[n]? = some a -> φ'[n]? = some a) : ∀ {x : D ⊕ Nat} {v : V}, RepI K Bk φ H x v -> RepI K Bk' φ' H' x v
 | .inl d, v, h => Rep.kp k d v h
 | .inr n, v, ⟨a, h1, h2⟩ => ⟨a, h1, hφ _ _ h2⟩
theorem RepIs.kp {K : aD} {Bk Bk' : Addr -> Prop} {φ φ' : List Addr} {H H' : Hp} (k : Kp Bk H Bk' H') (hφ : ∀ (n : Nat) (a : Addr), φ[n]? = some a -> φ'[n]? = some a) : ∀ {xs : List (D ⊕ Nat)} {vs : List V}, RepIs K Bk φ H xs vs -> RepIs K Bk' φ' H' xs vs
 | [], vs, h => h
 | x :: xs, vs, ⟨v, ws, e, h1, h2⟩ => ⟨v, ws, e, h1.kp k hφ, RepIs.kp k hφ h2⟩
def RepV (K : aD) (B : Addr -> Prop) (φ : List Addr) (S : aN) (H : Hp) : Vl -> V -> Prop
 | .dat d, v => Rep K (lJ B φ S) H d v
 | .cel n, v => ∃ a, v = .ref a /\ φ[n]? = some a
 | .cels ns, v => ∃ (a : Addr) (as : List Addr), v = .ref a /\ ¬ lJ B φ S a /\ H a = some (.lst (as.map V.ref)) /\ ns.map (fun n => φ[n]?) = as.map some
 | .scr ns, v => ∃ a, v = .ref a /\ ScrAt K H a (ns.map V.int)
 | .tc xs, v => ∃ a vs, v = .ref a /\ SqT K H a vs /\ RepIs K (lJ B φ S) φ H xs vs
def RepVs (K : aD) (B : Addr -> Prop) (φ : List Addr) (S : aN) (H : Hp) : List Vl -> List V -> Prop
 | [], vs => vs = []
 | d :: ds, vs => ∃ v ws, vs = v :: ws /\ RepV K B φ S H d v /\ RepVs K B φ S H ds ws
def RepF (K : aD) (B : Addr -> Prop) (φ : List Addr) (S : aN) (H : Hp) : List (Str × Vl) -> List (Str × V) -> Prop
 | [], vs => vs = []
 | d :: ds, vs => ∃ v ws, vs = (d.1, v) :: ws /\ RepV K B φ S H d.2 v /\ RepF K B φ S H ds ws
def kvOf (fs : List (Str × V)) : List (Key × V) := fs.map fun p => (Sum.inr p.1, p.2)
def kvI (ks : List Int) (vs : List V) : List (Key × V) := (ks.map Sum.inl).zip vs
def kvT (ks : List (Int × Int)) (vs : List V) : List (List Key × V) := (ks.map fun p => [Sum.inl p.1, Sum.inl p.2]).zip vs
def HW (K : aD) (B : Addr -> Prop) (φ : List Addr) (S : aN) (H : Hp) : Cell -> Addr -> Prop
 | .dead, _ => True
 | .lst ds, a => ∃ vs, H a = some (.lst vs) /\ RepL K (lJ B φ S) H ds vs
 | .ins C fs, a => ∃ dx vfs, H a = some (.ins (He.ga K C) dx vfs) /\ RepF K B φ S H fs vfs
 | .dct fs, a => ∃ vfs, H a = some (.dK (kvOf vfs)) /\ RepF K B φ S H fs vfs
 | .lv xs, a => ∃ vs, H a = some (.lst vs) /\ RepVs K B φ S H xs vs
 | .dki ks xs, a => ∃ vs, H a = some (.dK (kvI ks vs)) /\ RepVs K B φ S H xs vs
 | .dkt ks xs, a => ∃ vs, H a = some (.dT (kvT ks vs)) /\ RepVs K B φ S H xs vs
structure GInv (K : aD) (B : Addr -> Prop) (φ : List Addr) (S : aN) (H : Hp) : Prop where
 len : φ.length = S.length
 ok : ∀ (n : Nat) (c : Cell) (a : Addr), S[n]? = some c -> φ[n]? = some a -> HW K B φ S H c a
 inj : ∀ (n m : Nat) (c c' : Cell) (a : Addr), S[n]? = some c -> c ≠ .dead -> S[m]? = some c' -> c' ≠ .dead -> φ[n]? = some a -> φ[m]? = some a -> n = m
 blk : ∀ a, lM φ S a -> ¬ B a
 btr : ∀ a, B a -> ∃ o, H a = some o
structure Ext (φ : List Addr) (S : aN) (H : Hp) (φ' : List Addr) (S' : aN) (H' : Hp) : Prop where
 old : ∀ b o, H b = some o -> ¬ lM φ S b -> H' b = some o /\ ¬ lM φ' S' b
 ids : ∀ (n : Nat) (a : Addr), φ[n]? = some a -> φ'[n]? = some a
section
variable {K : aD} {B : Addr -> Prop} {φ φ' φ₂ : List Addr} {S S' S₂ : aN} {H H' H₂ : Hp}
theorem Ext.refl : Ext φ S H φ S H := ⟨fun _ _ h n => ⟨h, n⟩, fun _ _ h => h⟩
theorem Ext.trans (a : Ext φ S H φ' S' H') (b : Ext φ' S' H' φ₂ S₂ H₂) : Ext φ S H φ₂ S₂ H₂ :=
 ⟨fun c o h n => b.old c o (a.old c o h n).1 (a.old c o h n).2, fun n x h => b.ids n x (a.ids n x h)⟩
theorem GInv.at_ (I : GInv K B φ S H) {a : Addr} (h : lM φ S a) : (∃ vs, H a = some (.lst vs)) \/ (∃ C dx fs, H a = some (.ins C dx fs)) \/ (∃ kvs, H a = some (.dK kvs)) \/ ∃ kvs, H a = some (.dT kvs) := by
 obtain ⟨n, c, h1, h2, h3⟩ := h;have q := I.ok n c a h1 h3;cases c with
 | dead => exact absurd rfl h2
 | lst ds => obtain ⟨vs, e, _⟩ := q; exact .inl ⟨vs, e⟩
 | ins C fs => obtain ⟨dx, vs, e, _⟩ := q; exact .inr (.inl ⟨_, dx, vs, e⟩)
 | dct fs => obtain ⟨vs, e, _⟩ := q; exact .inr (.inr (.inl ⟨_, e⟩))
 | lv xs => obtain ⟨vs, e, _⟩ := q; exact .inl ⟨vs, e⟩
 | dki ks xs => obtain ⟨vs, e, _⟩ := q; exact .inr (.inr (.inl ⟨_, e⟩))
 | dkt ks xs => obtain ⟨vs, e, _⟩ := q; exact .inr (.inr (.inr ⟨_, e⟩))
theorem GInv.some_ (I : GInv K B φ S H) {a : Addr} (h : lM φ S a) : H a ≠ none := by
 rcases I.at_ h with ⟨_, e⟩ | ⟨_, _, _, e⟩ | ⟨_, e⟩ | ⟨_, e⟩ <;> rw [e] <;> simp
theorem GInv.fresh (I : GInv K B φ S H) {a : Addr} (h : H a = none) : ¬ lM φ S a := fun q => I.some_ q h
theorem GInv.nblk (I : GInv K B φ S H) {a : Addr} (h : H a = none) : ¬ lJ B φ S a := fun q => by
 rcases q with q | q
 ·obtain ⟨u, e⟩ := I.btr a q; rw [h] at e; cases e
 ·exact I.fresh h q
theorem GInv.ntup (I : GInv K B φ S H) {a : Addr} {xs : List V} (h : H a = some (.tup xs)) : ¬ lM φ S a := fun q => by
 rcases I.at_ q with ⟨_, e⟩ | ⟨_, _, _, e⟩ | ⟨_, e⟩ | ⟨_, e⟩ <;> rw [h] at e <;> cases e
theorem GInv.nfrz (I : GInv K B φ S H) {a : Addr} {o : Obj} {u : HO} (h : H a = some (.frz o u)) : ¬ lM φ S a := fun q => by
 rcases I.at_ q with ⟨_, e⟩ | ⟨_, _, _, e⟩ | ⟨_, e⟩ | ⟨_, e⟩ <;> rw [h] at e <;> cases e
theorem Ext.kp (e : Ext φ S H φ' S' H') (I : GInv K B φ S H) : Kp (lJ B φ S) H (lJ B φ' S') H' where
 old := fun b o h n => by
  obtain ⟨h1, h2⟩ := e.old b o h (fun q => n (.inr q))
  exact ⟨h1, fun q => by
   rcases q with q | q
   ·exact n (.inl q)
   ·exact h2 q⟩
 tup := fun b u h => by
  rcases h with h | ⟨o, h⟩
  ·exact .inl (e.old _ _ h (I.ntup h)).1
  ·exact .inr ⟨o, (e.old _ _ h (I.nfrz h)).1⟩
theorem Ay (e : ∀ (n : Nat) (a : Addr), φ[n]? = some a -> φ'[n]? = some a) : ∀ (ns : List Nat) (as : List Addr), ns.map (fun n => φ[n]?) = as.map some -> ns.map (fun n => φ'[n]?) = as.map some
 | [], as, h => h
 | n :: ns, [], h => by simp at h
 | n :: ns, a :: as, h => by
  simp only [bA, List.cons.injEq] at h ⊢;exact ⟨e _ _ h.1, Ay e ns as h.2⟩
theorem RepV.ext (e : Ext φ S H φ' S' H') (I : GInv K B φ S H) : ∀ {d : Vl} {v : V}, RepV K B φ S H d v -> RepV K B φ' S' H' d v
 | .dat d, v, h => Rep.kp (e.kp I) d v h
 | .cel n, v, ⟨a, h1, h2⟩ => ⟨a, h1, e.ids _ _ h2⟩
 | .cels ns, v, ⟨a, as, h1, h2, h3, h4⟩ => ⟨a, as, h1, ((e.kp I).old _ _ h3 h2).2, ((e.kp I).old _ _ h3 h2).1, Ay e.ids ns as h4⟩
 | .scr ns, v, ⟨a, h1, h2⟩ => ⟨a, h1, h2.keep fun o u h => (e.old _ _ h (I.nfrz h)).1⟩
 | .tc xs, v, ⟨a, vs, h1, h2, h3⟩ => ⟨a, vs, h1, SqT.kp (e.kp I).tup h2, h3.kp (e.kp I) e.ids⟩
theorem RepVs.ext (e : Ext φ S H φ' S' H') (I : GInv K B φ S H) : ∀ {ds : List Vl} {vs : List V}, RepVs K B φ S H ds vs -> RepVs K B φ' S' H' ds vs
 | [], vs, h => h
 | d :: ds, vs, ⟨v, ws, e1, h1, h2⟩ => ⟨v, ws, e1, h1.ext e I, RepVs.ext e I h2⟩
theorem RepF.ext (e : Ext φ S H φ' S' H') (I : GInv K B φ S H) : ∀ {ds : List (Str × Vl)} {vs : List (Str × V)}, RepF K B φ S H ds vs -> RepF K B φ' S' H' ds vs
 | [], vs, h => h
 | d :: ds, vs, ⟨v, ws, e1, h1, h2⟩ => ⟨v, ws, e1, h1.ext e I, RepF.ext e I h2⟩
theorem Ext.repL (e : Ext φ S H φ' S' H') (I : GInv K B φ S H) {ds : List D} {vs : List V} (h : RepL K (lJ B φ S) H ds vs) : RepL K (lJ B φ' S') H' ds vs := RepL.kp (e.kp I) ds vs h
theorem eU {B' : Addr -> Prop} (hV : ∀ {d : Vl} {v : V}, RepV K B φ S H d v -> RepV K B' φ' S' H' d v) : ∀ {ds : List Vl} {vs : List V}, RepVs K B φ S H ds vs -> RepVs K B' φ' S' H' ds vs
 | [], vs, h => h
 | d :: ds, vs, ⟨v, ws, e1, h1, h2⟩ => ⟨v, ws, e1, hV h1, eU hV h2⟩
def RepE (K : aD) (B : Addr -> Prop) (φ : List Addr) (S : aN) (H : Hp) (ρ : Ev) (σ : L2.St) : Prop :=
 ρ.length = σ.length /\ ∀ (i : Nat) (d : Vl), ρ[i]? = some (some d) -> ∃ v, σ[i]? = some (some v) /\ RepV K B φ S H d v
theorem RepE.ext {ρ : Ev} {σ : L2.St} (e : Ext φ S H φ' S' H') (I : GInv K B φ S H) (h : RepE K B φ S H ρ σ) : RepE K B φ' S' H' ρ σ :=
 ⟨h.1, fun i d q => by
  obtain ⟨v, h1, h2⟩ := h.2 i d q;exact ⟨v, h1, h2.ext e I⟩⟩
theorem RepE.set {ρ : Ev} {σ : L2.St} {d : Vl} {v : V} (h : RepE K B φ S H ρ σ) (r : RepV K B φ S H d v) (i : Nat) : RepE K B φ S H (ρ.set i (some d)) (σ.set i (some v)) := by
 refine ⟨by simp [h.1], fun j d' q => ?_⟩
 rw [aQ] at q ⊢
 by_cases e : i = j
 ·subst e
  rw [if_pos rfl] at q ⊢
  by_cases hl : i < ρ.length
  ·rw [if_pos hl] at q
   cases q;rw [if_pos (by rw [<- h.1]; exact hl)]
   exact ⟨v, rfl, r⟩
  ·rw [if_neg hl] at q; cases q
 ·rw [if_neg e] at q ⊢
  exact h.2 j d' q
theorem RepE.forget {ρ : Ev} {σ : L2.St} (h : RepE K B φ S H ρ σ) (i : Nat) : RepE K B φ S H (ρ.set i none) σ := by
 refine ⟨by simp [h.1], fun j d' q => ?_⟩
 rw [aQ] at q
 by_cases e : i = j
 ·subst e
  rw [if_pos rfl] at q
  by_cases hl : i < ρ.length
  ·rw [if_pos hl] at q; cases q
  ·rw [if_neg hl] at q; cases q
 ·rw [if_neg e] at q
  exact h.2 j d' q
theorem rR {x : Cell} {p a : Addr} (hl : φ.length = S.length) : lM (φ ++ [p]) (S ++ [x]) a ↔ lM φ S a \/ (x ≠ .dead /\ a = p) := by
 constructor
 ·rintro ⟨n, c, h1, h2, h3⟩
  by_cases hn : n < S.length
  ·rw [aT hn] at h1
   rw [aT (by omega)] at h3
   exact .inl ⟨n, c, h1, h2, h3⟩
  ·have e : n = S.length := by
    have := (aJ.mp h1).1;simp at this;omega
   subst e;rw [cM (cN _)] at h1;rw [<- hl, cM (cN _)] at h3;simp at h1 h3;subst h1;exact .inr ⟨h2, h3.symm⟩
 ·rintro (⟨n, c, h1, h2, h3⟩ | ⟨h, rfl⟩)
  ·exact ⟨n, c, by rw [aT (aJ.mp h1).1]; exact h1, h2, by rw [aT (aJ.mp h3).1]; exact h3⟩
  ·exact ⟨S.length, x, by simp, h, by rw [<- hl]; simp⟩
theorem Ext.new {p : Addr} {o : HO} (I : GInv K B φ S H) (hp : H p = none) : Ext φ S H φ S (upd H p o) :=
 ⟨fun b u h n => ⟨by rw [upd_ne (ne_of_none h hp)]; exact h, n⟩, fun _ _ h => h⟩
theorem GInv.mono {o : Ext φ S H φ S H'} (I : GInv K B φ S H) (h : ∀ (n : Nat) (c : Cell) (a : Addr), S[n]? = some c -> c ≠ .dead -> φ[n]? = some a -> H' a = H a) : GInv K B φ S H' where
 len := I.len
 ok := fun n c a h1 h2 => by
  have q := I.ok n c a h1 h2;cases c with
  | dead => trivial
  | lst ds => obtain ⟨vs, e, r⟩ := q; exact ⟨vs, by rw [h n _ a h1 (by simp) h2]; exact e, o.repL I r⟩
  | ins C fs => obtain ⟨dx, vs, e, r⟩ := q; exact ⟨dx, vs, by rw [h n _ a h1 (by simp) h2]; exact e, r.ext o I⟩
  | dct fs => obtain ⟨vs, e, r⟩ := q; exact ⟨vs, by rw [h n _ a h1 (by simp) h2]; exact e, r.ext o I⟩
  | lv xs => obtain ⟨vs, e, r⟩ := q; exact ⟨vs, by rw [h n _ a h1 (by simp) h2]; exact e, r.ext o I⟩
  | dki ks xs => obtain ⟨vs, e, r⟩ := q; exact ⟨vs, by rw [h n _ a h1 (by simp) h2]; exact e, r.ext o I⟩
  | dkt ks xs => obtain ⟨vs, e, r⟩ := q; exact ⟨vs, by rw [h n _ a h1 (by simp) h2]; exact e, r.ext o I⟩
 inj := I.inj
 blk := I.blk
 btr := fun a h => by
  obtain ⟨u, e⟩ := I.btr a h;exact ⟨u, (o.old a u e fun q => I.blk a q h).1⟩
theorem GInv.new {p : Addr} {o : HO} (I : GInv K B φ S H) (hp : H p = none) : GInv K B φ S (upd H p o) :=
 GInv.mono (o := Ext.new I hp) I fun n c a h1 h2 h3 => by
  rw [upd_ne];intro e;subst e;exact I.fresh hp ⟨n, c, h1, h2, h3⟩
theorem Ext.newC {p : Addr} {o : HO} {x : Cell} (I : GInv K B φ S H) (hp : H p = none) : Ext φ S H (φ ++ [p]) (S ++ [x]) (upd H p o) where
 old := fun b u h n => by
  have hb : b ≠ p := ne_of_none h hp;exact ⟨by rw [upd_ne hb]; exact h, fun q => by
   rcases (rR I.len).mp q with q | ⟨_, q⟩
   ·exact n q
   ·exact hb q⟩
 ids := fun n a h => by rw [aT (aJ.mp h).1]; exact h
theorem GInv.newC {p : Addr} {o : HO} {x : Cell} (I : GInv K B φ S H) (hp : H p = none) (hx : x ≠ .dead -> HW K B (φ ++ [p]) (S ++ [x]) (upd H p o) x p) : GInv K B (φ ++ [p]) (S ++ [x]) (upd H p o) where
 len := by simp [I.len]
 ok := fun n c a h1 h2 => by
  by_cases hn : n < S.length
  ·rw [aT hn] at h1
   rw [aT (by rw [I.len]; exact hn)] at h2
   have q := I.ok n c a h1 h2;have ex := Ext.newC (o := o) (x := x) I hp;have ha : c ≠ .dead -> upd H p o a = H a := fun hc => by
    rw [upd_ne];intro e;subst e;exact I.fresh hp ⟨n, c, h1, hc, h2⟩
   cases c with
   | dead => trivial
   | lst ds => obtain ⟨vs, e, r⟩ := q; exact ⟨vs, by rw [ha (by simp)]; exact e, ex.repL I r⟩
   | ins C fs => obtain ⟨dx, vs, e, r⟩ := q; exact ⟨dx, vs, by rw [ha (by simp)]; exact e, r.ext ex I⟩
   | dct fs => obtain ⟨vs, e, r⟩ := q; exact ⟨vs, by rw [ha (by simp)]; exact e, r.ext ex I⟩
   | lv xs => obtain ⟨vs, e, r⟩ := q; exact ⟨vs, by rw [ha (by simp)]; exact e, r.ext ex I⟩
   | dki ks xs => obtain ⟨vs, e, r⟩ := q; exact ⟨vs, by rw [ha (by simp)]; exact e, r.ext ex I⟩
   | dkt ks xs => obtain ⟨vs, e, r⟩ := q; exact ⟨vs, by rw [ha (by simp)]; exact e, r.ext ex I⟩
  ·have e : n = S.length := by
    have := (aJ.mp h1).1;simp at this;omega
   subst e;rw [cM (cN _)] at h1;rw [<- I.len, cM (cN _)] at h2;simp at h1 h2;subst h1 h2;cases x with
   | dead => trivial
   | _ => exact hx (by simp)
 inj := fun n m c c' a h1 h2 h3 h4 h5 h6 => by
  have key : ∀ (n : Nat) (c : Cell), (S ++ [x])[n]? = some c -> (n < S.length /\ S[n]? = some c) \/ n = S.length := fun n c h => by
   by_cases hn : n < S.length
   ·rw [aT hn] at h; exact .inl ⟨hn, h⟩
   ·have := (aJ.mp h).1
    simp at this;exact .inr (by omega)
  have kφ : ∀ n : Nat, n < S.length -> (φ ++ [p])[n]? = φ[n]? := fun n hn => aT (by rw [I.len]; exact hn)
  have kp : (φ ++ [p])[S.length]? = some p := by rw [<- I.len]; simp
  rcases key n c h1 with ⟨hn, e1⟩ | e1 <;> rcases key m c' h3 with ⟨hm, e2⟩ | e2
  ·rw [kφ n hn] at h5
   rw [kφ m hm] at h6;exact I.inj n m c c' a e1 h2 e2 h4 h5 h6
  ·subst e2
   rw [kp] at h6;cases h6;rw [kφ n hn] at h5;exact absurd ⟨n, c, e1, h2, h5⟩ (I.fresh hp)
  ·subst e1
   rw [kp] at h5;cases h5;rw [kφ m hm] at h6;exact absurd ⟨m, c', e2, h4, h6⟩ (I.fresh hp)
  ·omega
 blk := fun a h => by
  rcases (rR I.len).mp h with h | ⟨_, h⟩
  ·exact I.blk a h
  ·rw [h]; intro q; obtain ⟨u, e⟩ := I.btr p q; rw [hp] at e; cases e
 btr := fun a h => by
  obtain ⟨u, e⟩ := I.btr a h;exact ⟨u, by rw [upd_ne (ne_of_none e hp)]; exact e⟩
theorem Dj {n : Nat} {c x : Cell} {a : Addr} (h : S[n]? = some c) (hc : c ≠ .dead) (hx : x ≠ .dead) : lM φ (S.set n x) a ↔ lM φ S a := by
 constructor
 ·rintro ⟨m, c', h1, h2, h3⟩
  rw [aQ] at h1
  by_cases e : n = m
  ·subst e
   exact ⟨n, c, h, hc, h3⟩
  ·rw [if_neg e] at h1
   exact ⟨m, c', h1, h2, h3⟩
 ·rintro ⟨m, c', h1, h2, h3⟩
  by_cases e : n = m
  ·subst e
   exact ⟨n, x, by rw [aQ, if_pos rfl, if_pos (aJ.mp h).1], hx, h3⟩
  ·exact ⟨m, c', by rw [aQ, if_neg e]; exact h1, h2, h3⟩
theorem CC {n : Nat} {a : Addr} (h : lM φ (S.set n .dead) a) : lM φ S a := by
 obtain ⟨m, c', h1, h2, h3⟩ := h;rw [aQ] at h1
 by_cases e : n = m
 ·rw [if_pos e] at h1
  by_cases hl : n < S.length
  ·rw [if_pos hl] at h1; cases h1; exact absurd rfl h2
  ·rw [if_neg hl] at h1; cases h1
 ·rw [if_neg e] at h1
  exact ⟨m, c', h1, h2, h3⟩
theorem Ext.put {n : Nat} {c x : Cell} {a : Addr} {o : HO} (hn : S[n]? = some c) (hc : c ≠ .dead) (ha : φ[n]? = some a) (hx : x ≠ .dead) : Ext φ S H φ (S.set n x) (upd H a o) where
 old := fun b u h nb => by
  have hb : b ≠ a := fun e => by subst e; exact nb ⟨n, c, hn, hc, ha⟩
  exact ⟨by rw [upd_ne hb]; exact h, fun q => nb ((Dj hn hc hx).mp q)⟩
 ids := fun _ _ h => h
theorem GInv.put {n : Nat} {c x : Cell} {a : Addr} {o : HO} (I : GInv K B φ S H) (hn : S[n]? = some c) (hc : c ≠ .dead) (ha : φ[n]? = some a) (hx : x ≠ .dead) (ok : HW K B φ (S.set n x) (upd H a o) x a) : GInv K B φ (S.set n x) (upd H a o) where
 len := by simp [I.len]
 ok := fun m c' b h1 h2 => by
  by_cases e : n = m
  ·subst e
   rw [aQ, if_pos rfl, if_pos (aJ.mp hn).1] at h1;cases h1;rw [ha] at h2;cases h2;exact ok
  ·rw [aQ, if_neg e] at h1
   have q := I.ok m c' b h1 h2;have ex := Ext.put (H := H) (o := o) hn hc ha hx;have hb : c' ≠ .dead -> upd H a o b = H b := fun hc' => upd_ne fun e2 => by
    subst e2;exact e (I.inj n m c c' b hn hc h1 hc' ha h2)
   cases c' with
   | dead => trivial
   | lst ds => obtain ⟨vs, e, r⟩ := q; exact ⟨vs, by rw [hb (by simp)]; exact e, ex.repL I r⟩
   | ins C fs => obtain ⟨dx, vs, e, r⟩ := q; exact ⟨dx, vs, by rw [hb (by simp)]; exact e, r.ext ex I⟩
   | dct fs => obtain ⟨vs, e, r⟩ := q; exact ⟨vs, by rw [hb (by simp)]; exact e, r.ext ex I⟩
   | lv xs => obtain ⟨vs, e, r⟩ := q; exact ⟨vs, by rw [hb (by simp)]; exact e, r.ext ex I⟩
   | dki ks xs => obtain ⟨vs, e, r⟩ := q; exact ⟨vs, by rw [hb (by simp)]; exact e, r.ext ex I⟩
   | dkt ks xs => obtain ⟨vs, e, r⟩ := q; exact ⟨vs, by rw [hb (by simp)]; exact e, r.ext ex I⟩
 inj := fun i j d d' b h1 h2 h3 h4 h5 h6 => by
  have key : ∀ (i : Nat) (d : Cell), (S.set n x)[i]? = some d -> d ≠ .dead -> ∃ d0, S[i]? = some d0 /\ d0 ≠ .dead := fun i d h hd => by
   by_cases e : n = i
   ·subst e; exact ⟨c, hn, hc⟩
   ·rw [aQ, if_neg e] at h; exact ⟨d, h, hd⟩
  obtain ⟨d0, e1, e2⟩ := key i d h1 h2;obtain ⟨d1, e3, e4⟩ := key j d' h3 h4;exact I.inj i j d0 d1 b e1 e2 e3 e4 h5 h6
 blk := fun b h => I.blk b ((Dj hn hc hx).mp h)
 btr := fun b h => by
  obtain ⟨u, e⟩ := I.btr b h;exact ⟨u, by rw [upd_ne]; exact e; intro q; subst q; exact I.blk b ⟨n, c, hn, hc, ha⟩ h⟩
theorem Ext.kill {n : Nat} : Ext φ S H φ (S.set n .dead) H := ⟨fun b o h nb => ⟨h, fun q => nb (CC q)⟩, fun _ _ h => h⟩
theorem GInv.kill {n : Nat} (I : GInv K B φ S H) : GInv K B φ (S.set n .dead) H where
 len := by simp [I.len]
 ok := fun m c' b h1 h2 => by
  by_cases e : n = m
  ·rw [aQ, if_pos e] at h1
   by_cases hl : n < S.length
   ·rw [if_pos hl] at h1; cases h1; trivial
   ·rw [if_neg hl] at h1; cases h1
  ·rw [aQ, if_neg e] at h1
   have q := I.ok m c' b h1 h2;have ex := Ext.kill (φ := φ) (S := S) (H := H) (n := n);cases c' with
   | dead => trivial
   | lst ds => obtain ⟨vs, e, r⟩ := q; exact ⟨vs, e, ex.repL I r⟩
   | ins C fs => obtain ⟨dx, vs, e, r⟩ := q; exact ⟨dx, vs, e, r.ext ex I⟩
   | dct fs => obtain ⟨vs, e, r⟩ := q; exact ⟨vs, e, r.ext ex I⟩
   | lv xs => obtain ⟨vs, e, r⟩ := q; exact ⟨vs, e, r.ext ex I⟩
   | dki ks xs => obtain ⟨vs, e, r⟩ := q; exact ⟨vs, e, r.ext ex I⟩
   | dkt ks xs => obtain ⟨vs, e, r⟩ := q; exact ⟨vs, e, r.ext ex I⟩
 inj := fun i j d d' b h1 h2 h3 h4 h5 h6 => by
  have key : ∀ (i : Nat) (d : Cell), (S.set n .dead)[i]? = some d -> d ≠ .dead -> S[i]? = some d := fun i d h hd => by
   rw [aQ] at h
   by_cases e : n = i
   ·rw [if_pos e] at h
    by_cases hl : n < S.length
    ·rw [if_pos hl] at h; cases h; exact absurd rfl hd
    ·rw [if_neg hl] at h; cases h
   ·rw [if_neg e] at h; exact h
  exact I.inj i j d d' b (key i d h1 h2) h2 (key j d' h3 h4) h4 h5 h6
 blk := fun b h => I.blk b (CC h)
 btr := I.btr
theorem GInv.killed {n : Nat} {c : Cell} {a : Addr} (I : GInv K B φ S H) (hn : S[n]? = some c) (hc : c ≠ .dead) (ha : φ[n]? = some a) : ¬ lJ B φ (S.set n .dead) a := fun q => by
 rcases q with q | ⟨m, c', h1, h2, h3⟩
 ·exact I.blk a ⟨n, c, hn, hc, ha⟩ q
 ·rw [aQ] at h1
  by_cases e : n = m
  ·rw [if_pos e] at h1
   by_cases hl : n < S.length
   ·rw [if_pos hl] at h1; cases h1; exact h2 rfl
   ·rw [if_neg hl] at h1; cases h1
  ·rw [if_neg e] at h1
   exact e (I.inj n m c c' a hn hc h1 h2 ha h3)
end
abbrev FE := Ev -> aN -> Res Vl
abbrev FT := Ev -> aN -> Res Bool
abbrev FA := Ev -> aN -> Res (List Vl)
abbrev FO := Ev -> aN -> Res (Option Int)
abbrev Rl (α β : Type) := (Addr -> Prop) -> List Addr -> aN -> Hp -> α -> β -> Prop
def RY (K : aD) (B : Addr -> Prop) (φ : List Addr) (S : aN) (H : Hp) (e : Er) (c : Value) (x : Option Addr) : Prop :=
 c = .ref (He.ga K e.cls) /\ ((e.ns = [] /\ x = none) \/ ∃ d vs, x = some d /\ H d = some (.xd (e.ns.zip vs)) /\ RepL K (lJ B φ S) H e.xs vs)
section
variable {α β α' β' : Type}
def Fin (K : aD) (W : WX) (σ : L2.St) (R : Rl α β) (B : Addr -> Prop) (φ : List Addr) (S : aN) (H : Hp) (r : Res α) (Q : β -> Hp -> Prop) : Prop := match r with
 | .ok d S' => ∀ φ' v H', GInv K B φ' S' H' -> Ext φ S H φ' S' H' -> R B φ' S' H' d v -> Q v H'
 | .err e S' => ∀ φ' c x H', GInv K B φ' S' H' -> Ext φ S H φ' S' H' -> RY K B φ' S' H' e c x -> W c x σ H'
 | .stuck => False
def rd (K : aD) (W : WX) (R : Rl α β) (m : Ev -> aN -> Res α) : L2.St -> Hp -> (β -> Hp -> Prop) -> Prop := fun σ H Q =>
 ∃ B φ S ρ, GInv K B φ S H /\ RepE K B φ S H ρ σ /\ Fin K W σ R B φ S H (m ρ S) Q
end
def RB : Rl Bool Bool := fun _ _ _ _ b c => c = b
def RO : Rl (Option Int) (Option Int) := fun _ _ _ _ b c => c = b
abbrev cO (K : aD) (W : WX) (m : FE) : TE := rd K W (RepV K) m
abbrev wY (K : aD) (W : WX) (m : FT) : TT := rd K W RB m
abbrev Ez (K : aD) (W : WX) (m : FA) : TA := rd K W (RepVs K) m
abbrev rdO (K : aD) (W : WX) (m : FO) : TO := rd K W RO m
section
variable {α β α' β' : Type} {K : aD} {W : WX} {σ : L2.St} {R : Rl α β} {R' : Rl α' β'} {B : Addr -> Prop} {φ φ' : List Addr} {S S' : aN} {H H' : Hp}
theorem Fin.ext {r : Res α} {Q : β -> Hp -> Prop} (f : Fin K W σ R B φ S H r Q) (e : Ext φ S H φ' S' H') : Fin K W σ R B φ' S' H' r Q := by
 cases r with
 | ok d S1 => exact fun φ1 v H1 I1 X r => f φ1 v H1 I1 (e.trans X) r
 | err x S1 => exact fun φ1 c x H1 I1 X r => f φ1 c x H1 I1 (e.trans X) r
 | stuck => exact f
theorem bV {m : Ev -> aN -> Res α} {k : α -> Ev -> aN -> Res α'} {Q : β' -> Hp -> Prop} {Q1 : β -> Hp -> Prop} (h : rd K W R' (fun ρ S => (m ρ S).bind fun a S' => k a ρ S') σ H Q)
  (hk : ∀ B φ S ρ d v H1, GInv K B φ S H1 -> RepE K B φ S H1 ρ σ -> R B φ S H1 d v -> Fin K W σ R' B φ S H1 (k d ρ S) Q -> Q1 v H1) : rd K W R m σ H Q1 := by
 obtain ⟨B, φ, S, ρ, I, E, f⟩ := h;refine ⟨B, φ, S, ρ, I, E, ?_⟩
 dsimp only at f;cases e : m ρ S with
 | stuck => rw [e] at f; exact f
 | err x S' => rw [e] at f; exact f
 | ok d S' =>
  rw [e] at f;exact fun φ' v H' I' X r => hk B φ' S' ρ d v H' I' (E.ext X I) r (Fin.ext f X)
theorem fC {ρ : Ev} {m : Ev -> aN -> Res α} {k : α -> aN -> Res α'} {Q : β' -> Hp -> Prop} {Q1 : β -> Hp -> Prop} (I : GInv K B φ S H) (E : RepE K B φ S H ρ σ) (f : Fin K W σ R' B φ S H ((m ρ S).bind k) Q)
  (hk : ∀ φ' S' d v H1, GInv K B φ' S' H1 -> Ext φ S H φ' S' H1 -> RepE K B φ' S' H1 ρ σ -> R B φ' S' H1 d v -> Fin K W σ R' B φ' S' H1 (k d S') Q -> Q1 v H1) : rd K W R m σ H Q1 := by
 refine ⟨B, φ, S, ρ, I, E, ?_⟩
 cases e : m ρ S with
 | stuck => rw [e] at f; exact f
 | err x S' => rw [e] at f; exact f
 | ok d S' =>
  rw [e] at f;exact fun φ' v H' I' X r => hk φ' S' d v H' I' X (E.ext X I) r (Fin.ext f X)
theorem Fin.now {d : α} {v : β} {Q : β -> Hp -> Prop} (f : Fin K W σ R B φ S H (.ok d S) Q) (I : GInv K B φ S H) (r : R B φ S H d v) : Q v H := f φ v H I Ext.refl r
end
def newL (c : Bool) (ds : List D) (S : aN) : Res Vl := if c then .ok (.cel S.length) (S ++ [.lst ds]) else .ok (.dat (.lst ds)) S
section
variable {K : aD} {W : WX} {σ : L2.St} {B : Addr -> Prop} {φ φ' : List Addr} {S S' : aN} {H H' : Hp} {Q : VK}
theorem pK {l : List Addr} {p : Addr} : (l ++ [p])[l.length]? = some p := by simp
theorem Fin.newT {ds : List D} {vs : List V} {p : Addr} (f : Fin K W σ (RepV K) B φ S H (.ok (.dat (.tup ds)) S) Q) (I : GInv K B φ S H) (r : RepL K (lJ B φ S) H ds vs) (hp : H p = none) : Q (.ref p) (upd H p (.tup vs)) :=
 f φ _ _ (I.new hp) (Ext.new I hp) ⟨p, vs, rfl, .inl (.inl upd_same), (Ext.new I hp).repL I r⟩
theorem Fin.newL {c : Bool} {ds : List D} {vs : List V} {p : Addr} (f : Fin K W σ (RepV K) B φ S H (newL c ds S) Q) (I : GInv K B φ S H) (r : RepL K (lJ B φ S) H ds vs) (hp : H p = none) : Q (.ref p) (upd H p (.lst vs)) := by
 unfold PH.newL at f;cases c with
 | false =>
  refine f φ _ _ (I.new hp) (Ext.new I hp) ⟨p, vs, rfl, I.nblk hp, upd_same, (Ext.new I hp).repL I r⟩
 | true =>
  have X := Ext.newC (o := .lst vs) (x := .lst ds) I hp;refine f (φ ++ [p]) _ _ (I.newC hp fun _ => ⟨vs, upd_same, X.repL I r⟩) X ⟨p, rfl, ?_⟩
  rw [<- I.len];exact pK
end
instance instIntMulOk (a b : Int) : Decidable (IntMulOk a b) := by unfold IntMulOk; infer_instance
instance instCDiv (a b : Int) : Decidable (CDiv a b) := by unfold CDiv; infer_instance
instance instCPow (a b : Int) : Decidable (CPow a b) := by unfold CPow; infer_instance
def lk : Ev -> Nat -> Option Vl
 | [], _ => none
 | x :: _, 0 => x
 | _ :: r, n + 1 => lk r n
theorem DA : ∀ {ρ : Ev} {i : Nat} {d : Vl}, lk ρ i = some d -> ρ[i]? = some (some d)
 | [], _, _, h => by cases h
 | x :: _, 0, d, h => by
  have e : x = some d := h;rw [e]; rfl
 | _ :: r, n + 1, d, h => by
  have e := DA (ρ := r) (i := n) (d := d) h
  simpa using e
def aC (i : Nat) : FE := fun ρ S => match lk ρ i with
 | some d => .ok d S
 | none => .stuck
def mC (d : D) : FE := fun _ S => .ok (.dat d) S
def aS (f : Vl -> Vl -> aN -> Res Vl) (a b : FE) : FE := fun ρ S => (a ρ S).bind fun x S1 => (b ρ S1).bind fun y S2 => f x y S2
def m1 (f : Vl -> aN -> Res Vl) (a : FE) : FE := fun ρ S => (a ρ S).bind fun x S1 => f x S1
def gN (K : aD) (r : R2) (f : Vl -> Vl -> aN -> Res Vl) : Prop := ∀ {W : WX} {σ : L2.St} {B : Addr -> Prop} {φ : List Addr} {S : aN} {H : Hp} {x y : V} {d e : Vl} {Q : VK}, GInv K B φ S H -> RepV K B φ S H d x -> RepV K B φ S H e y -> Fin K W σ (RepV K) B φ S H (f d e S) Q -> r x y H Q
def GJ (K : aD) (r : V -> Hp -> VK -> Prop) (f : Vl -> aN -> Res Vl) : Prop := ∀ {W : WX} {σ : L2.St} {B : Addr -> Prop} {φ : List Addr} {S : aN} {H : Hp} {x : V} {d : Vl} {Q : VK}, GInv K B φ S H -> RepV K B φ S H d x -> Fin K W σ (RepV K) B φ S H (f d S) Q -> r x H Q
section
variable {X : Cx} {W : WX} {e a b c : Expr} {pos p : Pos} {x : Str}
theorem fv (i : Nat) (hN : X.N[i]? = some x := by rfl) (hv : Vis X.env.scope x := by first | exact zE rfl | exact tN (zE rfl) | exact tN (tN rfl)) (hd : (x == ("__debug__" : Str)) = false := by decide)
  (hcd : (x == ("__classdict__" : Str)) = false := by decide) : PE X (.Name x pos) (cO X.K W (aC i)) := dF (pe_var hN hv hd hcd) fun σ H Q h => by
 obtain ⟨B, φ, S, ρ, I, E, f⟩ := h;unfold aC at f;cases q : lk ρ i with
 | none => rw [q] at f; exact f.elim
 | some d =>
  rw [q] at f;obtain ⟨v, h1, h2⟩ := E.2 i d (DA q);exact ⟨v, h1, f.now I h2⟩
theorem M5 {v : V} {d : D} (h : PE X e (tC v)) (r : ∀ Bk H, Rep X.K Bk H d v) : PE X e (cO X.K W (mC d)) := dF h fun σ H Q h => by
 obtain ⟨B, φ, S, ρ, I, E, f⟩ := h;exact Fin.now (v := v) f I (r _ _)
theorem Do {K : aD} {r : R2} {f : Vl -> Vl -> aN -> Res Vl} {ma mb : FE} {σ : L2.St} {H : Hp} {Q : VK} (s : gN K r f) (h : cO K W (aS f ma mb) σ H Q) : tOp r (cO K W ma) (cO K W mb) σ H Q :=
 bV (k := fun x ρ S => (mb ρ S).bind fun y S2 => f x y S2) h fun B φ S ρ d v H1 I E r1 f' => fC I E f' fun φ' S' e w H2 I2 X2 E2 r2 f2 => s I2 (r1.ext X2 I) r2 f2
theorem bZ {op : Operator} {r : R2} {f : Vl -> Vl -> aN -> Res Vl} {ma mb : FE} (o : OpR X (binaryOp op) r) (s : gN X.K r f) (ha : PE X a (cO X.K W ma)) (hb : PE X b (cO X.K W mb)) : PE X (.BinOp a op b pos) (cO X.K W (aS f ma mb)) :=
 dF (pe_op o ha hb) fun σ H Q h => Do s h
theorem oQ {op : CmpOp} {r : R2} {f : Vl -> Vl -> aN -> Res Vl} {ma mb : FE} (o : OpR X (compareOp op) r) (s : gN X.K r f) (ha : PE X a (cO X.K W ma)) (hb : PE X b (cO X.K W mb)) (hm : behindInMarks op b = false := by rfl) : PE X (.Compare a [op] [b] pos) (cO X.K W (aS f ma mb)) :=
 dF (e_cmp o ha hb hm) fun σ H Q h => Do s h
theorem KM {K : aD} {r : V -> Hp -> VK -> Prop} {f : Vl -> aN -> Res Vl} {ma : FE} {σ : L2.St} {H : Hp} {Q : VK} (s : GJ K r f) (h : cO K W (m1 f ma) σ H Q) : cO K W ma σ H fun x H1 => r x H1 Q :=
 bV (k := fun x ρ S => f x S) h fun B φ S ρ d v H1 I E r1 f' => s I r1 f'
def pA : Vl -> Vl -> aN -> Res Vl
 | .dat (.int i), .dat (.int j), S => .ok (.dat (.int (i - j))) S
 | _, _, _ => .stuck
def qM : Vl -> Vl -> aN -> Res Vl
 | .dat (.int i), .dat (.int j), S => if IntMulOk i j then .ok (.dat (.int (i * j))) S else .stuck
 | _, _, _ => .stuck
def xY : Vl -> Vl -> aN -> Res Vl
 | .dat (.int i), .dat (.int j), S => if 0 < j then .ok (.dat (.int (i % j))) S else .stuck
 | _, _, _ => .stuck
def tD : Vl -> Vl -> aN -> Res Vl
 | .dat (.int i), .dat (.int j), S => if CDiv i j then .ok (.dat (.int (i / j))) S else .stuck
 | _, _, _ => .stuck
def Ej : Vl -> Vl -> aN -> Res Vl
 | .dat (.int i), .dat (.int j), S => if CPow i j then .ok (.dat (.int (i ^ j.toNat))) S else .stuck
 | _, _, _ => .stuck
def B7 : Vl -> Vl -> aN -> Res Vl
 | .dat (.int i), .dat (.int j), S => .ok (.dat (.bl (decide (i < j)))) S
 | _, _, _ => .stuck
def F0 : Vl -> Vl -> aN -> Res Vl
 | .dat (.int i), .dat (.int j), S => .ok (.dat (.bl (decide (i <= j)))) S
 | _, _, _ => .stuck
def Ek : Vl -> Vl -> aN -> Res Vl
 | .dat (.int i), .dat (.int j), S => .ok (.dat (.bl (decide (j < i)))) S
 | _, _, _ => .stuck
def fGe : Vl -> Vl -> aN -> Res Vl
 | .dat (.int i), .dat (.int j), S => .ok (.dat (.bl (decide (j <= i)))) S
 | _, _, _ => .stuck
variable {K : aD}
theorem mN : gN K KZ pA := fun {W σ B φ S H x y d e Q} I r1 r2 f => by
 unfold pA at f;split at f
 ·cases r1; cases r2; exact Fin.now f I rfl
 ·exact f.elim
theorem vL : gN K Oi qM := fun {W σ B φ S H x y d e Q} I r1 r2 f => by
 unfold qM at f;split at f
 ·cases r1; cases r2
  split at f
  ·rename_i h; exact ⟨h, Fin.now f I rfl⟩
  ·exact f.elim
 ·exact f.elim
theorem xE : gN K Oj xY := fun {W σ B φ S H x y d e Q} I r1 r2 f => by
 unfold xY at f;split at f
 ·cases r1; cases r2
  split at f
  ·rename_i h; exact ⟨h, Fin.now f I rfl⟩
  ·exact f.elim
 ·exact f.elim
theorem BR : gN K Kb tD := fun {W σ B φ S H x y d e Q} I r1 r2 f => by
 unfold tD at f;split at f
 ·cases r1; cases r2
  split at f
  ·rename_i h; exact ⟨h, Fin.now f I rfl⟩
  ·exact f.elim
 ·exact f.elim
theorem FN : gN K Oh Ej := fun {W σ B φ S H x y d e Q} I r1 r2 f => by
 unfold Ej at f;split at f
 ·cases r1; cases r2
  split at f
  ·rename_i h; exact ⟨h, Fin.now f I rfl⟩
  ·exact f.elim
 ·exact f.elim
theorem tU : gN K rLtC B7 := fun {W σ B φ S H x y d e Q} I r1 r2 f => by
 unfold B7 at f;split at f
 ·cases r1; cases r2; exact Fin.now f I rfl
 ·exact f.elim
theorem Ag : gN K rLeC F0 := fun {W σ B φ S H x y d e Q} I r1 r2 f => by
 unfold F0 at f;split at f
 ·cases r1; cases r2; exact Fin.now f I rfl
 ·exact f.elim
theorem vZ : gN K rGtC Ek := fun {W σ B φ S H x y d e Q} I r1 r2 f => by
 unfold Ek at f;split at f
 ·cases r1; cases r2; exact Fin.now f I rfl
 ·exact f.elim
theorem s_ge : gN K rGeC fGe := fun {W σ B φ S H x y d e Q} I r1 r2 f => by
 unfold fGe at f;split at f
 ·cases r1; cases r2; exact Fin.now f I rfl
 ·exact f.elim
def qL : Vl -> aN -> Res Vl
 | .dat (.int i), S => .ok (.dat (.int (-i))) S
 | _, _ => .stuck
theorem lL {ma : FE} (ha : PE X a (cO X.K W ma)) : PE X (.UnaryOp .USub a pos) (cO X.K W (m1 qL ma)) :=
 dF (pe_un Me ha) fun σ H Q h => KM (r := cNeg) (fun {W σ B φ S H x d Q} I r f => by
  unfold qL at f;split at f
  ·cases r; exact Fin.now f I rfl
  ·exact f.elim) h
theorem RepL.len {Bk : Addr -> Prop} {H : Hp} : ∀ {ds : List D} {vs : List V}, RepL K Bk H ds vs -> vs.length = ds.length
 | [], vs, h => by cases h; rfl
 | d :: ds, vs, ⟨v, ws, e, _, h2⟩ => by subst e; simp [RepL.len h2]
theorem RepL.get {Bk : Addr -> Prop} {H : Hp} : ∀ {ds : List D} {vs : List V} {i : Nat} {d : D}, RepL K Bk H ds vs -> ds[i]? = some d -> ∃ v, vs[i]? = some v /\ Rep K Bk H d v
 | [], vs, i, d, h, q => by simp at q
 | d :: ds, vs, 0, d', ⟨v, ws, e, h1, h2⟩, q => by simp at q; subst q e; exact ⟨v, rfl, h1⟩
 | d :: ds, vs, i + 1, d', ⟨v, ws, e, h1, h2⟩, q => by
  subst e;obtain ⟨v', h3, h4⟩ := RepL.get (i := i) (d := d') h2 (by simpa using q)
  exact ⟨v', by simpa using h3, h4⟩
theorem RepL.append {Bk : Addr -> Prop} {H : Hp} : ∀ {ds es : List D} {vs ws : List V}, RepL K Bk H ds vs -> RepL K Bk H es ws -> RepL K Bk H (ds ++ es) (vs ++ ws)
 | [], es, vs, ws, h, h' => by cases h; exact h'
 | d :: ds, es, vs, ws, ⟨v, us, e, h1, h2⟩, h' => by subst e; exact ⟨v, us ++ ws, rfl, h1, RepL.append h2 h'⟩
theorem RepL.take {Bk : Addr -> Prop} {H : Hp} : ∀ {ds : List D} {vs : List V} (n : Nat), RepL K Bk H ds vs -> RepL K Bk H (ds.take n) (vs.take n)
 | ds, vs, 0, h => by simp [RepL]
 | [], vs, n + 1, h => by cases h; rfl
 | d :: ds, vs, n + 1, ⟨v, us, e, h1, h2⟩ => by subst e; exact ⟨v, us.take n, rfl, h1, RepL.take n h2⟩
theorem RepL.drop {Bk : Addr -> Prop} {H : Hp} : ∀ {ds : List D} {vs : List V} (n : Nat), RepL K Bk H ds vs -> RepL K Bk H (ds.drop n) (vs.drop n)
 | ds, vs, 0, h => h
 | [], vs, n + 1, h => by cases h; rfl
 | d :: ds, vs, n + 1, ⟨v, us, e, h1, h2⟩ => by subst e; exact RepL.drop n h2
theorem RepL.set {Bk : Addr -> Prop} {H : Hp} {d : D} {v : V} (r : Rep K Bk H d v) : ∀ {ds : List D} {vs : List V} (n : Nat), RepL K Bk H ds vs -> RepL K Bk H (ds.set n d) (vs.set n v)
 | [], vs, n, h => by cases h; rfl
 | _ :: ds, vs, 0, ⟨_, us, e, h1, h2⟩ => by subst e; exact ⟨v, us, rfl, r, h2⟩
 | d' :: ds, vs, n + 1, ⟨v', us, e, h1, h2⟩ => by subst e; exact ⟨v', us.set n v, rfl, h1, RepL.set r n h2⟩
theorem RepL.snoc {Bk : Addr -> Prop} {H : Hp} {ds : List D} {vs : List V} {d : D} {v : V} (h : RepL K Bk H ds vs) (r : Rep K Bk H d v) : RepL K Bk H (ds ++ [d]) (vs ++ [v]) := h.append ⟨v, [], rfl, r, rfl⟩
theorem RepL.atI {Bk : Addr -> Prop} {H : Hp} {ds : List D} {vs : List V} {i : Int} {d : D} (h : RepL K Bk H ds vs) (q : L2.atI ds i = some d) : ∃ v, L2.atI vs i = some v /\ Rep K Bk H d v := by
 unfold L2.atI at q ⊢;rw [h.len];cases e : ixN ds.length i with
 | none => rw [e] at q; cases q
 | some j =>
  rw [e] at q;exact h.get (i := j) q
theorem RepVs.len {B : Addr -> Prop} {φ : List Addr} {S : aN} {H : Hp} : ∀ {ds : List Vl} {vs : List V}, RepVs K B φ S H ds vs -> vs.length = ds.length
 | [], vs, h => by cases h; rfl
 | d :: ds, vs, ⟨v, ws, e, _, h2⟩ => by subst e; simp [RepVs.len h2]
def wV : List Vl -> Option (List D)
 | [] => some []
 | .dat d :: r => match wV r with
  | some ds => some (d :: ds)
  | none => none
 | _ :: _ => none
theorem yZ {B : Addr -> Prop} {φ : List Addr} {S : aN} {H : Hp} : ∀ {xs : List Vl} {vs : List V} {ds : List D}, wV xs = some ds -> RepVs K B φ S H xs vs -> RepL K (lJ B φ S) H ds vs
 | [], vs, ds, h, r => by cases h; exact r
 | .dat d :: xs, vs, ds, h, ⟨v, ws, e, h1, h2⟩ => by
  unfold wV at h;cases q : wV xs with
  | none => rw [q] at h; cases h
  | some es => rw [q] at h; cases h; exact ⟨v, ws, e, h1, yZ q h2⟩
 | .cel _ :: xs, vs, ds, h, _ => by cases h
 | .cels _ :: xs, vs, ds, h, _ => by cases h
 | .scr _ :: xs, vs, ds, h, _ => by cases h
 | .tc _ :: xs, vs, ds, h, _ => by cases h
def jE (S : aN) : Vl -> Option (List D)
 | .dat (.lst xs) => some xs
 | .cel n => match S[n]? with
  | some (.lst xs) => some xs
  | _ => none
 | _ => none
theorem lV {B : Addr -> Prop} {φ : List Addr} {S : aN} {H : Hp} {d : Vl} {v : V} {xs : List D} (I : GInv K B φ S H) (h : jE S d = some xs) (r : RepV K B φ S H d v) : ∃ a vs, v = .ref a /\ H a = some (.lst vs) /\ RepL K (lJ B φ S) H xs vs := by
 unfold jE at h;split at h
 ·cases h
  obtain ⟨a, vs, e, _, h1, h2⟩ := r;exact ⟨a, vs, e, h1, h2⟩
 ·rename_i n
  obtain ⟨a, e, h1⟩ := r;split at h
  ·rename_i ys q
   cases h;obtain ⟨vs, h2, h3⟩ := I.ok n _ a q h1;exact ⟨a, vs, e, h2, h3⟩
  ·cases h
 ·cases h
end
section
variable {X : Cx} {W : WX} {e a b c : Expr} {es rest : List Expr} {pos p : Pos} {x : Str} {K : aD} {ma mb mc : FE} {mt mu : FT} {mas : FA} {B : Addr -> Prop} {φ : List Addr} {S : aN} {H : Hp} {σ : L2.St} {Q : VK}
def cL (cl : Bool) (x y : Vl) (S : aN) : Res Vl := match x, y with
 | .dat (.int i), .dat (.int j) => .ok (.dat (.int (i + j))) S
 | .dat (.str a), .dat (.str b) => if a.length + b.length <= sizeLine then .ok (.dat (.str (a ++ b))) S else .stuck
 | .dat (.tup xs), .dat (.tup ys) => if xs.length + ys.length <= sizeLine then .ok (.dat (.tup (xs ++ ys))) S else .stuck
 | x, y => match jE S x, jE S y with
  | some xs, some ys => if xs.length + ys.length <= sizeLine then newL cl (xs ++ ys) S else .stuck
  | _, _ => .stuck
theorem cV {cl : Bool} : gN K (Jl K) (cL cl) := fun {W σ B φ S H x y d e Q} I r1 r2 f => by
 unfold cL at f;split at f
 ·cases r1; cases r2; exact Fin.now f I rfl
 ·cases r1; cases r2
  split at f
  ·rename_i h; exact ⟨h, Fin.now f I rfl⟩
  ·exact f.elim
 ·rename_i xs ys
  obtain ⟨a, vs, rfl, h1, l1⟩ := r1;obtain ⟨b, ws, rfl, h2, l2⟩ := r2;split at f
  ·rename_i h
   refine tN ⟨a, b, vs, ws, rfl, rfl, h1, h2, by rw [l1.len, l2.len]; exact h, fun e => ?_, fun e1 e2 => ?_, fun _ _ p hp => Fin.newT f I (l1.append l2) hp⟩
   ·have l := l1.append l2
    rw [e, kI] at l;exact Fin.now f I ⟨b, ws, rfl, h2, l⟩
   ·have l := l1.append l2
    rw [e2, cZ] at l;exact Fin.now f I ⟨a, vs, rfl, h1, l⟩
  ·exact f.elim
 ·split at f
  ·rename_i xs ys q1 q2
   obtain ⟨a, vs, rfl, h1, l1⟩ := lV I q1 r1;obtain ⟨b, ws, rfl, h2, l2⟩ := lV I q2 r2;split at f
   ·rename_i h
    exact zE ⟨a, b, vs, ws, rfl, rfl, h1, h2, by rw [l1.len, l2.len]; exact h, fun p hp => Fin.newL f I (l1.append l2) hp⟩
   ·exact f.elim
  ·exact f.elim
def bU (x y : Vl) (S : aN) : Res Vl := match x, y with
 | .dat (.tup xs), .dat (.int i) => match atI xs i with
  | some d => .ok (.dat d) S
  | none => .stuck
 | .dat (.str z), .dat (.int i) => if z.length <= sizeLine then (match atI z.cps.toList i with
  | some c => .ok (.dat (.str ⟨#[c]⟩)) S
  | none => .stuck) else .stuck
 | .cels ns, .dat (.int i) => match atI ns i with
  | some n => .ok (.cel n) S
  | none => .stuck
 | x, .dat (.int i) => match jE S x with
  | some xs => (match atI xs i with
   | some d => .ok (.dat d) S
   | none => .stuck)
  | none => .stuck
 | _, _ => .stuck
theorem Es {α β : Type} {f : α -> β} {xs : List α} {i : Int} : atI (xs.map f) i = (atI xs i).map f := by
 unfold atI;rw [bC];cases ixN xs.length i with
 | none => rfl
 | some j => simp
theorem s_ix : gN K (cIx K) bU := fun {W σ B φ S H x y d e Q} I r1 r2 f => by
 unfold bU at f;split at f
 ·cases r2
  obtain ⟨a, vs, rfl, h1, l1⟩ := r1;split at f
  ·rename_i q
   obtain ⟨v, h2, h3⟩ := l1.atI q;exact ⟨vs, v, .inr h1, h2, Fin.now f I h3⟩
  ·exact f.elim
 ·cases r1; cases r2
  split at f
  ·rename_i h
   split at f
   ·rename_i c q
    exact ⟨h, c, q, Fin.now f I rfl⟩
   ·exact f.elim
  ·exact f.elim
 ·rename_i ns i
  cases r2;obtain ⟨a, as, rfl, h1, h2, h3⟩ := r1;split at f
  ·rename_i n q
   have q2 : atI (ns.map fun n => φ[n]?) i = some φ[n]? := by rw [Es, q]; rfl
   rw [h3, Es] at q2;cases q3 : atI as i with
   | none => rw [q3] at q2; cases q2
   | some b =>
    rw [q3] at q2;refine ⟨as.map V.ref, .ref b, .inl (SqL.of h2), by rw [Es, q3]; rfl, Fin.now f I ⟨b, rfl, ?_⟩⟩
    simpa using q2.symm
  ·exact f.elim
 ·cases r2
  split at f
  ·rename_i xs q1
   obtain ⟨a, vs, rfl, h1, l1⟩ := lV I q1 r1;split at f
   ·rename_i q
    obtain ⟨v, h2, h3⟩ := l1.atI q;exact ⟨vs, v, .inl (SqL.of h1), h2, Fin.now f I h3⟩
   ·exact f.elim
  ·exact f.elim
 ·exact f.elim
theorem bP (ha : PE X a (cO X.K W ma)) (hb : PE X b (cO X.K W mb)) (hs : PlainIx b := by intro _ _; rfl) : PE X (.Subscript a b pos) (cO X.K W (aS bU ma mb)) := dF (e_ix ha hb hs) fun σ H Q h => Do s_ix h
mutual
def D.py : D -> Option PyData
 | .non => some .none
 | .bl b => some (.bool b)
 | .int i => some (.int i)
 | .str x => some (.str x)
 | .lst xs => match D.pys xs with
  | some ys => some (.list ys)
  | none => none
 | .tup xs => match D.pys xs with
  | some ys => some (.tuple ys)
  | none => none
 | .ins _ _ _ => none
 | .dct => none
 | .opq _ => none
def D.pys : List D -> Option (List PyData)
 | [] => some []
 | d :: ds => match D.py d, D.pys ds with
  | some x, some xs => some (x :: xs)
  | _, _ => none
end
mutual
theorem Rep.dp {Bk : Addr -> Prop} {H : Hp} : ∀ (d : D) (v : V) (p : PyData), d.py = some p -> Rep K Bk H d v -> Dp K H v p
 | .non, v, p, h, r => by cases h; cases r; exact .non
 | .bl b, v, p, h, r => by cases h; cases r; exact .bl b
 | .int b, v, p, h, r => by cases h; cases r; exact .int b
 | .str b, v, p, h, r => by cases h; cases r; exact .str b
 | .lst xs, v, p, h, ⟨a, vs, e, _, h1, h2⟩ => by
  subst e;unfold D.py at h;cases q : D.pys xs with
  | none => rw [q] at h; cases h
  | some ys => rw [q] at h; cases h; exact .lst (SqL.of h1) (RepL.dp xs vs ys q h2)
 | .tup xs, v, p, h, ⟨a, vs, e, h1, h2⟩ => by
  subst e;unfold D.py at h;cases q : D.pys xs with
  | none => rw [q] at h; cases h
  | some ys => rw [q] at h; cases h; exact .tup h1 (RepL.dp xs vs ys q h2)
 | .ins _ _ _, v, p, h, r => by cases h
 | .dct, v, p, h, r => by cases h
 | .opq _, v, p, h, r => by cases h
theorem RepL.dp {Bk : Addr -> Prop} {H : Hp} : ∀ (ds : List D) (vs : List V) (ps : List PyData), D.pys ds = some ps -> RepL K Bk H ds vs -> DpAll K H vs ps
 | [], vs, ps, h, r => by cases h; cases r; exact .nil
 | d :: ds, vs, ps, h, ⟨v, ws, e, h1, h2⟩ => by
  subst e;unfold D.pys at h;cases q1 : D.py d with
  | none => rw [q1] at h; cases h
  | some x =>
   cases q2 : D.pys ds with
   | none => rw [q1, q2] at h; cases h
   | some xs => rw [q1, q2] at h; cases h; exact .cons (Rep.dp d v x q1 h1) (RepL.dp ds ws xs q2 h2)
end
def Hl (S : aN) : Vl -> Option PyData
 | .dat d => d.py
 | .cel n => match S[n]? with
  | some (.lst xs) => D.py (.lst xs)
  | _ => none
 | _ => none
def J5 (S : aN) : List Vl -> Option (List PyData)
 | [] => some []
 | x :: r => match Hl S x, J5 S r with
  | some p, some ps => some (p :: ps)
  | _, _ => none
def J6 (S : aN) : Vl -> Option PyData
 | .dat d => d.py
 | .cel n => match S[n]? with
  | some (.lst xs) => D.py (.lst xs)
  | some (.lv xs) => (match J5 S xs with
   | some ps => some (.list ps)
   | none => none)
  | _ => none
 | _ => none
theorem Kc {d : Vl} {v : V} {p : PyData} (I : GInv K B φ S H) (h : Hl S d = some p) (r : RepV K B φ S H d v) : Dp K H v p := by
 unfold Hl at h;split at h
 ·exact Rep.dp _ _ _ h r
 ·rename_i n
  obtain ⟨a, rfl, h1⟩ := r;split at h
  ·rename_i xs q
   obtain ⟨vs, h2, h3⟩ := I.ok n _ a q h1;unfold D.py at h;cases q : D.pys xs with
   | none => rw [q] at h; cases h
   | some ys => rw [q] at h; cases h; exact .lst (SqL.of h2) (RepL.dp xs vs ys q h3)
  ·cases h
 ·cases h
theorem Hk (I : GInv K B φ S H) : ∀ {xs : List Vl} {vs : List V} {ps : List PyData}, J5 S xs = some ps -> RepVs K B φ S H xs vs -> DpAll K H vs ps
 | [], vs, ps, h, r => by cases h; cases r; exact .nil
 | x :: xs, vs, ps, h, ⟨v, ws, e, h1, h2⟩ => by
  subst e;unfold J5 at h;cases q1 : Hl S x with
  | none => rw [q1] at h; cases h
  | some p =>
   cases q2 : J5 S xs with
   | none => rw [q1, q2] at h; cases h
   | some qs => rw [q1, q2] at h; cases h; exact .cons (Kc I q1 h1) (Hk I q2 h2)
theorem Av {d : Vl} {v : V} {p : PyData} (I : GInv K B φ S H) (h : J6 S d = some p) (r : RepV K B φ S H d v) : Dp K H v p := by
 unfold J6 at h;split at h
 ·exact Rep.dp _ _ _ h r
 ·rename_i n
  obtain ⟨a, rfl, h1⟩ := r;split at h
  ·rename_i xs q
   obtain ⟨vs, h2, h3⟩ := I.ok n _ a q h1;unfold D.py at h;cases q : D.pys xs with
   | none => rw [q] at h; cases h
   | some ys => rw [q] at h; cases h; exact .lst (SqL.of h2) (RepL.dp xs vs ys q h3)
  ·rename_i xs q
   obtain ⟨vs, h2, h3⟩ := I.ok n _ a q h1;cases q : J5 S xs with
   | none => rw [q] at h; cases h
   | some ys => rw [q] at h; cases h; exact .lst (SqL.of h2) (Hk I q h3)
  ·cases h
 ·cases h
def shp (p q : PyData) : Bool := SeqAt.shaped p && SeqAt.shaped q
def dZ (x y : Vl) (S : aN) : Res Vl := match x, y with
 | .dat (.int i), .dat (.int j) => .ok (.dat (.bl (decide (i = j)))) S
 | .dat (.str i), .dat (.str j) => .ok (.dat (.bl (decide (i = j)))) S
 | x, y => match J6 S x, J6 S y with
  | some p, some q => if shp p q = true then .ok (.dat (.bl (PyData.eqv p q))) S else .stuck
  | _, _ => .stuck
def DP (x y : Vl) (S : aN) : Res Vl := match x, y with
 | .dat (.int i), .dat (.int j) => .ok (.dat (.bl (!decide (i = j)))) S
 | .dat (.str i), .dat (.str j) => .ok (.dat (.bl (!decide (i = j)))) S
 | x, y => match J6 S x, J6 S y with
  | some p, some q => if shp p q = true then .ok (.dat (.bl (!PyData.eqv p q))) S else .stuck
  | _, _ => .stuck
theorem OZ {x y : V} (h : rEqD K x y H Q) : cEq K x y H Q := by
 unfold cEq;split
 ·obtain ⟨d, e, h1, h2, _, _, q⟩ := h
  cases h1; cases h2;exact q
 ·obtain ⟨d, e, h1, h2, _, _, q⟩ := h
  cases h1; cases h2;exact q
 ·exact h
theorem OY {x y : V} (h : rNeD K x y H Q) : cNe K x y H Q := by
 unfold cNe;split
 ·obtain ⟨d, e, h1, h2, _, _, q⟩ := h
  cases h1; cases h2;exact q
 ·obtain ⟨d, e, h1, h2, _, _, q⟩ := h
  cases h1; cases h2;exact q
 ·exact h
theorem s_eq : gN K (cEq K) dZ := fun {W σ B φ S H x y d e Q} I r1 r2 f => by
 unfold dZ at f;split at f
 ·cases r1; cases r2; exact Fin.now f I rfl
 ·cases r1; cases r2; exact Fin.now f I rfl
 ·split at f
  ·rename_i p q h1 h2
   split at f
   ·rename_i h
    obtain ⟨h3, h4⟩ := He.ba h;exact OZ ⟨p, q, Av I h1 r1, Av I h2 r2, h3, h4, Fin.now f I rfl⟩
   ·exact f.elim
  ·exact f.elim
theorem E6 : gN K (cNe K) DP := fun {W σ B φ S H x y d e Q} I r1 r2 f => by
 unfold DP at f;split at f
 ·cases r1; cases r2; exact Fin.now f I rfl
 ·cases r1; cases r2; exact Fin.now f I rfl
 ·split at f
  ·rename_i p q h1 h2
   split at f
   ·rename_i h
    obtain ⟨h3, h4⟩ := He.ba h;exact OY ⟨p, q, Av I h1 r1, Av I h2 r2, h3, h4, Fin.now f I rfl⟩
   ·exact f.elim
  ·exact f.elim
def isNon : Vl -> Bool
 | .dat .non => true
 | _ => false
def C0 (neg : Bool) (x y : Vl) (S : aN) : Res Vl := match y with
 | .dat .non => .ok (.dat (.bl (if neg then !(isNon x) else isNon x))) S
 | _ => .stuck
theorem Fk {d : Vl} {v : V} (r : RepV K B φ S H d v) : decide (v = .non) = isNon d := by
 cases d with
 | dat d =>
  cases d with
  | non => cases r; rfl
  | bl b => cases r; rfl
  | int b => cases r; rfl
  | str b => cases r; rfl
  | lst xs => obtain ⟨a, vs, rfl, _⟩ := r; rfl
  | tup xs => obtain ⟨a, vs, rfl, _⟩ := r; rfl
  | ins C ns xs => obtain ⟨a, dx, vs, rfl, _⟩ := r; rfl
  | dct => obtain ⟨a, rfl, _⟩ := r; rfl
  | opq k => cases k with
   | none => obtain ⟨a, rfl⟩ := r; rfl
   | some k => obtain ⟨a, rfl, _⟩ := r; rfl
 | cel n => obtain ⟨a, rfl, _⟩ := r; rfl
 | cels ns => obtain ⟨a, as, rfl, _⟩ := r; rfl
 | scr ns => obtain ⟨a, rfl, _⟩ := r; rfl
 | tc xs => obtain ⟨a, vs, rfl, _⟩ := r; rfl
theorem KS : gN K Ol (C0 false) := fun {W σ B φ S H x y d e Q} I r1 r2 f => by
 unfold C0 at f;split at f
 ·cases r2
  show Q (.bl (decide (x = .non))) H
  rw [Fk r1];exact Fin.now f I rfl
 ·exact f.elim
theorem KQ : gN K Ka (C0 true) := fun {W σ B φ S H x y d e Q} I r1 r2 f => by
 unfold C0 at f;split at f
 ·cases r2
  show Q (.bl (!decide (x = .non))) H
  rw [Fk r1];exact Fin.now f I rfl
 ·exact f.elim
def unB : Vl -> aN -> Res Bool
 | .dat (.bl b), S => .ok b S
 | _, _ => .stuck
def mB (a : FE) : FT := fun ρ S => (a ρ S).bind unB
theorem KL {Q : Bool -> Hp -> Prop} (h : wY K W (mB ma) σ H Q) : cO K W ma σ H fun x H' => (match x with | .bl k => Q k H' | _ => False) :=
 bV (k := fun x _ S => unB x S) h fun B φ S ρ d v H1 I E r f => by
  unfold unB at f;split at f
  ·cases r; exact Fin.now f I rfl
  ·exact f.elim
theorem aO {op : CmpOp} {r : R2} {f : Vl -> Vl -> aN -> Res Vl} (o : OpR X (compareOp op) r) (s : gN X.K r f) (ha : PE X a (cO X.K W ma)) (hb : PE X b (cO X.K W mb)) (hm : behindInMarks op b = false := by rfl) : PT X (.Compare a [op] [b] pos) (wY X.K W (mB (aS f ma mb))) :=
 CD (Oe o ha hb hm) fun σ H Q h => Do s (KL h)
def BG (x : Vl) (S : aN) : Res Bool := match x with
 | .dat .non => .ok false S
 | .dat (.bl b) => .ok b S
 | .dat (.int i) => .ok (i != 0) S
 | .dat (.str y) => if y.length <= sizeLine then .ok ((y.length : Int) != 0) S else .stuck
 | .dat (.tup xs) => .ok (!xs.isEmpty) S
 | x => match jE S x with
  | some xs => .ok (!xs.isEmpty) S
  | none => .stuck
theorem RepL.emp {Bk : Addr -> Prop} {ds : List D} {vs : List V} (h : RepL K Bk H ds vs) : (!ds.isEmpty) = !vs.isEmpty := by
 have := h.len;cases ds <;> cases vs <;> simp at this ⊢
theorem Dl {d : Vl} {v : V} {Q : Bool -> Hp -> Prop} (I : GInv K B φ S H) (r : RepV K B φ S H d v) (f : Fin K W σ RB B φ S H (BG d S) Q) : cT K v H Q := by
 unfold BG at f;split at f
 ·cases r; exact Fin.now f I rfl
 ·cases r; exact Fin.now f I rfl
 ·cases r; exact Fin.now f I rfl
 ·cases r
  split at f
  ·rename_i h; exact ⟨_, ⟨h, rfl⟩, Fin.now f I rfl⟩
  ·exact f.elim
 ·obtain ⟨a, vs, rfl, h1, l1⟩ := r
  exact ⟨_, .inr (.inl ⟨vs, h1, l1.emp⟩), Fin.now f I rfl⟩
 ·split at f
  ·rename_i xs q1
   obtain ⟨a, vs, rfl, h1, l1⟩ := lV I q1 r;exact ⟨_, .inl ⟨vs, SqL.of h1, l1.emp⟩, Fin.now f I rfl⟩
  ·exact f.elim
def cF (a : FE) : FT := fun ρ S => (a ρ S).bind BG
theorem bX (ha : PE X a (cO X.K W ma)) (he : ∀ whole, isTrue a X.env whole = (do let v <- whole; standAt a.pos; holding [v] (truthy v)) := by intro _; rfl) : PT X a (wY X.K W (cF ma)) :=
 CD (t_val ha he) fun σ H Q h => bV (k := fun x _ S => BG x S) h fun B φ S ρ d v H1 I E r f => Dl I r f
def rF (a b : FT) : FT := fun ρ S => (a ρ S).bind fun c S1 => if c = true then b ρ S1 else .ok false S1
def wD (a b : FT) : FT := fun ρ S => (a ρ S).bind fun c S1 => if c = true then .ok true S1 else b ρ S1
def fU (a : FT) : FT := fun ρ S => (a ρ S).bind fun c S1 => .ok (!c) S1
theorem MQ {e : Expr} {t u : TT} (h : PW X e t) (i : ∀ σ H Q, u σ H Q -> t σ H Q) : PW X e u := ⟨fun whole pins s σ H Q I q => h.run whole pins s σ H Q I (i σ H Q q)⟩
theorem Mo {Q : Bool -> Hp -> Prop} (h : wY K W (rF mt mu) σ H Q) : tAnd (wY K W mt) (wY K W mu) σ H Q :=
 bV (k := fun c ρ S => if c = true then mu ρ S else .ok false S) h fun B φ S ρ d v H1 I E r f => by
  have r : v = d := r;subst r;cases v with
  | true => exact ⟨B, φ, S, ρ, I, E, f⟩
  | false => exact Fin.now f I rfl
theorem Pk {Q : Bool -> Hp -> Prop} (h : wY K W (wD mt mu) σ H Q) : tOr (wY K W mt) (wY K W mu) σ H Q :=
 bV (k := fun c ρ S => if c = true then .ok true S else mu ρ S) h fun B φ S ρ d v H1 I E r f => by
  have r : v = d := r;subst r;cases v with
  | false => exact ⟨B, φ, S, ρ, I, E, f⟩
  | true => exact Fin.now f I rfl
theorem jC (ha : PT X a (wY X.K W mt)) (hb : PW X (.BoolOp .And (b :: rest) pos) (wY X.K W mu)) : PW X (.BoolOp .And (a :: b :: rest) pos) (wY X.K W (rF mt mu)) := MQ (pw_and ha hb) fun σ H Q h => Mo h
theorem hY (ha : PT X a (wY X.K W mt)) (hb : PW X (.BoolOp .Or (b :: rest) pos) (wY X.K W mu)) : PW X (.BoolOp .Or (a :: b :: rest) pos) (wY X.K W (wD mt mu)) := MQ (pw_or ha hb) fun σ H Q h => Pk h
theorem cW (ha : PT X a (wY X.K W mt)) : PT X (.UnaryOp .Not a pos) (wY X.K W (fU mt)) := CD (pt_not ha) fun σ H Q h =>
 bV (k := fun c _ S => .ok (!c) S) h fun B φ S ρ d v H1 I E r f => by cases r; exact Fin.now f I rfl
def iH (a b : FE) : FE := fun ρ S => (a ρ S).bind fun x S1 => match x with
 | .dat (.bl c) => if c = true then b ρ S1 else .ok (.dat (.bl false)) S1
 | _ => .stuck
def mOrV (a b : FE) : FE := fun ρ S => (a ρ S).bind fun x S1 => match x with
 | .dat (.bl c) => if c = true then .ok (.dat (.bl true)) S1 else b ρ S1
 | _ => .stuck
def Fe (a : FE) : FE := fun ρ S => (a ρ S).bind fun x S1 => (BG x S1).bind fun k S2 => .ok (.dat (.bl (!k))) S2
theorem gG (ha : PE X a (cO X.K W ma)) (hb : PE X (.BoolOp .And (b :: rest) pos) (cO X.K W mb)) : PE X (.BoolOp .And (a :: b :: rest) pos) (cO X.K W (iH ma mb)) := dF (e_and ha hb) fun σ H Q h =>
 bV (k := fun x ρ S1 => match x with | .dat (.bl c) => if c = true then mb ρ S1 else .ok (.dat (.bl false)) S1 | _ => .stuck) h fun B φ S ρ d v H1 I E r f => by
  split at f
  ·rename_i c
   cases r;cases c with
   | true => exact ⟨B, φ, S, ρ, I, E, f⟩
   | false => exact Fin.now f I rfl
  ·exact f.elim
def Q3 (a b : FE) : FE := fun ρ S => (a ρ S).bind fun x S1 => (BG x S1).bind fun k S2 => if k = true then .ok x S2 else b ρ S2
theorem F9 {x : Vl} {k : Bool} {S' : aN} (h : BG x S = .ok k S') : S' = S := by
 unfold BG at h;split at h
 ·cases h; rfl
 ·cases h; rfl
 ·cases h; rfl
 ·split at h <;> cases h; rfl
 ·cases h; rfl
 ·split at h <;> cases h; rfl
theorem tru_V {d : Vl} {v : V} {k : Bool} (I : GInv K B φ S H) (r : RepV K B φ S H d v) (h : BG d S = .ok k S) : TruV K v H k := by
 obtain ⟨k', h1, h2⟩ := MI v H (fun b _ => b = k) (Dl (W := Mb) (σ := []) I r (by
  rw [h];exact fun φ' v' H' _ _ r => r))
 rw [<- h2]; exact h1
theorem RH (ha : PE X a (cO X.K W ma)) (hb : PE X (.BoolOp .Or (b :: rest) pos) (cO X.K W mb)) : PE X (.BoolOp .Or (a :: b :: rest) pos) (cO X.K W (Q3 ma mb)) := dF (pe_orT ha hb) fun σ H Q h =>
 bV (k := fun x ρ S1 => (BG x S1).bind fun k S2 => if k = true then .ok x S2 else mb ρ S2) h fun B φ S ρ d v H1 I E r f => by
  cases q : BG d S with
  | stuck => rw [q] at f; exact f.elim
  | err e S' =>
   exfalso
   unfold BG at q;split at q <;> first | cases q | (split at q <;> cases q)
  | ok k S' =>
   have e := F9 q;subst e;rw [q] at f;refine ⟨k, tru_V I r q, ?_⟩
   cases k with
   | true => exact Fin.now f I r
   | false => exact ⟨B, φ, S', ρ, I, E, f⟩
theorem HG (ha : PE X a (cO X.K W ma)) : PE X (.UnaryOp .Not a pos) (cO X.K W (Fe ma)) := dF (e_not ha) fun σ H Q h =>
 bV (k := fun x _ S1 => (BG x S1).bind fun k S2 => Res.ok (Vl.dat (D.bl (!k))) S2) h fun B φ S ρ d v H1 I E r f => by
  cases q : BG d S with
  | stuck => rw [q] at f; exact f.elim
  | err e S' =>
   exfalso
   unfold BG at q;split at q <;> first | cases q | (split at q <;> cases q)
  | ok k S' =>
   have e := F9 q;subst e;rw [q] at f;refine Dl (W := W) (σ := σ) I r ?_
   rw [q];intro φ' v' H' I' X' r';cases r';exact Fin.now (Fin.ext f X') I' rfl
def gF (f g : Vl -> Vl -> aN -> Res Vl) (a b c : FE) : FE := fun ρ S => (a ρ S).bind fun x S1 => (b ρ S1).bind fun y S2 => (f x y S2).bind fun z S3 => match z with
 | .dat (.bl k) => if k = true then (c ρ S3).bind fun w S4 => g y w S4 else .ok (.dat (.bl false)) S3
 | _ => .stuck
theorem Cj {r r' : R2} {f g : Vl -> Vl -> aN -> Res Vl} (s : gN K r f) (s' : gN K r' g) (h : cO K W (gF f g ma mb mc) σ H Q) : Ep r r' (cO K W ma) (cO K W mb) (cO K W mc) σ H Q := by
 refine bV (k := fun x ρ S1 => (mb ρ S1).bind fun y S2 => (f x y S2).bind fun z S3 => match z with | .dat (.bl k) => if k = true then (mc ρ S3).bind fun w S4 => g y w S4 else .ok (.dat (.bl false)) S3 | _ => .stuck) h fun B φ S ρ d v H1 I E r1 f' => fC I E f' fun φ' S' e w H2 I2 X2 E2 r2 f2 => ?_
 have r1' := r1.ext X2 I;refine s (W := W) (σ := σ) I2 r1' r2 ?_
 cases q : f d e S' with
 | stuck => rw [q] at f2; exact f2
 | err x S3 => rw [q] at f2; exact f2
 | ok z S3 =>
  rw [q] at f2;intro φ3 v3 H3 I3 X3 r3;have f3 := Fin.ext f2 X3;dsimp only [Res.bind] at f3;split at f3
  ·rename_i k
   cases r3;cases k with
   | false => exact Fin.now f3 I3 rfl
   | true => exact fC I3 (E2.ext X3 I2) f3 fun φ4 S4 d4 v4 H4 I4 X4 E4 r4 f4 => s' I4 ((r2.ext X3 I2).ext X4 I3) r4 f4
  ·exact f3.elim
theorem uY {op op' : CmpOp} {r r' : R2} {f g : Vl -> Vl -> aN -> Res Vl} (ho : OpR X (compareOp op) r) (s : gN X.K r f) (ho' : OpR X (compareOp op') r') (s' : gN X.K r' g) (ha : PE X a (cO X.K W ma)) (hb : PE X b (cO X.K W mb)) (hc : PE X c (cO X.K W mc))
  (hm : lastMarks [op, op'] [b, c] = false := by with_unfolding_all rfl) : PE X (.Compare a [op, op'] [b, c] pos) (cO X.K W (gF f g ma mb mc)) := dF (OT ho ho' ha hb hc hm) fun σ H Q h => Cj s s' h
theorem Fy {op op' : CmpOp} {r r' : R2} {f g : Vl -> Vl -> aN -> Res Vl} (ho : OpR X (compareOp op) r) (s : gN X.K r f) (ho' : OpR X (compareOp op') r') (s' : gN X.K r' g) (ha : PE X a (cO X.K W ma)) (hb : PE X b (cO X.K W mb)) (hc : PE X c (cO X.K W mc))
  (hm : lastMarks [op, op'] [b, c] = false := by with_unfolding_all rfl) : PT X (.Compare a [op, op'] [b, c] pos) (wY X.K W (mB (gF f g ma mb mc))) := CD (Mh ho ho' ha hb hc hm) fun σ H Q h => Cj s s' (KL h)
def mIf (t : FT) (a b : FE) : FE := fun ρ S => (t ρ S).bind fun c S1 => if c = true then a ρ S1 else b ρ S1
def aI : FA := fun _ S => .ok [] S
def aB (a : FE) (r : FA) : FA := fun ρ S => (a ρ S).bind fun x S1 => (r ρ S1).bind fun xs S2 => .ok (x :: xs) S2
theorem MS {t u : TA} (h : PA X es t) (i : ∀ σ H Q, u σ H Q -> t σ H Q) : PA X es u := ⟨fun pos pins s σ H Q I q => h.run pos pins s σ H Q I (i σ H Q q)⟩
theorem aG : PA X [] (Ez X.K W aI) := MS pa_nil fun σ H Q h => by
 obtain ⟨B, φ, S, ρ, I, E, f⟩ := h;exact Fin.now (v := []) f I rfl
theorem aA (ha : PE X a (cO X.K W ma)) (hr : PA X es (Ez X.K W mas)) (hs : starEach (a :: es) X.env = (false, eval a X.env) :: starEach es X.env := by rfl) : PA X (a :: es) (Ez X.K W (aB ma mas)) := MS (pa_cons ha hr hs) fun σ H Q h =>
 bV (k := fun x ρ S1 => (mas ρ S1).bind fun xs S2 => .ok (x :: xs) S2) h fun B φ S ρ d v H1 I E r f => fC I E f fun φ' S' ds vs H2 I2 X2 E2 r2 f2 => Fin.now f2 I2 ⟨v, vs, rfl, r.ext X2 I, r2⟩
def bT (cl : Bool) (r : FA) : FE := fun ρ S => (r ρ S).bind fun xs S1 => match wV xs with
 | some ds => if ds.length <= sizeLine then newL cl ds S1 else .stuck
 | none => .stuck
def bW (r : FA) : FE := fun ρ S => (r ρ S).bind fun xs S1 => match wV xs with
 | some ds => if ds.length <= sizeLine then .ok (.dat (.tup ds)) S1 else .stuck
 | none => .stuck
theorem bQ {cl : Bool} (h : PA X es (Ez X.K W mas)) : PE X (.List es pos) (cO X.K W (bT cl mas)) := dF (pe_lst h) fun σ H Q h =>
 bV (k := fun xs ρ S1 => match wV xs with | some ds => if ds.length <= sizeLine then newL cl ds S1 else .stuck | none => .stuck) h fun B φ S ρ d v H1 I E r f => by
  split at f
  ·rename_i ds q
   have l := yZ q r;split at f
   ·rename_i hl
    exact ⟨by rw [l.len]; exact hl, fun p hp => Fin.newL f I l hp⟩
   ·exact f.elim
  ·exact f.elim
theorem bO (h : PA X es (Ez X.K W mas)) : PE X (.Tuple es x1 pos) (cO X.K W (bW mas)) := dF (pe_tup h) fun σ H Q h =>
 bV (k := fun xs ρ S1 => match wV xs with | some ds => if ds.length <= sizeLine then Res.ok (Vl.dat (D.tup ds)) S1 else .stuck | none => .stuck) h fun B φ S ρ d v H1 I E r f => by
  split at f
  ·rename_i ds q
   have l := yZ q r;split at f
   ·rename_i hl
    exact ⟨by rw [l.len]; exact hl, fun p hp => Fin.newT f I l hp⟩
   ·exact f.elim
  ·exact f.elim
end
section
variable {X : Cx} {W : WX} {e a b c : Expr} {es rest : List Expr} {pos p q p2 : Pos} {x y z : Str} {K : aD} {ma mb mc : FE} {mt mu : FT} {mas : FA} {B : Addr -> Prop} {φ : List Addr} {S : aN} {H : Hp} {σ : L2.St} {Q : VK}
theorem BH {r : V -> Hp -> VK -> Prop} {f : Vl -> aN -> Res Vl} (s : GJ K r f) (h : cO K W (m1 f ma) σ H Q) : tCB (c1 r) (tCons (cO K W ma) tNil) σ H Q := KM s h
def dY (x : Vl) (S : aN) : Res Vl := match x with
 | .dat (.tup xs) => .ok (.dat (.int xs.length)) S
 | .dat (.str z) => if z.length <= sizeLine then .ok (.dat (.int z.length)) S else .stuck
 | .cels ns => .ok (.dat (.int ns.length)) S
 | x => match jE S x with
  | some xs => .ok (.dat (.int xs.length)) S
  | none => .stuck
theorem s_len : GJ K (cLen K) dY := fun {W σ B φ S H x d Q} I r f => by
 unfold dY at f;split at f
 ·obtain ⟨a, vs, rfl, h1, l1⟩ := r
  refine ⟨vs, .inr h1, ?_⟩
  rw [l1.len];exact Fin.now f I rfl
 ·cases r
  split at f
  ·rename_i h; exact ⟨h, Fin.now f I rfl⟩
  ·exact f.elim
 ·rename_i ns
  obtain ⟨a, as, rfl, h1, h2, h3⟩ := r;refine ⟨as.map V.ref, .inl (SqL.of h2), ?_⟩
  have e : as.length = ns.length := by
   have := congrArg List.length h3
   simpa using this.symm
  rw [bC, e];exact Fin.now f I rfl
 ·split at f
  ·rename_i xs q1
   obtain ⟨a, vs, rfl, h1, l1⟩ := lV I q1 r;refine ⟨vs, .inl (SqL.of h1), ?_⟩
   rw [l1.len];exact Fin.now f I rfl
  ·exact f.elim
theorem eJ (hm : X.mg "len" = none) (ha : PE X a (cO X.K W ma)) (hg : Gl X "len" := by rfl) (hs : starEach [a] X.env = [(false, eval a X.env)] := by rfl) : PE X (.Call (.Name "len" p) [a] [] pos) (cO X.K W (m1 dY ma)) := dF (e_len hm ha hg hs) fun σ H Q h => BH s_len h
def vJ (x : Vl) (S : aN) : Res Vl := match x with
 | .dat (.int i) => .ok (.dat (.int i)) S
 | .dat (.bl k) => .ok (.dat (.int (if k then 1 else 0))) S
 | _ => .stuck
theorem s_int : GJ K cInt vJ := fun {W σ B φ S H x d Q} I r f => by
 unfold vJ at f;split at f
 ·cases r; exact Fin.now f I rfl
 ·cases r; exact Fin.now f I rfl
 ·exact f.elim
theorem wI (hm : X.mg "int" = none) (ha : PE X a (cO X.K W ma)) (hg : Gl X "int" := by rfl) (hs : starEach [a] X.env = [(false, eval a X.env)] := by rfl) : PE X (.Call (.Name "int" p) [a] [] pos) (cO X.K W (m1 vJ ma)) := dF (e_int hm ha hg hs) fun σ H Q h => BH s_int h
def zC : List D -> Option (List Bool)
 | [] => some []
 | .bl b :: r => match zC r with
  | some bs => some (b :: bs)
  | none => none
 | _ :: _ => none
theorem GF {Bk : Addr -> Prop} : ∀ {ds : List D} {bs : List Bool} {vs : List V}, zC ds = some bs -> RepL K Bk H ds vs -> vs = bs.map V.bl
 | [], bs, vs, h, r => by cases h; exact r
 | d :: ds, bs, vs, h, ⟨v, ws, e, h1, h2⟩ => by
  subst e;cases d with
  | bl b =>
   unfold zC at h;cases q : zC ds with
   | none => rw [q] at h; cases h
   | some es => rw [q] at h; cases h; cases h1; rw [GF q h2]; rfl
  | _ => cases h
def RX : List D -> Option (List Int)
 | [] => some []
 | .int b :: r => match RX r with
  | some bs => some (b :: bs)
  | none => none
 | _ :: _ => none
def wK (x : Vl) (S : aN) : Res Vl := match jE S x with
 | some xs => (match zC xs with
  | some bs => .ok (.dat (.bl (bs.all id))) S
  | none => .stuck)
 | none => .stuck
theorem s_all : GJ K (cAll K) wK := fun {W σ B φ S H x d Q} I r f => by
 unfold wK at f;split at f
 ·rename_i xs q1
  obtain ⟨a, vs, rfl, h1, l1⟩ := lV I q1 r;split at f
  ·rename_i bs q2
   rw [GF q2 l1] at h1;exact ⟨bs, SqL.of h1, Fin.now f I rfl⟩
  ·exact f.elim
 ·exact f.elim
theorem G4 (hm : X.mg "all" = none) (ha : PE X a (cO X.K W ma)) (hc : X.calm = true := by rfl) (hg : Gl X "all" := by rfl) (hs : starEach [a] X.env = [(false, eval a X.env)] := by rfl) : PE X (.Call (.Name "all" p) [a] [] pos) (cO X.K W (m1 wK ma)) := dF (e_all hm ha hc hg hs) fun σ H Q h => BH s_all h
def vQ (cl : Bool) (x : Vl) (S : aN) : Res Vl := match x with
 | .dat (.tup xs) => newL cl xs S
 | x => match jE S x with
  | some xs => newL cl xs S
  | none => .stuck
theorem Pn {cl : Bool} : GJ K (PR K) (vQ cl) := fun {W σ B φ S H x d Q} I r f => by
 unfold vQ at f;split at f
 ·obtain ⟨a, vs, rfl, h1, l1⟩ := r
  exact ⟨vs, .inr h1, fun l hl => Fin.newL f I l1 hl⟩
 ·split at f
  ·rename_i xs q1
   obtain ⟨a, vs, rfl, h1, l1⟩ := lV I q1 r;exact ⟨vs, .inl (SqL.of h1), fun l hl => Fin.newL f I l1 hl⟩
  ·exact f.elim
theorem RJ {cl : Bool} (hm : X.mg "list" = none) (ha : PE X a (cO X.K W ma)) (hg : Gl X "list" := by rfl) (hs : starEach [a] X.env = [(false, eval a X.env)] := by rfl) : PE X (.Call (.Name "list" p) [a] [] pos) (cO X.K W (m1 (vQ cl) ma)) := dF (RN hm ha hg hs) fun σ H Q h => BH Pn h
def fTuple (x : Vl) (S : aN) : Res Vl := match jE S x with
 | some xs => .ok (.dat (.tup xs)) S
 | none => .stuck
theorem Mr : GJ K (MH K) fTuple := fun {W σ B φ S H x d Q} I r f => by
 unfold fTuple at f;split at f
 ·rename_i xs q1
  obtain ⟨a, vs, rfl, h1, l1⟩ := lV I q1 r;exact ⟨vs, SqL.of h1, fun l hl => Fin.newT f I l1 hl⟩
 ·exact f.elim
theorem Eh (hm : X.mg "tuple" = none) (ha : PE X a (cO X.K W ma)) (hg : Gl X "tuple" := by rfl) (hs : starEach [a] X.env = [(false, eval a X.env)] := by rfl) : PE X (.Call (.Name "tuple" p) [a] [] pos) (cO X.K W (m1 fTuple ma)) := dF (OS hm ha hg hs) fun σ H Q h => BH Mr h
def fAbs (x : Vl) (S : aN) : Res Vl := match x with
 | .dat (.int i) => .ok (.dat (.int (if i < 0 then -i else i))) S
 | _ => .stuck
theorem Fi {a : Addr} {xs : List V} (h : SqT K H a xs) : CF K H a "tuple" := by
 refine ⟨by decide, ?_⟩
 rcases h with (h | ⟨o, h⟩) | ⟨o, its, n, h, hc, _⟩
 ·exact .base (.tup h)
 ·exact .fTuple h
 ·exact .kTuple h hc
theorem uG {a : Addr} {xs : List V} (h : SqL K H a xs) : CF K H a "list" := by
 refine ⟨by decide, ?_⟩
 rcases h with (h | ⟨o, h⟩) | ⟨o, its, n, h, hc, _⟩
 ·exact .base (.lst h)
 ·exact .base (.frz h)
 ·exact .kList h hc
def kindOf (S : aN) : Vl -> Option String
 | .dat .non => some "NoneType"
 | .dat (.bl _) => some "bool"
 | .dat (.int _) => some "int"
 | .dat (.str _) => some "str"
 | .dat (.lst _) => some "list"
 | .dat (.tup _) => some "tuple"
 | .dat .dct => some "dict"
 | .dat (.opq _) => none
 | .dat (.ins _ _ _) => none
 | .cels _ => some "list"
 | .scr _ => some "list"
 | .tc _ => some "tuple"
 | .cel n => match S[n]? with
  | some (.lst _) => some "list"
  | some (.dct _) => some "dict"
  | some (.lv _) => some "list"
  | _ => none
def fIsi (T : String) (x : Vl) (S : aN) : Res Vl := match kindOf S x with
 | some n => .ok (.dat (.bl (isTy T n))) S
 | none => .stuck
theorem zZ {d : Vl} {v : V} {n : String} (I : GInv K B φ S H) (r : RepV K B φ S H d v) (h : kindOf S d = some n) : (v = .non /\ n = "NoneType") \/ (∃ b, v = .bl b /\ n = "bool") \/ (∃ b, v = .int b /\ n = "int") \/ (∃ b, v = .str b /\ n = "str") \/ ∃ a, v = .ref a /\ CF K H a n := by
 cases d with
 | dat d =>
  cases d with
  | non => cases h; cases r; exact .inl ⟨rfl, rfl⟩
  | bl b => cases h; cases r; exact .inr (.inl ⟨b, rfl, rfl⟩)
  | int b => cases h; cases r; exact .inr (.inr (.inl ⟨b, rfl, rfl⟩))
  | str b => cases h; cases r; exact .inr (.inr (.inr (.inl ⟨b, rfl, rfl⟩)))
  | lst xs => cases h; obtain ⟨a, vs, rfl, _, h1, _⟩ := r; exact .inr (.inr (.inr (.inr ⟨a, rfl, uG (SqL.of h1)⟩)))
  | tup xs => cases h; obtain ⟨a, vs, rfl, h1, _⟩ := r; exact .inr (.inr (.inr (.inr ⟨a, rfl, Fi h1⟩)))
  | ins C ns xs => cases h
  | opq _ => cases h
  | dct => cases h; obtain ⟨a, rfl, _, h1⟩ := r; exact .inr (.inr (.inr (.inr ⟨a, rfl, by decide, .base (.dK h1)⟩)))
 | cels ns => cases h; obtain ⟨a, as, rfl, _, h1, _⟩ := r; exact .inr (.inr (.inr (.inr ⟨a, rfl, uG (SqL.of h1)⟩)))
 | scr ns => cases h; obtain ⟨a, rfl, h1⟩ := r; exact .inr (.inr (.inr (.inr ⟨a, rfl, uG h1.sq⟩)))
 | tc xs => cases h; obtain ⟨a, vs, rfl, h1, _⟩ := r; exact .inr (.inr (.inr (.inr ⟨a, rfl, Fi h1⟩)))
 | cel n =>
  obtain ⟨a, rfl, h1⟩ := r;have h : (match S[n]? with | some (.lst _) => some "list" | some (.dct _) => some "dict" | some (.lv _) => some "list" | _ => none) = some _ := h
  split at h
  ·rename_i q
   cases h;obtain ⟨vs, h2, _⟩ := I.ok n _ a q h1;exact .inr (.inr (.inr (.inr ⟨a, rfl, uG (SqL.of h2)⟩)))
  ·rename_i q
   cases h;obtain ⟨vs, h2, _⟩ := I.ok n _ a q h1;exact .inr (.inr (.inr (.inr ⟨a, rfl, by decide, .base (.dK h2)⟩)))
  ·rename_i q
   cases h;obtain ⟨vs, h2, _⟩ := I.ok n _ a q h1;exact .inr (.inr (.inr (.inr ⟨a, rfl, uG (SqL.of h2)⟩)))
  ·cases h
theorem s_isi {T : String} (hT : T ∈ targets) : GJ K (MK K T) (fIsi T) := fun {W σ B φ S H x d Q} I r f => by
 unfold fIsi at f;have h6 : T = "int" \/ T = "bool" \/ T = "str" \/ T = "list" \/ T = "tuple" \/ T = "dict" := by simpa [targets] using hT
 split at f
 ·rename_i n h
  have q : ∀ b, b = isTy T n -> Q (.bl b) H := fun b e => by rw [e]; exact Fin.now f I rfl
  rcases zZ I r h with ⟨rfl, rfl⟩ | ⟨b, rfl, rfl⟩ | ⟨b, rfl, rfl⟩ | ⟨b, rfl, rfl⟩ | ⟨a, rfl, hk⟩
  ·exact q false (by rcases h6 with e | e | e | e | e | e <;> subst e <;> decide)
  ·exact q _ (by rcases h6 with e | e | e | e | e | e <;> subst e <;> decide)
  ·exact q _ (by rcases h6 with e | e | e | e | e | e <;> subst e <;> decide)
  ·exact q _ (by rcases h6 with e | e | e | e | e | e <;> subst e <;> decide)
  ·have h3 : n = "list" \/ n = "tuple" \/ n = "dict" := by simpa using hk.1
   exact ⟨n, hk, q _ (by rcases h6 with e | e | e | e | e | e <;> rcases h3 with e' | e' | e' <;> subst e <;> subst e' <;> decide)⟩
 ·exact f.elim
theorem dX {T : String} (hm : X.mg "isinstance" = none) (hmT : X.mg y = none) (ha : PE X a (cO X.K W ma)) (hT : T ∈ targets := by decide) (hv : bootBuiltins y = some (.type T) := by decide +kernel)
  (hg : Gl X "isinstance" := by rfl) (hgT : Gl X y := by rfl) (hn : y ≠ "__name__" := by decide) (hd : (y == ("__debug__" : Str)) = false := by decide) (hs : starEach [a, .Name y q] X.env = (false, eval a X.env) :: starEach [.Name y q] X.env := by rfl) :
  PE X (.Call (.Name "isinstance" p) [a, .Name y q] [] pos) (cO X.K W (m1 (fIsi T) ma)) := dF (e_isi hm hmT ha hT hv hg hgT hn hd hs) fun σ H Q h => KM (s_isi hT) h
def fIsi2 (T U : String) (x : Vl) (S : aN) : Res Vl := match kindOf S x with
 | some n => .ok (.dat (.bl (isTy T n || isTy U n))) S
 | none => .stuck
theorem Po {T U : String} (hT : T ∈ targets) (hU : U ∈ targets) {x : V} {d : Vl} (I : GInv K B φ S H) (r : RepV K B φ S H d x) (f : Fin K W σ (RepV K) B φ S H (fIsi2 T U d S) Q) {tp : Addr} {H' : Hp} (ntp : H tp = none) (hH : H' = upd H tp (.tup [.ty T, .ty U])) : PU K T U x H' fun b => Q (.bl b) H' := by
 unfold fIsi2 at f;split at f
 ·rename_i n h
  have X1 := Ext.new (o := .tup [.ty T, .ty U]) I ntp;have I1 := I.new (o := .tup [.ty T, .ty U]) ntp;have hq : Q (.bl (isTy T n || isTy U n)) H' := by subst hH; exact f φ _ _ I1 X1 rfl
  have r' : RepV K B φ S H' d x := by subst hH; exact r.ext X1 I
  rcases zZ I r h with ⟨rfl, rfl⟩ | ⟨b, rfl, rfl⟩ | ⟨b, rfl, rfl⟩ | ⟨b, rfl, rfl⟩ | ⟨a, rfl, hk⟩
  ·have : ∀ T ∈ targets, isTy T "NoneType" = false := by decide
   rw [this T hT, this U hU] at hq;exact hq
  ·exact hq
  ·exact hq
  ·exact hq
  ·have I1' : GInv K B φ S H' := by subst hH; exact I1
   rcases zZ I1' r' h with ⟨z, _⟩ | ⟨b, z, _⟩ | ⟨b, z, _⟩ | ⟨b, z, _⟩ | ⟨a', z, hk'⟩ <;> cases z
   exact ⟨n, hk', hq⟩
 ·exact f.elim
theorem M8 {q1 q2 tpos : Pos} {j : Nat} {T U : String} (hm : X.mg "isinstance" = none) (hmT : X.mg y = none) (hmU : X.mg z = none) (ha : PE X a (cO X.K W ma)) (hT : T ∈ targets := by decide) (hU : U ∈ targets := by decide)
  (hv : bootBuiltins y = some (.type T) := by decide +kernel) (hw : bootBuiltins z = some (.type U) := by decide +kernel) (hg : Gl X "isinstance" := by rfl) (hgT : Gl X y := by rfl) (hgU : Gl X z := by rfl) (hn : y ≠ "__name__" := by decide) (hd : (y == ("__debug__" : Str)) = false := by decide) (hn2 : z ≠ "__name__" := by decide) (hd2 : (z == ("__debug__" : Str)) = false := by decide)
  (hs : starEach [a, .Tuple [.Name y q1, .Name z q2] j tpos] X.env = (false, eval a X.env) :: starEach [.Tuple [.Name y q1, .Name z q2] j tpos] X.env := by rfl) :
  PE X (.Call (.Name "isinstance" p) [a, .Tuple [.Name y q1, .Name z q2] j tpos] [] pos) (cO X.K W (m1 (fIsi2 T U) ma)) :=
 dF (RP hm hmT hmU ha hT hU hv hw hg hgT hgU hn hd hn2 hd2 hs) fun σ H Q h => bV (k := fun x _ S => fIsi2 T U x S) h fun B φ S ρ d v H1 I E r f => by
  show _ /\ _
  exact ⟨(by show 2 <= sizeLine; decide), fun tp htp => ⟨upd_same, Po hT hU I r f htp rfl⟩⟩
def cutD (xs : List D) (lo hi : Option Int) : List D := (xs.drop (HT.sIx xs.length 0 lo)).take (HT.sIx xs.length xs.length hi - HT.sIx xs.length 0 lo)
theorem RepL.cut {Bk : Addr -> Prop} {ds : List D} {vs : List V} {lo hi : Option Int} (h : RepL K Bk H ds vs) : RepL K Bk H (cutD ds lo hi) (cutV vs lo hi) := by
 unfold cutD cutV;rw [h.len];exact (h.drop _).take _
def xX (cl : Bool) (x : Vl) (lo hi : Option Int) (S : aN) : Res Vl := match x with
 | .dat (.tup xs) => .ok (.dat (.tup (cutD xs lo hi))) S
 | .dat (.str z) => if z.length <= sizeLine then .ok (.dat (.str (cutS z lo hi))) S else .stuck
 | .scr ns => newL cl (cutD (ns.map D.int) lo hi) S
 | x => match jE S x with
  | some xs => newL cl (cutD xs lo hi) S
  | none => .stuck
def tL : FO := fun _ S => .ok none S
def fJ (a : FE) : FO := fun ρ S => (a ρ S).bind fun x S1 => match x with
 | .dat (.int i) => .ok (some i) S1
 | _ => .stuck
theorem MR {e : Option Expr} {t u : TO} (h : PO X e t) (i : ∀ σ H Q, u σ H Q -> t σ H Q) : PO X e u := ⟨fun pins s σ H Q I q => h.run pins s σ H Q I (i σ H Q q)⟩
theorem iY : PO X none (rdO X.K W tL) := MR po_none fun σ H Q h => by
 obtain ⟨B, φ, S, ρ, I, E, f⟩ := h;exact Fin.now (v := none) f I rfl
theorem eN (ha : PE X a (cO X.K W ma)) : PO X (some a) (rdO X.K W (fJ ma)) := MR (Ke ha) fun σ H Q h =>
 bV (k := fun x _ S1 => match x with | .dat (.int i) => .ok (some i) S1 | _ => .stuck) h fun B φ S ρ d v H1 I E r f => by
  split at f
  ·cases r; exact Fin.now f I rfl
  ·exact f.elim
theorem Cn {Bk : Addr -> Prop} : ∀ ns : List Int, RepL K Bk H (ns.map D.int) (ns.map V.int)
 | [] => rfl
 | n :: ns => ⟨_, _, rfl, rfl, Cn ns⟩
theorem Jh {xs : List D} {lo hi : Option Int} (h : HT.sIx xs.length 0 lo = 0 /\ HT.sIx xs.length xs.length hi = xs.length) : cutD xs lo hi = xs := by
 unfold cutD;rw [h.1, h.2];simp
def Az (cl : Bool) (a : FE) (l h : FO) : FE := fun ρ S => (a ρ S).bind fun x S1 => (l ρ S1).bind fun lo S2 => (h ρ S2).bind fun hi S3 => xX cl x lo hi S3
theorem vI {cl : Bool} {lo hi : Option Expr} {ml mh : FO} (ha : PE X a (cO X.K W ma)) (hl : PO X lo (rdO X.K W ml)) (hh : PO X hi (rdO X.K W mh)) : PE X (.Subscript a (.Slice lo hi none p2) pos) (cO X.K W (Az cl ma ml mh)) := dF (pe_slice sl_C ha hl hh) fun σ H Q h =>
 bV (k := fun x ρ S1 => (ml ρ S1).bind fun lo S2 => (mh ρ S2).bind fun hi S3 => xX cl x lo hi S3) h fun B φ S ρ d v H1 I E r f => fC I E f fun φ1 S1 d1 v1 H2 I1 X1 E1 r1 f1 => fC I1 E1 f1 fun φ2 S2 d2 v2 H3 I2 X2 E2 r2 f2 => by
  cases r1;cases r2
  replace r := (r.ext X1 I).ext X2 I1
  unfold xX at f2;split at f2
  ·rename_i xs
   obtain ⟨a, vs, rfl, h1, l1⟩ := r;refine tN ⟨vs, h1, fun hw => ?_, fun hw p hp => Fin.newT f2 I2 l1.cut hp⟩
   rw [l1.len] at hw;have e := Jh (xs := xs) hw;rw [e] at f2;exact Fin.now f2 I2 ⟨a, vs, rfl, h1, l1⟩
  ·cases r
   split at f2
   ·rename_i hz; exact ⟨hz, Fin.now f2 I2 rfl⟩
   ·exact f2.elim
  ·obtain ⟨a, rfl, h1⟩ := r
   exact zE ⟨_, h1.sq, fun p hp => Fin.newL f2 I2 (Cn _).cut hp⟩
  ·split at f2
   ·rename_i xs q1
    obtain ⟨a, vs, rfl, h1, l1⟩ := lV I2 q1 r;exact zE ⟨vs, SqL.of h1, fun p hp => Fin.newL f2 I2 l1.cut hp⟩
   ·exact f2.elim
def Kv (a : FE) : FE := fun ρ S => (a ρ S).bind fun x S1 => match x with
 | .cel n => (match S1[n]? with
  | some (.lst ds) => .ok (.dat (.lst ds)) (S1.set n .dead)
  | _ => .stuck)
 | _ => .stuck
theorem M9 (ha : PE X a (cO X.K W ma)) : PE X a (cO X.K W (Kv ma)) := dF ha fun σ H Q h =>
 bV (k := fun x _ S1 => match x with | .cel n => (match S1[n]? with | some (Cell.lst ds) => Res.ok (Vl.dat (D.lst ds)) (S1.set n Cell.dead) | _ => Res.stuck) | _ => Res.stuck) h fun B φ S ρ d v H1 I E r f => by
  split at f
  ·rename_i n
   obtain ⟨a, rfl, h1⟩ := r;split at f
   ·rename_i ds q
    obtain ⟨vs, h2, l⟩ := I.ok n _ a q h1;have X1 := Ext.kill (φ := φ) (S := S) (H := H1) (n := n);exact f φ _ H1 I.kill X1 ⟨a, vs, rfl, I.killed q (by simp) h1, h2, X1.repL I l⟩
   ·exact f.elim
  ·exact f.elim
def Ot (a : FE) (r : FA) : FA := fun ρ S => (a ρ S).bind fun x S1 => match (match x with | .dat (.tup xs) => some xs | x => jE S1 x) with
 | some xs => (r ρ S1).bind fun ys S2 => .ok (xs.map Vl.dat ++ ys) S2
 | none => .stuck
end
inductive Out where
 | next (ρ : Ev) (S : aN) | ret (d : Vl) (S : aN) | brk (ρ : Ev) (S : aN) | cnt (ρ : Ev) (S : aN) | err (e : Er) (ρ : Ev) (S : aN) | stuck
abbrev FS := Ev -> aN -> Out
def Res.toS {α : Type} (r : Res α) (ρ : Ev) (k : α -> aN -> Out) : Out := match r with
 | .ok a S => k a S
 | .err e S => .err e ρ S
 | .stuck => .stuck
def FinS (K : aD) (W : WX) (D : Ends) (B : Addr -> Prop) (φ : List Addr) (S : aN) (H : Hp) (o : Out) : Prop := match o with
 | .next ρ' S' => ∀ φ' σ' H', GInv K B φ' S' H' -> Ext φ S H φ' S' H' -> RepE K B φ' S' H' ρ' σ' -> D.nx σ' H'
 | .ret d S' => ∀ φ' v H', GInv K B φ' S' H' -> Ext φ S H φ' S' H' -> RepV K B φ' S' H' d v -> D.rt v H'
 | .brk ρ' S' => ∀ φ' σ' H', GInv K B φ' S' H' -> Ext φ S H φ' S' H' -> RepE K B φ' S' H' ρ' σ' -> D.bk σ' H'
 | .cnt ρ' S' => ∀ φ' σ' H', GInv K B φ' S' H' -> Ext φ S H φ' S' H' -> RepE K B φ' S' H' ρ' σ' -> D.ct σ' H'
 | .err e ρ' S' => ∀ φ' σ' c x H', GInv K B φ' S' H' -> Ext φ S H φ' S' H' -> RepE K B φ' S' H' ρ' σ' -> RY K B φ' S' H' e c x -> W c x σ' H'
 | .stuck => False
def jQ (K : aD) (W : WX) (m : FS) : TS := fun D σ H => ∃ B φ S ρ, GInv K B φ S H /\ RepE K B φ S H ρ σ /\ FinS K W D B φ S H (m ρ S)
section
variable {X : Cx} {W : WX} {e a b c : Expr} {es rest : List Expr} {pos p q p2 : Pos} {x y z : Str} {K : aD} {ma mb mc : FE} {mt mu : FT} {mas : FA} {B : Addr -> Prop} {φ φ' : List Addr} {S S' : aN} {H H' : Hp} {σ : L2.St} {Q : VK} {m n : FS} {st : Stmt} {wX : List Stmt} {D : Ends}
theorem fX {t u : TS} (h : PS X st t) (i : ∀ D σ H, u D σ H -> t D σ H) : PS X st u := ⟨fun pins s σ H D I q => h.run pins s σ H D I (i D σ H q)⟩
theorem sW {t u : TS} (h : PSs X wX t) (i : ∀ D σ H, u D σ H -> t D σ H) : PSs X wX u := ⟨fun pins s σ H D I q => h.run pins s σ H D I (i D σ H q)⟩
theorem FinS.ext {o : Out} (f : FinS K W D B φ S H o) (e : Ext φ S H φ' S' H') : FinS K W D B φ' S' H' o := by
 cases o with
 | next ρ S1 => exact fun φ1 v H1 I1 X r => f φ1 v H1 I1 (e.trans X) r
 | ret d S1 => exact fun φ1 v H1 I1 X r => f φ1 v H1 I1 (e.trans X) r
 | brk ρ S1 => exact fun φ1 v H1 I1 X r => f φ1 v H1 I1 (e.trans X) r
 | cnt ρ S1 => exact fun φ1 v H1 I1 X r => f φ1 v H1 I1 (e.trans X) r
 | err x ρ S1 => exact fun φ1 σ1 c x H1 I1 X r => f φ1 σ1 c x H1 I1 (e.trans X) r
 | stuck => exact f
theorem cD {α β : Type} {R : Rl α β} {ρ : Ev} {m : Ev -> aN -> Res α} {k : α -> aN -> Out} {Q1 : β -> Hp -> Prop} (I : GInv K B φ S H) (E : RepE K B φ S H ρ σ) (f : FinS K W D B φ S H ((m ρ S).toS ρ k))
  (hk : ∀ φ' S' d v H1, GInv K B φ' S' H1 -> Ext φ S H φ' S' H1 -> RepE K B φ' S' H1 ρ σ -> R B φ' S' H1 d v -> FinS K W D B φ' S' H1 (k d S') -> Q1 v H1) : rd K W R m σ H Q1 := by
 refine ⟨B, φ, S, ρ, I, E, ?_⟩
 cases e : m ρ S with
 | stuck => rw [e] at f; exact f
 | err x S' =>
  rw [e] at f;exact fun φ' c d H' I' X r => f φ' σ c d H' I' X (E.ext X I) r
 | ok d S' =>
  rw [e] at f;exact fun φ' v H' I' X r => hk φ' S' d v H' I' X (E.ext X I) r (FinS.ext f X)
def aK (m n : FS) : FS := fun ρ S => match m ρ S with
 | .next ρ' S' => n ρ' S'
 | o => o
def aX : FS := fun ρ S => .next ρ S
def bK (a : FE) : FS := fun ρ S => (a ρ S).toS ρ fun d S1 => .ret d S1
def cR (a : FE) : FS := fun ρ S => (a ρ S).toS ρ fun _ S1 => .next ρ S1
def bH (t : FT) (m n : FS) : FS := fun ρ S => (t ρ S).toS ρ fun c S1 => if c = true then m ρ S1 else n ρ S1
theorem Mj (h : jQ K W (aK m n) D σ H) : tSeq (jQ K W m) (jQ K W n) D σ H := by
 obtain ⟨B, φ, S, ρ, I, E, f⟩ := h;refine ⟨B, φ, S, ρ, I, E, ?_⟩
 unfold aK at f;cases e : m ρ S with
 | next ρ' S' =>
  rw [e] at f;exact fun φ' σ' H' I' X r => ⟨B, φ', S', ρ', I', r, FinS.ext f X⟩
 | ret d S' => rw [e] at f; exact f
 | brk d S' => rw [e] at f; exact f
 | cnt d S' => rw [e] at f; exact f
 | err x d S' => rw [e] at f; exact f
 | stuck => rw [e] at f; exact f
theorem aL : PSs X [] (jQ X.K W aX) := sW pss_nil fun D σ H h => by
 obtain ⟨B, φ, S, ρ, I, E, f⟩ := h;exact f φ σ H I Ext.refl E
theorem aH (h : PS X st (jQ X.K W m)) : PSs X [st] (jQ X.K W m) := pss_one h
theorem aE (h : PS X st (jQ X.K W m)) (hr : PSs X wX (jQ X.K W n)) : PSs X (st :: wX) (jQ X.K W (aK m n)) := sW (pss_cons h hr) fun D σ H h => Mj h
theorem aR (ha : PE X a (cO X.K W ma)) : PS X (.Return (some a) pos) (jQ X.K W (bK ma)) := fX (ps_ret ha) fun D σ H h => by
 obtain ⟨B, φ, S, ρ, I, E, f⟩ := h;exact cD I E f fun φ' S' d v H1 I1 X1 E1 r f1 => f1 φ' v H1 I1 Ext.refl r
theorem ON : PS X (.Return none pos) (jQ X.K W (bK (mC .non))) := fX ps_retN fun D σ H h => by
 obtain ⟨B, φ, S, ρ, I, E, f⟩ := h;exact f φ _ H I Ext.refl rfl
theorem cG (ha : PE X a (cO X.K W ma)) (hs : swapsWith a none pos.line X.env = pure false := by rfl) : PS X (.Expr a pos) (jQ X.K W (cR ma)) := fX (ps_expr ha hs) fun D σ H h => by
 obtain ⟨B, φ, S, ρ, I, E, f⟩ := h;exact cD I E f fun φ' S' d v H1 I1 X1 E1 r f1 => f1 φ' σ H1 I1 Ext.refl E1
theorem aW {s1 s2 : List Stmt} (ht : PT X c (wY X.K W mt)) (ha : PSs X s1 (jQ X.K W m)) (hb : PSs X s2 (jQ X.K W n)) : PS X (.If c s1 s2 pos) (jQ X.K W (bH mt m n)) := fX (ps_if ht ha hb) fun D σ H h => by
 obtain ⟨B, φ, S, ρ, I, E, f⟩ := h;refine cD I E f fun φ' S' d v H1 I1 X1 E1 r f1 => ?_
 have r : v = d := r;subst r;cases v with
 | true => exact ⟨B, φ', S', ρ, I1, E1, f1⟩
 | false => exact ⟨B, φ', S', ρ, I1, E1, f1⟩
inductive Tg where
 | nm (i : Nat) | tp (is : List Nat) | tn (i : Nat) (is : List Nat)
def Eg : List Nat -> TGs
 | [] => gNil
 | i :: r => gCons (gName i) (Eg r)
def MY (K : aD) : Tg -> TG
 | .nm i => gName i
 | .tp is => gTup K is.length (Eg is)
 | .tn i is => gTup K 2 (gCons (gName i) (gCons (gTup K is.length (Eg is)) gNil))
def putAll : List Nat -> List L2.V -> L2.St -> L2.St
 | i :: r, v :: vs, σ => putAll r vs (σ.set i (some v))
 | _, _, σ => σ
def kB : List Nat -> List PH.D -> Ev -> Ev
 | i :: r, v :: vs, σ => kB r vs (σ.set i (some (.dat v)))
 | _, _, σ => σ
def qR : Tg -> Vl -> Ev -> Option Ev
 | .nm i, d, ρ => some (ρ.set i (some d))
 | .tp is, .dat (.tup ds), ρ => if ds.length = is.length then some (kB is ds ρ) else none
 | .tp _, _, _ => none
 | .tn i is, .dat (.tup [d, .tup ds]), ρ => if ds.length = is.length then some (kB is ds (ρ.set i (some (.dat d)))) else none
 | .tn _ _, _, _ => none
def Pe : Tg -> List Nat
 | .nm i => [i]
 | .tp is => is
 | .tn i is => i :: is
theorem A5 {Q : L2.St -> Hp -> Prop} : ∀ {is : List Nat} {vs : List L2.V} {σ : L2.St} {H : Hp}, vs.length = is.length -> Q (putAll is vs σ) H -> Eg is vs σ H Q
 | [], [], σ, H, _, q => ⟨rfl, q⟩
 | i :: is, v :: vs, σ, H, h, q => ⟨v, vs, rfl, A5 (is := is) (by simpa using h) q⟩
 | [], _ :: _, _, _, h, _ => by simp at h
 | _ :: _, [], _, _, h, _ => by simp at h
theorem BZ : ∀ {is : List Nat} {ds : List PH.D} {vs : List L2.V} {ρ : Ev} {σ : L2.St}, RepL K (lJ B φ S) H ds vs -> RepE K B φ S H ρ σ -> RepE K B φ S H (kB is ds ρ) (putAll is vs σ)
 | [], ds, vs, ρ, σ, h, E => by cases ds <;> cases vs <;> exact E
 | i :: is, [], vs, ρ, σ, h, E => by cases h; exact E
 | i :: is, d :: ds, vs, ρ, σ, ⟨v, ws, e, h1, h2⟩, E => by subst e; exact BZ (is := is) h2 (E.set (d := .dat d) h1 i)
def Ph : Tg -> L2.V -> List L2.V -> L2.St -> L2.St
 | .nm i, v, _, σ => σ.set i (some v)
 | .tp is, _, vs, σ => putAll is vs σ
 | .tn i is, _, v :: vs, σ => putAll is vs (σ.set i (some v))
 | .tn _ _, _, [], σ => σ
theorem Dm {t : Tg} {d : Vl} {v : L2.V} {ρ ρ' : Ev} {Q : L2.St -> Hp -> Prop} (E : RepE K B φ S H ρ σ) (r : RepV K B φ S H d v) (h : qR t d ρ = some ρ') (q : ∀ vs, RepE K B φ S H ρ' (Ph t v vs σ) -> Q (Ph t v vs σ) H) : MY K t v σ H Q := by
 cases t with
 | nm i => cases h; exact q [] (E.set r i)
 | tp is =>
  cases d with
  | dat d =>
   cases d with
   | tup ds =>
    have h : (if ds.length = is.length then some (kB is ds ρ) else none) = some ρ' := h
    split at h
    ·rename_i hl
     cases h;obtain ⟨a, vs, rfl, h1, l⟩ := r;exact ⟨a, vs, rfl, h1, by rw [l.len, hl], A5 (by rw [l.len, hl]) (q vs (BZ l E))⟩
    ·cases h
   | _ => cases h
  | _ => cases h
 | tn i is =>
  cases d with
  | dat d =>
   cases d with
   | tup xs =>
    cases xs with
    | nil => cases h
    | cons d0 xs =>
     cases xs with
     | nil => cases h
     | cons d1 xs =>
      cases xs with
      | cons _ _ => cases d1 <;> cases h
      | nil =>
       cases d1 with
       | tup ds =>
        have h : (if ds.length = is.length then some (kB is ds (ρ.set i (some (.dat d0)))) else none) = some ρ' := h
        split at h
        ·rename_i hl
         cases h;obtain ⟨a, vs, rfl, h1, v0, ws, rfl, r0, v1, us, rfl, ⟨b, zs, rfl, h2, l⟩, rfl⟩ := r;refine ⟨a, [v0, .ref b], rfl, h1, rfl, v0, _, rfl, .ref b, _, rfl, b, zs, rfl, h2, by rw [l.len, hl], ?_⟩
         refine A5 (Q := fun σ' H' => gNil [] σ' H' Q) (by rw [l.len, hl]) ⟨rfl, ?_⟩
         exact q (v0 :: zs) (BZ l (E.set (d := .dat d0) r0 i))
        ·cases h
       | _ => cases h
   | _ => cases h
  | _ => cases h
def bJ (a : FE) (t : Tg) : FS := fun ρ S => (a ρ S).toS ρ fun d S1 => match qR t d ρ with
 | some ρ' => .next ρ' S1
 | none => .stuck
theorem Hf {t : Tg} (h : jQ K W (bJ ma t) D σ H) : tAsg (cO K W ma) (MY K t) D σ H := by
 obtain ⟨B, φ, S, ρ, I, E, f⟩ := h;refine cD I E f fun φ' S' d v H1 I1 X1 E1 r f1 => ?_
 split at f1
 ·rename_i ρ' q
  exact Dm E1 r q fun vs E2 => f1 φ' _ H1 I1 Ext.refl E2
 ·exact f1.elim
theorem A7 {tg e : Expr} {t : Tg} (he : PE X e (cO X.K W ma)) (hg : PG X tg (MY X.K t)) (hs : swapsWithSole [tg] e pos.line X.env = pure false := by rfl) (hw : swappedStores [tg] e X.env = pure none := by rfl)
  (h1 : (assignEach [tg] X.env).map (·.2) = [assign tg X.env] := by rfl) : PS X (.Assign [tg] e pos) (jQ X.K W (bJ ma t)) := fX (ps_asg he hg hs hw h1) fun D σ H h => Hf h
theorem aY {i : Nat} {x : Str} {e : Expr} {pos' : Pos} (hN : X.N.Nodup) (hi : X.N[i]? = some x) (hx : Loc X.env.scope x) (he : PE X e (cO X.K W ma)) (hs : swapsWith e (some (.Name x pos')) pos.line X.env = pure false := by rfl) (hf : X.fn x = true \/ X.env.scope.names.lookup x = some .local := by first | exact .inl rfl | exact .inr rfl | assumption) :
  PS X (.Assign [.Name x pos'] e pos) (jQ X.K W (bJ ma (.nm i))) := fX (ps_set hN hi hx he hs hf) fun D σ H h => Hf (t := .nm i) h
def wipeE (ρ : Ev) : List Nat -> Ev
 | [] => ρ
 | v :: vs => (wipeE ρ vs).set v none
theorem RepE.wipeE {ρ : Ev} (E : RepE K B φ S H ρ σ) : ∀ is : List Nat, RepE K B φ S H (wipeE ρ is) σ
 | [] => E
 | i :: is => (RepE.wipeE E is).forget i
def gL (is : List Nat) (m : FS) : FS := fun ρ S => match m ρ S with
 | .next ρ' S' => .next (wipeE ρ' is) S'
 | .cnt ρ' S' => .cnt (wipeE ρ' is) S'
 | .brk ρ' S' => .brk (wipeE ρ' is) S'
 | o => o
theorem KG {is : List Nat} (h : jQ K W (gL is m) D σ H) : jQ K W m D σ H := by
 obtain ⟨B, φ, S, ρ, I, E, f⟩ := h;refine ⟨B, φ, S, ρ, I, E, ?_⟩
 unfold gL at f;cases e : m ρ S with
 | next ρ' S' => rw [e] at f; exact fun φ' σ' H' I' X r => f φ' σ' H' I' X (r.wipeE is)
 | ret d S' => rw [e] at f; exact f
 | brk ρ' S' => rw [e] at f; exact fun φ' σ' H' I' X r => f φ' σ' H' I' X (r.wipeE is)
 | cnt ρ' S' => rw [e] at f; exact fun φ' σ' H' I' X r => f φ' σ' H' I' X (r.wipeE is)
 | err x d S' => rw [e] at f; exact f
 | stuck => rw [e] at f; exact f
theorem iK (is : List Nat) (h : PSs X wX (jQ X.K W m)) : PSs X wX (jQ X.K W (gL is m)) := sW h fun D σ H h => KG h
abbrev FI := Ev -> aN -> Res (List PH.D)
def MT (K : aD) (B : Addr -> Prop) (φ : List Addr) (S : aN) (H : Hp) (J : It) (ds : List PH.D) : Prop := ∀ φ1 S1 H1 B1, GInv K B1 φ1 S1 H1 -> Kp (lJ B φ S) H (lJ B1 φ1 S1) H1 ->
 (∀ i, i < ds.length -> J.go i H1) /\ J.stop ds.length H1 /\ ∀ i x H2 d, ds[i]? = some d -> J.yld i H1 x H2 -> GInv K B1 φ1 S1 H2 /\ Ext φ1 S1 H1 φ1 S1 H2 /\ Rep K (lJ B1 φ1 S1) H2 d x
def RI (K : aD) : Rl (List PH.D) It := fun B φ S H ds J => MT K B φ S H J ds
abbrev MZ (K : aD) (W : WX) (m : FI) : TI := rd K W (RI K) m
theorem HM {tg iter : Expr} {t u : TI} (h : PI X tg iter t) (i : ∀ σ H R, u σ H R -> t σ H R) : PI X tg iter u := ⟨fun pins s σ H R I q => h.run pins s σ H R I (i σ H R q)⟩
theorem Ext.kpB {B1 : Addr -> Prop} {φ1 : List Addr} {S1 : aN} {H1 : Hp} (h1 : ∀ a, B a -> B1 a) (h2 : ∀ a, H a ≠ none -> B1 a -> B a) (I : GInv K B φ S H) (x : Ext φ S H φ1 S1 H1) : Kp (lJ B φ S) H (lJ B1 φ1 S1) H1 where
 old := fun b o h n => by
  obtain ⟨h3, h4⟩ := x.old b o h (fun q => n (.inr q))
  exact ⟨h3, fun q => by
   rcases q with q | q
   ·exact n (.inl (h2 b (by rw [h]; simp) q))
   ·exact h4 q⟩
 tup := (x.kp I).tup
theorem NU {v : L2.V} {ds : List PH.D} (I : GInv K B φ S H) (r : Rep K (lJ B φ S) H (.lst ds) v) : ∃ a, v = .ref a /\ (∃ xs, SqL K H a xs) /\ MT K B φ S H (Itl K a) ds := by
 obtain ⟨a, vs, rfl, nb, h1, l⟩ := r;refine ⟨a, rfl, ⟨vs, SqL.of h1⟩, fun φ1 S1 H1 B1 I1 X1 => ?_⟩
 have h2 := (X1.old a _ h1 nb).1;have l2 := RepL.kp X1 ds vs l;have hl := l.len;refine ⟨fun i hi => ⟨vs, vs[i], SqL.of h2, by simp [hl, hi]⟩, ⟨vs, SqL.of h2, by omega⟩, fun i x H2 d hd y => ?_⟩
 obtain ⟨rfl, y⟩ := y;obtain ⟨v', h3, h4⟩ := l2.get hd;rw [y vs (SqL.of h2)] at h3;cases h3;exact ⟨I1, Ext.refl, h4⟩
theorem QT {v : L2.V} {ds : List PH.D} (I : GInv K B φ S H) (r : Rep K (lJ B φ S) H (.tup ds) v) : ∃ a, v = .ref a /\ (∃ xs, SqT K H a xs) /\ MT K B φ S H (Itt K a) ds := by
 obtain ⟨a, vs, rfl, h1, l⟩ := r;refine ⟨a, rfl, ⟨vs, h1⟩, fun φ1 S1 H1 B1 I1 X1 => ?_⟩
 have h2 : SqT K H1 a vs := SqT.kp X1.tup h1;have l2 := RepL.kp X1 ds vs l;have hl := l.len;refine ⟨fun i hi => ⟨vs, vs[i], h2, by simp [hl, hi]⟩, ⟨vs, h2, by omega⟩, fun i x H2 d hd y => ?_⟩
 obtain ⟨rfl, y⟩ := y;obtain ⟨v', h3, h4⟩ := l2.get hd;rw [y vs h2] at h3;cases h3;exact ⟨I1, Ext.refl, h4⟩
def itemsOf : Vl -> aN -> Res (List PH.D)
 | .dat (.lst ds), S => .ok ds S
 | .dat (.tup ds), S => .ok ds S
 | _, _ => .stuck
def kQ (a : FE) : FI := fun ρ S => (a ρ S).bind itemsOf
theorem kZ {tg : Expr} (ha : PE X a (cO X.K W ma)) : PI X tg a (MZ X.K W (kQ ma)) := HM (Pr ha) fun σ H R h =>
 bV (k := fun x _ S => itemsOf x S) h fun B φ S ρ d v H1 I E r f => by
  unfold itemsOf at f;split at f
  ·obtain ⟨a, rfl, h1, h2⟩ := NU I r
   exact zE ⟨h1, Fin.now f I h2⟩
  ·obtain ⟨a, rfl, h1, h2⟩ := QT I r
   exact tN ⟨h1, Fin.now f I h2⟩
  ·exact f.elim
def gI (lo : Int) (n : Nat) : List PH.D := (aV n).map fun (k : Nat) => PH.D.int (lo + (k : Int))
theorem QU {lo : Int} {n : Nat} : MT K B φ S H (Itr lo n) (gI lo n) := fun φ1 S1 H1 B1 I1 X1 => by
 refine ⟨fun i hi => by show i < n; simpa [gI] using hi, by show n <= _; simp [gI], fun i x H2 d hd y => ?_⟩
 obtain ⟨rfl, rfl⟩ := y;have : d = .int (lo + (i : Int)) := by
  unfold gI at hd;rw [cC] at hd;cases q : (aV n)[i]? with
  | none => rw [q] at hd; cases hd
  | some k =>
   rw [q] at hd;have := aJ.mp q;obtain ⟨_, e⟩ := this;simp at e;subst e;cases hd;rfl
 subst this;exact ⟨I1, Ext.refl, rfl⟩
def gZ (a : FE) : FI := fun ρ S => (a ρ S).bind fun x S1 => match x with
 | .dat (.int j) => if -(2 ^ 62) <= j /\ j < 2 ^ 62 then .ok (gI 0 j.toNat) S1 else .stuck
 | _ => .stuck
theorem nZ {tg : Expr} (hg : Gl X "range") (hm : X.mg "range" = none) (ha : PE X a (cO X.K W ma)) (hs : starEach [a] X.env = [(false, eval a X.env)] := by rfl) : PI X tg (.Call (.Name "range" p) [a] [] pos) (MZ X.K W (gZ ma)) := HM (pi_range1 hg hm (pa_cons ha pa_nil hs) hs) fun σ H R h =>
 bV (k := fun x _ S1 => match x with | Vl.dat (PH.D.int j) => if -(2 ^ 62) <= j /\ j < 2 ^ 62 then Res.ok (gI 0 j.toNat) S1 else .stuck | _ => .stuck) h fun B φ S ρ d v H1 I E r f => by
  split at f
  ·rename_i j
   cases r;split at f
   ·rename_i hj
    exact ⟨j, rfl, hj.1, hj.2, Fin.now f I QU⟩
   ·exact f.elim
  ·exact f.elim
def dR : Nat -> List PH.D -> List PH.D
 | _, [] => []
 | n, d :: r => .tup [.int (n : Nat), d] :: dR (n + 1) r
theorem DR : ∀ (n : Nat) (ds : List PH.D), (dR n ds).length = ds.length
 | _, [] => rfl
 | n, d :: r => by simp [dR, DR (n + 1) r]
theorem DU : ∀ (n : Nat) (ds : List PH.D) (i : Nat), (dR n ds)[i]? = (ds[i]?).map fun d => PH.D.tup [.int ((n + i : Nat) : Int), d]
 | n, [], i => by simp [dR]
 | n, d :: r, 0 => by simp [dR]
 | n, d :: r, i + 1 => by
  simp only [dR, List.getElem?_cons_succ]
  rw [DU (n + 1) r i, show n + 1 + i = n + (i + 1) by omega]
def D0 (a : FE) : FI := fun ρ S => (a ρ S).bind fun x S1 => match x with
 | .dat (.lst ds) => .ok (dR 0 ds) S1
 | _ => .stuck
theorem NV {a : Addr} {vs : List L2.V} {ds : List PH.D} (I : GInv K B φ S H) (nb : ¬ lJ B φ S a) (h1 : H a = some (.lst vs)) (l : RepL K (lJ B φ S) H ds vs) : MT K B φ S H (Ite K a) (dR 0 ds) := fun φ1 S1 H1 B1 I1 X1 => by
 have h2 := (X1.old a _ h1 nb).1;have l2 := RepL.kp X1 ds vs l;have hl := l.len;rw [DR];refine ⟨fun i hi => ⟨vs, vs[i], SqL.of h2, by simp [hl, hi]⟩, ⟨vs, SqL.of h2, by omega⟩, fun i x H2 d hd y => ?_⟩
 obtain ⟨T, x', rfl, nT, rfl, y⟩ := y;rw [DU, qA] at hd;cases q : ds[i]? with
 | none => rw [q] at hd; cases hd
 | some d' =>
  rw [q] at hd;cases hd;obtain ⟨v', h3, h4⟩ := l2.get q;rw [y vs (SqL.of h2)] at h3;cases h3;have X2 := Ext.new (o := .tup [.int (i : Nat), x']) I1 nT;exact ⟨I1.new nT, X2, T, _, rfl, .inl (.inl upd_same), _, _, rfl, rfl, _, _, rfl, Rep.kp (X2.kp I1) _ _ h4, rfl⟩
theorem B5 {elts : List Expr} {kk : Nat} {tpos : Pos} (hg : Gl X "enumerate") (hm : X.mg "enumerate" = none) (ha : PE X a (cO X.K W ma)) (hs : starEach [a] X.env = [(false, eval a X.env)] := by rfl) : PI X (.Tuple elts kk tpos) (.Call (.Name "enumerate" p) [a] [] pos) (MZ X.K W (D0 ma)) := HM (pi_enum hg hm (pa_cons ha pa_nil hs) hs) fun σ H R h =>
 bV (k := fun x _ S1 => match x with | Vl.dat (PH.D.lst ds) => Res.ok (dR 0 ds) S1 | _ => .stuck) h fun B φ S ρ d v H1 I E r f => by
  split at f
  ·obtain ⟨a, vs, rfl, nb, h1, l⟩ := r
   exact ⟨a, vs, rfl, SqL.of h1, Fin.now f I (NV I nb h1 l)⟩
  ·exact f.elim
def Ig : List PH.D -> List PH.D -> List PH.D
 | a :: r, b :: s => .tup [a, b] :: Ig r s
 | _, _ => []
def NK (a b : FE) : FI := fun ρ S => (a ρ S).bind fun x S1 => (b ρ S1).bind fun y S2 => match x, y with
 | .dat (.lst ds), .dat (.lst es) => .ok (Ig ds es) S2
 | _, _ => .stuck
end
section
variable {X : Cx} {W : WX} {e a b c : Expr} {es rest : List Expr} {pos p q p2 : Pos} {x y z : Str} {K : aD} {ma mb mc : FE} {mt mu : FT} {mas : FA} {mi : FI} {B : Addr -> Prop} {φ φ' : List Addr} {S S' : aN} {H H' : Hp} {σ : L2.St} {Q : VK} {m n : FS} {st : Stmt} {wX : List Stmt} {D : Ends} {t : Tg}
def loop (t : Tg) (mb : FS) : List PH.D -> Ev -> aN -> Out
 | [], ρ, S => .next ρ S
 | d :: r, ρ, S => match qR t (.dat d) ρ with
  | none => .stuck
  | some ρ1 => match mb ρ1 S with
   | .next ρ2 S2 => loop t mb r ρ2 S2
   | .cnt ρ2 S2 => loop t mb r ρ2 S2
   | .brk ρ2 S2 => .next ρ2 S2
   | .ret d S2 => .ret d S2
   | .err e ρ2 S2 => .err e ρ2 S2
   | .stuck => .stuck
def oZ (mi : FI) (t : Tg) (mb : FS) : FS := fun ρ S => (mi ρ S).toS ρ fun ds S1 => loop t mb ds ρ S1
theorem Mm (h : jQ K W (oZ mi t m) D σ H) : tFor (MZ K W mi) (MY K t) (jQ K W m) D σ H := by
 obtain ⟨B, φ, S, ρ, I, E, f⟩ := h;refine cD I E f fun φ0 S0 ds J H0 I0 X0 E0 r f0 => ?_
 refine ⟨fun i k σ' H' => i <= ds.length /\ k = ds.length - i /\ ∃ φ1 S1 ρ1, GInv K B φ1 S1 H' /\ Ext φ0 S0 H0 φ1 S1 H' /\ RepE K B φ1 S1 H' ρ1 σ' /\ FinS K W D B φ1 S1 H' (loop t m (ds.drop i) ρ1 S1), ⟨_, hW _, rfl, φ0, S0, ρ, I0, Ext.refl, E0, f0⟩, ?_⟩
 rintro i k σ' H' ⟨hi, rfl, φ1, S1, ρ1, I1, X1, E1, f1⟩
 obtain ⟨hgo, hstop, hyld⟩ := r φ1 S1 H' B I1 (X1.kp I0)
 by_cases hlt : i < ds.length
 ·refine .inr ⟨hgo i hlt, fun σ2 H2 => i + 1 <= ds.length /\ ∃ φ2 S2 ρ2, GInv K B φ2 S2 H2 /\ Ext φ0 S0 H0 φ2 S2 H2 /\ RepE K B φ2 S2 H2 ρ2 σ2 /\ FinS K W D B φ2 S2 H2 (loop t m (ds.drop (i + 1)) ρ2 S2), fun σ2 H2 ⟨h1, h2⟩ => ⟨ds.length - (i + 1), by omega, h1, rfl, h2⟩, fun x H2 y => ?_⟩
  have hd : ds[i]? = some ds[i] := by simp [hlt]
  obtain ⟨I2, X2, r2⟩ := hyld i x H2 ds[i] hd y;rw [F2 hlt] at f1;unfold loop at f1;have E2 := E1.ext X2 I1;have f2 := FinS.ext f1 X2;split at f2
  ·exact f2.elim
  ·rename_i ρ2 q2
   refine Dm E2 (d := .dat ds[i]) r2 q2 fun vs E3 => ⟨B, φ1, S1, ρ2, I2, E3, ?_⟩
   cases q3 : m ρ2 S1 with
   | next ρ3 S3 =>
    rw [q3] at f2;exact fun φ3 σ3 H3 I3 X3 E4 => ⟨hlt, φ3, S3, ρ3, I3, X1.trans (X2.trans X3), E4, FinS.ext f2 X3⟩
   | cnt ρ3 S3 =>
    rw [q3] at f2;exact fun φ3 σ3 H3 I3 X3 E4 => ⟨hlt, φ3, S3, ρ3, I3, X1.trans (X2.trans X3), E4, FinS.ext f2 X3⟩
   | brk ρ3 S3 => rw [q3] at f2; exact f2
   | ret d S3 => rw [q3] at f2; exact f2
   | err e ρ3 S3 => rw [q3] at f2; exact f2
   | stuck => rw [q3] at f2; exact f2
 ·have e : i = ds.length := by omega
  subst e;rw [List.drop_length] at f1;exact .inl ⟨hstop, f1 φ1 σ' H' I1 Ext.refl E1⟩
theorem oO {tg iter : Expr} (hp : PassesOwn (model X.prog X.w) X.A X.env X.xe) (hc : X.calm = true) (hi : PI X tg iter (MZ X.K W mi)) (hg : PG X tg (MY X.K t)) (hb : PSs X wX (jQ X.K W m))
  (hs : ∀ x, foldedSetIterable iter X.env x = pure x := by intro _; rfl) : PS X (.For tg iter wX [] pos) (jQ X.K W (oZ mi t m)) := fX (ps_for hp hc hi hg hb hs) fun D σ H h => Mm h
def F5 (mt : FT) (mb : FS) : Nat -> Ev -> aN -> Out
 | 0, _, _ => .stuck
 | n + 1, ρ, S => (mt ρ S).toS ρ fun c S1 => if c = true then (match mb ρ S1 with
   | .next ρ2 S2 => F5 mt mb n ρ2 S2
   | .cnt ρ2 S2 => F5 mt mb n ρ2 S2
   | .brk ρ2 S2 => .next ρ2 S2
   | .ret d S2 => .ret d S2
   | .err e ρ2 S2 => .err e ρ2 S2
   | .stuck => .stuck) else .next ρ S1
def EM (k : Nat) (mt : FT) (mb : FS) : FS := fun ρ S => F5 mt mb k ρ S
theorem Il {k : Nat} (h : jQ K W (EM k mt m) D σ H) : tWhile (wY K W mt) (jQ K W m) D σ H := by
 obtain ⟨B, φ, S, ρ, I, E, f⟩ := h;refine ⟨fun k σ' H' => ∃ φ1 S1 ρ1, GInv K B φ1 S1 H' /\ RepE K B φ1 S1 H' ρ1 σ' /\ FinS K W D B φ1 S1 H' (F5 mt m k ρ1 S1), ⟨k, φ, S, ρ, I, E, f⟩, ?_⟩
 rintro k σ' H' ⟨φ1, S1, ρ1, I1, E1, f1⟩
 cases k with
 | zero => exact f1.elim
 | succ k =>
  refine cD I1 E1 f1 fun φ2 S2 d v H2 I2 X2 E2 r f2 => ?_
  have r : v = d := r;subst r;cases v with
  | false => exact f2 φ2 σ' H2 I2 Ext.refl E2
  | true =>
   refine ⟨fun σ3 H3 => ∃ φ1 S1 ρ1, GInv K B φ1 S1 H3 /\ RepE K B φ1 S1 H3 ρ1 σ3 /\ FinS K W D B φ1 S1 H3 (F5 mt m k ρ1 S1), fun σ3 H3 h3 => ⟨k, CM _, h3⟩, ⟨B, φ2, S2, ρ1, I2, E2, ?_⟩⟩
   rw [if_pos rfl] at f2;cases q3 : m ρ1 S2 with
   | next ρ3 S3 =>
    rw [q3] at f2;exact fun φ3 σ3 H3 I3 X3 E4 => ⟨φ3, S3, ρ3, I3, E4, FinS.ext f2 X3⟩
   | cnt ρ3 S3 =>
    rw [q3] at f2;exact fun φ3 σ3 H3 I3 X3 E4 => ⟨φ3, S3, ρ3, I3, E4, FinS.ext f2 X3⟩
   | brk ρ3 S3 => rw [q3] at f2; exact f2
   | ret d S3 => rw [q3] at f2; exact f2
   | err e ρ3 S3 => rw [q3] at f2; exact f2
   | stuck => rw [q3] at f2; exact f2
theorem Fz {k : Nat} (hp : PassesOwn (model X.prog X.w) X.A X.env X.xe) (hc : PT X c (wY X.K W mt)) (hb : PSs X wX (jQ X.K W m)) : PS X (.While c wX [] pos) (jQ X.K W (EM k mt m)) := fX (ps_while hp hc hb) fun D σ H h => Il h
theorem uT : ∀ (vs : List Nat) (σ : L2.St) (j : Nat), (wipe σ vs)[j]? = if j ∈ vs then (σ[j]?).map (fun _ => none) else σ[j]?
 | [], σ, j => by simp [wipe]
 | v :: vs, σ, j => by
  unfold wipe;rw [aQ, uT vs σ j, wipe_length]
  by_cases e : v = j
  ·subst e
   rw [if_pos rfl, if_pos (bD ..)]
   by_cases hl : v < σ.length
   ·rw [if_pos hl]; simp [hl]
   ·rw [if_neg hl]; simp [tO hl]
  ·rw [if_neg e]
   by_cases hm : j ∈ vs
   ·rw [if_pos hm, if_pos (aU _ hm)]
   ·rw [if_neg hm, if_neg]
    intro h;rcases cS.mp h with h | h
    ·exact e h.symm
    ·exact hm h
theorem BE {vs : List Nat} {σ : L2.St} {i : Nat} {v : Option L2.V} (hi : i ∈ vs) : wipe (σ.set i v) vs = wipe σ vs := by
 apply lT
 intro j;rw [uT, uT]
 by_cases hj : j ∈ vs
 ·rw [if_pos hj, if_pos hj, aQ]
  by_cases e : i = j
  ·subst e
   rw [if_pos rfl]
   by_cases hl : i < σ.length
   ·rw [if_pos hl]; simp [hl]
   ·rw [if_neg hl]; simp [tO hl]
  ·rw [if_neg e]
 ·rw [if_neg hj, if_neg hj, aQ, if_neg]
  intro e;subst e;exact hj hi
theorem Ce {vs : List Nat} {σ : L2.St} : wipe (wipe σ vs) vs = wipe σ vs := by
 apply lT
 intro j;rw [uT]
 by_cases hj : j ∈ vs
 ·rw [if_pos hj, uT, if_pos hj]
  cases σ[j]? <;> rfl
 ·rw [if_neg hj]
theorem tP {vs : List Nat} : ∀ {is : List Nat} {ws : List L2.V} {σ : L2.St}, (∀ i ∈ is, i ∈ vs) -> wipe (putAll is ws σ) vs = wipe σ vs
 | [], ws, σ, _ => by cases ws <;> rfl
 | i :: is, [], σ, _ => rfl
 | i :: is, w :: ws, σ, h => by
  unfold putAll;rw [tP (is := is) fun j hj => h j (aU _ hj), BE (h i (bD ..))]
theorem Cf {vs : List Nat} {v : L2.V} {ws : List L2.V} (h : ∀ i ∈ Pe t, i ∈ vs) : wipe (Ph t v ws σ) vs = wipe σ vs := by
 cases t with
 | nm i => exact BE (h i (by simp [Pe]))
 | tp is => exact tP h
 | tn i is =>
  cases ws with
  | nil => rfl
  | cons w ws =>
   show wipe (putAll is ws (σ.set i (some w))) vs = _
   rw [tP fun j hj => h j (aU _ hj), BE (h i (bD ..))]
theorem RepE.wipes {ρ : Ev} (E : RepE K B φ S H ρ σ) (vs : List Nat) : RepE K B φ S H (PH.wipeE ρ vs) (wipe σ vs) := by
 have hl : ∀ vs : List Nat, (PH.wipeE ρ vs).length = ρ.length := fun vs => by
  induction vs with
  | nil => rfl
  | cons v vs ih => simp [PH.wipeE, ih]
 have hg : ∀ (vs : List Nat) (i : Nat) (d : Vl), (PH.wipeE ρ vs)[i]? = some (some d) -> i ∉ vs /\ ρ[i]? = some (some d) := fun vs => by
  induction vs with
  | nil => intro i d h; exact ⟨by simp, h⟩
  | cons v vs ih =>
   intro i d h;unfold PH.wipeE at h;rw [aQ] at h
   by_cases e : v = i
   ·rw [if_pos e] at h
    by_cases hv : v < (PH.wipeE ρ vs).length
    ·rw [if_pos hv] at h; cases h
    ·rw [if_neg hv] at h; cases h
   ·rw [if_neg e] at h
    obtain ⟨h1, h2⟩ := ih i d h;exact ⟨fun q => by
     rcases cS.mp q with q | q
     ·exact e q.symm
     ·exact h1 q, h2⟩
 refine ⟨by rw [hl, wipe_length]; exact E.1, fun i d h => ?_⟩
 obtain ⟨h1, h2⟩ := hg vs i d h;obtain ⟨v, h3, h4⟩ := E.2 i d h2;exact ⟨v, by rw [uT, if_neg h1]; exact h3, h4⟩
def nL (B : Addr -> Prop) (a : Addr) : Addr -> Prop := fun b => B b \/ b = a
theorem GInv.plus {a : Addr} {o : HO} (I : GInv K B φ S H) (ha : H a = none) : GInv K (nL B a) φ S (upd H a o) where
 len := I.len
 ok := fun n c b h1 h2 => by
  have q := I.ok n c b h1 h2;have k : Kp (lJ B φ S) H (lJ (nL B a) φ S) (upd H a o) := Ext.kpB (B1 := nL B a) (fun _ h => .inl h) (fun b hb h => by
   rcases h with h | h
   ·exact h
   ·exact absurd (by rw [h]; exact ha) hb) I (Ext.new I ha)
  have hb : c ≠ .dead -> upd H a o b = H b := fun hc => upd_ne fun e => by
   subst e;exact I.fresh ha ⟨n, c, h1, hc, h2⟩
  have hV : ∀ {d : Vl} {v : L2.V}, RepV K B φ S H d v -> RepV K (nL B a) φ S (upd H a o) d v := fun {d v} r => by
   cases d with
   | dat d => exact Rep.kp k d v r
   | cel n => exact r
   | cels ns => obtain ⟨a', as, e1, e2, e3, e4⟩ := r; exact ⟨a', as, e1, (k.old _ _ e3 e2).2, (k.old _ _ e3 e2).1, e4⟩
   | scr ns => obtain ⟨a', e1, e2⟩ := r; exact ⟨a', e1, e2.keep fun o u h => by rw [upd_ne (ne_of_none h ha)]; exact h⟩
   | tc xs => obtain ⟨a', vs, e1, e2, e3⟩ := r; exact ⟨a', vs, e1, SqT.kp k.tup e2, e3.kp k (fun _ _ h => h)⟩
  have hF : ∀ {fs : List (Str × Vl)} {vs : List (Str × L2.V)}, RepF K B φ S H fs vs -> RepF K (nL B a) φ S (upd H a o) fs vs := fun {fs} => by
   induction fs with
   | nil => intro vs r; exact r
   | cons f fs ih => rintro vs ⟨v, ws, e, h1, h2⟩; exact ⟨v, ws, e, hV h1, ih h2⟩
  cases c with
  | dead => trivial
  | lst ds => obtain ⟨vs, e, r⟩ := q; exact ⟨vs, by rw [hb (by simp)]; exact e, RepL.kp k ds vs r⟩
  | ins C fs => obtain ⟨dx, vs, e, r⟩ := q; exact ⟨dx, vs, by rw [hb (by simp)]; exact e, hF r⟩
  | dct fs => obtain ⟨vs, e, r⟩ := q; exact ⟨vs, by rw [hb (by simp)]; exact e, hF r⟩
  | lv xs => obtain ⟨vs, e, r⟩ := q; exact ⟨vs, by rw [hb (by simp)]; exact e, eU hV r⟩
  | dki ks xs => obtain ⟨vs, e, r⟩ := q; exact ⟨vs, by rw [hb (by simp)]; exact e, eU hV r⟩
  | dkt ks xs => obtain ⟨vs, e, r⟩ := q; exact ⟨vs, by rw [hb (by simp)]; exact e, eU hV r⟩
 inj := I.inj
 blk := fun b h q => by
  rcases q with q | q
  ·exact I.blk b h q
  ·subst q; exact I.fresh ha h
 btr := fun b h => by
  rcases h with h | h
  ·obtain ⟨u, e⟩ := I.btr b h
   exact ⟨u, by rw [upd_ne (ne_of_none e ha)]; exact e⟩
  ·subst h; exact ⟨o, upd_same⟩
theorem RepV.less {a : Addr} {d : Vl} {v : L2.V} (r : RepV K (nL B a) φ S H d v) : RepV K B φ S H d v := by
 have k : Kp (lJ (nL B a) φ S) H (lJ B φ S) H := ⟨fun b o h n => ⟨h, fun q => n (by
  rcases q with q | q
  ·exact .inl (.inl q)
  ·exact .inr q)⟩, fun _ _ h => h⟩
 cases d with
 | dat d => exact Rep.kp k d v r
 | cel n => exact r
 | cels ns => obtain ⟨a', as, e1, e2, e3, e4⟩ := r; exact ⟨a', as, e1, (k.old _ _ e3 e2).2, e3, e4⟩
 | scr ns => exact r
 | tc xs => obtain ⟨a', vs, e1, e2, e3⟩ := r; exact ⟨a', vs, e1, SqT.kp k.tup e2, e3.kp k (fun _ _ h => h)⟩
theorem RepL.less {a : Addr} {ds : List PH.D} {vs : List L2.V} (r : RepL K (lJ (nL B a) φ S) H ds vs) : RepL K (lJ B φ S) H ds vs :=
 RepL.kp ⟨fun b o h n => ⟨h, fun q => n (by
  rcases q with q | q
  ·exact .inl (.inl q)
  ·exact .inr q)⟩, fun _ _ h => h⟩ ds vs r
theorem RepF.less {a : Addr} : ∀ {fs : List (Str × Vl)} {vs : List (Str × L2.V)}, RepF K (nL B a) φ S H fs vs -> RepF K B φ S H fs vs
 | [], vs, r => r
 | f :: fs, vs, ⟨v, ws, e, h1, h2⟩ => ⟨v, ws, e, h1.less, RepF.less h2⟩
theorem GInv.less {a : Addr} (I : GInv K (nL B a) φ S H) : GInv K B φ S H where
 len := I.len
 ok := fun n c b h1 h2 => by
  have q := I.ok n c b h1 h2;cases c with
  | dead => trivial
  | lst ds => obtain ⟨vs, e, r⟩ := q; exact ⟨vs, e, r.less⟩
  | ins C fs => obtain ⟨dx, vs, e, r⟩ := q; exact ⟨dx, vs, e, r.less⟩
  | dct fs => obtain ⟨vs, e, r⟩ := q; exact ⟨vs, e, r.less⟩
  | lv xs => obtain ⟨vs, e, r⟩ := q; exact ⟨vs, e, eU RepV.less r⟩
  | dki ks xs => obtain ⟨vs, e, r⟩ := q; exact ⟨vs, e, eU RepV.less r⟩
  | dkt ks xs => obtain ⟨vs, e, r⟩ := q; exact ⟨vs, e, eU RepV.less r⟩
 inj := I.inj
 blk := fun b h q => I.blk b h (.inl q)
 btr := fun b h => I.btr b (.inl h)
theorem Kp.plusPut {a : Addr} {acc : List L2.V} {o : HO} (ha : H a = some (.lst acc)) : Kp (lJ (nL B a) φ S) H (lJ (nL B a) φ S) (upd H a o) :=
 ⟨fun b o' h n => ⟨by
  rw [upd_ne]
  ·exact h
  ·intro e; subst e; exact n (.inl (.inr rfl)), n⟩, fun b w h => by
  have ne : b ≠ a := fun e => by
   subst e;rcases h with h | ⟨o', h⟩
   ·rw [ha] at h; cases h
   ·rw [ha] at h; cases h
  rcases h with h | ⟨o', h⟩
  ·exact .inl (by rw [upd_ne ne]; exact h)
  ·exact .inr ⟨o', by rw [upd_ne ne]; exact h⟩⟩
theorem RepV.plusPut {a : Addr} {acc : List L2.V} {o : HO} (ha : H a = some (.lst acc)) {d : Vl} {v : L2.V} (r : RepV K (nL B a) φ S H d v) : RepV K (nL B a) φ S (upd H a o) d v := by
 have k := Kp.plusPut (B := B) (φ := φ) (S := S) (o := o) ha;cases d with
 | dat d => exact Rep.kp k d v r
 | cel n => exact r
 | cels ns => obtain ⟨a', as, e1, e2, e3, e4⟩ := r; exact ⟨a', as, e1, (k.old _ _ e3 e2).2, (k.old _ _ e3 e2).1, e4⟩
 | scr ns =>
  obtain ⟨a', e1, e2⟩ := r;refine ⟨a', e1, e2.keep fun o u h => ?_⟩
  rw [upd_ne]
  ·exact h
  ·intro e; subst e; rw [ha] at h; cases h
 | tc xs => obtain ⟨a', vs, e1, e2, e3⟩ := r; exact ⟨a', vs, e1, SqT.kp k.tup e2, e3.kp k (fun _ _ h => h)⟩
theorem RepF.plusPut {a : Addr} {acc : List L2.V} {o : HO} (ha : H a = some (.lst acc)) : ∀ {fs : List (Str × Vl)} {vs : List (Str × L2.V)}, RepF K (nL B a) φ S H fs vs -> RepF K (nL B a) φ S (upd H a o) fs vs
 | [], vs, r => r
 | f :: fs, vs, ⟨v, ws, e, h1, h2⟩ => ⟨v, ws, e, h1.plusPut ha, RepF.plusPut ha h2⟩
theorem GInv.plusPut {a : Addr} {acc : List L2.V} {o : HO} (I : GInv K (nL B a) φ S H) (ha : H a = some (.lst acc)) : GInv K (nL B a) φ S (upd H a o) where
 len := I.len
 ok := fun n c b h1 h2 => by
  have q := I.ok n c b h1 h2;have k := Kp.plusPut (B := B) (φ := φ) (S := S) (o := o) ha;have hb : c ≠ .dead -> upd H a o b = H b := fun hc => upd_ne fun e => by
   subst e;exact I.blk b ⟨n, c, h1, hc, h2⟩ (.inr rfl)
  cases c with
  | dead => trivial
  | lst ds => obtain ⟨vs, e, r⟩ := q; exact ⟨vs, by rw [hb (by simp)]; exact e, RepL.kp k ds vs r⟩
  | ins C fs => obtain ⟨dx, vs, e, r⟩ := q; exact ⟨dx, vs, by rw [hb (by simp)]; exact e, r.plusPut ha⟩
  | dct fs => obtain ⟨vs, e, r⟩ := q; exact ⟨vs, by rw [hb (by simp)]; exact e, r.plusPut ha⟩
  | lv xs => obtain ⟨vs, e, r⟩ := q; exact ⟨vs, by rw [hb (by simp)]; exact e, eU (RepV.plusPut ha) r⟩
  | dki ks xs => obtain ⟨vs, e, r⟩ := q; exact ⟨vs, by rw [hb (by simp)]; exact e, eU (RepV.plusPut ha) r⟩
  | dkt ks xs => obtain ⟨vs, e, r⟩ := q; exact ⟨vs, by rw [hb (by simp)]; exact e, eU (RepV.plusPut ha) r⟩
 inj := I.inj
 blk := I.blk
 btr := fun b h => by
  by_cases e : b = a
  ·subst e; exact ⟨o, upd_same⟩
  ·obtain ⟨u, h1⟩ := I.btr b h
   exact ⟨u, by rw [upd_ne e]; exact h1⟩
theorem RepV.plus {a : Addr} {o : HO} (I : GInv K B φ S H) (ha : H a = none) {d : Vl} {v : L2.V} (r : RepV K B φ S H d v) : RepV K (nL B a) φ S (upd H a o) d v := by
 have k : Kp (lJ B φ S) H (lJ (nL B a) φ S) (upd H a o) := Ext.kpB (B1 := nL B a) (fun _ h => .inl h) (fun b hb h => by
  rcases h with h | h
  ·exact h
  ·exact absurd (by rw [h]; exact ha) hb) I (Ext.new I ha)
 cases d with
 | dat d => exact Rep.kp k d v r
 | cel n => exact r
 | cels ns => obtain ⟨a', as, e1, e2, e3, e4⟩ := r; exact ⟨a', as, e1, (k.old _ _ e3 e2).2, (k.old _ _ e3 e2).1, e4⟩
 | scr ns => obtain ⟨a', e1, e2⟩ := r; exact ⟨a', e1, e2.keep fun o u h => by rw [upd_ne (ne_of_none h ha)]; exact h⟩
 | tc xs => obtain ⟨a', vs, e1, e2, e3⟩ := r; exact ⟨a', vs, e1, SqT.kp k.tup e2, e3.kp k (fun _ _ h => h)⟩
theorem RepE.plus {a : Addr} {o : HO} {ρ : Ev} (I : GInv K B φ S H) (ha : H a = none) (E : RepE K B φ S H ρ σ) : RepE K (nL B a) φ S (upd H a o) ρ σ :=
 ⟨E.1, fun i d h => by
  obtain ⟨v, h1, h2⟩ := E.2 i d h;exact ⟨v, h1, h2.plus I ha⟩⟩
theorem RepE.plusPut {a : Addr} {acc : List L2.V} {o : HO} {ρ : Ev} (ha : H a = some (.lst acc)) (E : RepE K (nL B a) φ S H ρ σ) : RepE K (nL B a) φ S (upd H a o) ρ σ :=
 ⟨E.1, fun i d h => by
  obtain ⟨v, h1, h2⟩ := E.2 i d h;exact ⟨v, h1, h2.plusPut ha⟩⟩
theorem Fin.done {cl : Bool} {a : Addr} {ds : List PH.D} {vs : List L2.V} {H0 : Hp} {φ0 : List Addr} {S0 : aN} (f : Fin K W σ (RepV K) B φ0 S0 H0 (PH.newL cl ds S) Q) (I : GInv K (nL B a) φ S H) (X0 : Ext φ0 S0 H0 φ S H) (h0 : H0 a = none) (nB : ¬ B a) (ha : H a = some (.lst vs)) (l : RepL K (lJ (nL B a) φ S) H ds vs) : Q (.ref a) H := by
 have na : ¬ lM φ S a := fun q => I.blk a q (.inr rfl)
 unfold PH.newL at f;cases cl with
 | false =>
  refine f φ _ H I.less X0 ⟨a, vs, rfl, fun q => ?_, ha, l.less⟩
  rcases q with q | q
  ·exact nB q
  ·exact na q
 | true =>
  have X1 : Ext φ0 S0 H0 (φ ++ [a]) (S ++ [.lst ds]) H := {
   old := fun b o h n => by
    obtain ⟨h1, h2⟩ := X0.old b o h n;refine ⟨h1, fun q => ?_⟩
    rcases (rR I.len).mp q with q | ⟨_, q⟩
    ·exact h2 q
    ·subst q; rw [h0] at h; cases h
   ids := fun n b h => by
    have := X0.ids n b h;rw [aT (aJ.mp this).1]; exact this }
  have hS : ∀ b, lJ B (φ ++ [a]) (S ++ [.lst ds]) b -> lJ (nL B a) φ S b := fun b q => by
   rcases q with q | q
   ·exact .inl (.inl q)
   ·rcases (rR I.len).mp q with q | ⟨_, q⟩
    ·exact .inr q
    ·exact .inl (.inr q)
  have k : Kp (lJ (nL B a) φ S) H (lJ B (φ ++ [a]) (S ++ [.lst ds])) H := ⟨fun b o h n => ⟨h, fun q => n (hS b q)⟩, fun _ _ h => h⟩
  have hφ : ∀ (n : Nat) (b : Addr), φ[n]? = some b -> (φ ++ [a])[n]? = some b := fun n b h => by rw [aT (aJ.mp h).1]; exact h
  have hV : ∀ {d : Vl} {v : L2.V}, RepV K (nL B a) φ S H d v -> RepV K B (φ ++ [a]) (S ++ [.lst ds]) H d v := fun {d v} r => by
   cases d with
   | dat d => exact Rep.kp k d v r
   | cel n => obtain ⟨b, e1, e2⟩ := r; exact ⟨b, e1, hφ _ _ e2⟩
   | cels ns => obtain ⟨a', as, e1, e2, e3, e4⟩ := r; exact ⟨a', as, e1, (k.old _ _ e3 e2).2, e3, Ay hφ ns as e4⟩
   | scr ns => exact r
   | tc xs => obtain ⟨a', vs, e1, e2, e3⟩ := r; exact ⟨a', vs, e1, SqT.kp k.tup e2, e3.kp k hφ⟩
  have hF : ∀ {fs : List (Str × Vl)} {vs : List (Str × L2.V)}, RepF K (nL B a) φ S H fs vs -> RepF K B (φ ++ [a]) (S ++ [.lst ds]) H fs vs := fun {fs} => by
   induction fs with
   | nil => intro vs r; exact r
   | cons f fs ih => rintro vs ⟨v, ws, e, h1, h2⟩; exact ⟨v, ws, e, hV h1, ih h2⟩
  refine f (φ ++ [a]) _ H ?_ X1 ⟨a, rfl, by rw [<- I.len]; exact pK⟩
  exact {
   len := by simp [I.len]
   ok := fun n c b h1 h2 => by
    by_cases hn : n < S.length
    ·rw [aT hn] at h1
     rw [aT (by rw [I.len]; exact hn)] at h2
     have q := I.ok n c b h1 h2;cases c with
     | dead => trivial
     | lst es => obtain ⟨us, e, r⟩ := q; exact ⟨us, e, RepL.kp k es us r⟩
     | ins C fs => obtain ⟨dx, us, e, r⟩ := q; exact ⟨dx, us, e, hF r⟩
     | dct fs => obtain ⟨us, e, r⟩ := q; exact ⟨us, e, hF r⟩
     | lv xs => obtain ⟨us, e, r⟩ := q; exact ⟨us, e, eU hV r⟩
     | dki ks xs => obtain ⟨us, e, r⟩ := q; exact ⟨us, e, eU hV r⟩
     | dkt ks xs => obtain ⟨us, e, r⟩ := q; exact ⟨us, e, eU hV r⟩
    ·have e : n = S.length := by
      have := (aJ.mp h1).1;simp at this;omega
     subst e;rw [cM (cN _)] at h1;rw [<- I.len, cM (cN _)] at h2;simp at h1 h2;subst h1 h2;exact ⟨vs, ha, RepL.kp k ds vs l⟩
   inj := fun n m c c' b h1 h2 h3 h4 h5 h6 => by
    have key : ∀ (n : Nat) (c : Cell), (S ++ [.lst ds])[n]? = some c -> (n < S.length /\ S[n]? = some c) \/ n = S.length := fun n c h => by
     by_cases hn : n < S.length
     ·rw [aT hn] at h; exact .inl ⟨hn, h⟩
     ·have := (aJ.mp h).1
      simp at this;exact .inr (by omega)
    have kφ : ∀ n : Nat, n < S.length -> (φ ++ [a])[n]? = φ[n]? := fun n hn => aT (by rw [I.len]; exact hn)
    have kp : (φ ++ [a])[S.length]? = some a := by rw [<- I.len]; simp
    rcases key n c h1 with ⟨hn, e1⟩ | e1 <;> rcases key m c' h3 with ⟨hm, e2⟩ | e2
    ·rw [kφ n hn] at h5
     rw [kφ m hm] at h6;exact I.inj n m c c' b e1 h2 e2 h4 h5 h6
    ·subst e2
     rw [kp] at h6;cases h6;rw [kφ n hn] at h5;exact absurd ⟨n, c, e1, h2, h5⟩ na
    ·subst e1
     rw [kp] at h5;cases h5;rw [kφ m hm] at h6;exact absurd ⟨m, c', e2, h4, h6⟩ na
    ·omega
   blk := fun b h => by
    rcases (rR I.len).mp h with h | ⟨_, h⟩
    ·exact fun q => I.blk b h (.inl q)
    ·subst h; exact nB
   btr := fun b h => I.btr b (.inl h) }
end
section
variable {X : Cx} {W : WX} {e a b c : Expr} {es rest : List Expr} {pos p q p2 : Pos} {x y z : Str} {K : aD} {ma mb mc : FE} {mt mu : FT} {mas : FA} {mi mj : FI} {B : Addr -> Prop} {φ φ' : List Addr} {S S' : aN} {H H' : Hp} {σ : L2.St} {Q : VK} {m n : FS} {st : Stmt} {wX : List Stmt} {D : Ends} {t t1 : Tg}
def eV : FT := fun _ S => .ok true S
theorem Mi {Q : Bool -> Hp -> Prop} (h : wY K W eV σ H Q) : tYes σ H Q := by
 obtain ⟨B, φ, S, ρ, I, E, f⟩ := h;exact Fin.now (v := true) f I rfl
theorem Od {es : List Expr} {t u : TT} (h : PTs X es t) (i : ∀ σ H Q, u σ H Q -> t σ H Q) : PTs X es u := ⟨fun pins s σ H Q I q => h.run pins s σ H Q I (i σ H Q q)⟩
theorem gU : PTs X [] (wY X.K W eV) := Od pts_nil fun σ H Q h => Mi h
theorem OJ {c : Expr} (h : PT X c (wY X.K W mt)) : PTs X [c] (wY X.K W mt) := pts_one h
def nJ (t : Tg) (mt : FT) (me : FE) (ρ : Ev) : List PH.D -> aN -> Res (List PH.D)
 | [], S => .ok [] S
 | d :: r, S => match qR t (.dat d) ρ with
  | none => .stuck
  | some ρ1 => match mt ρ1 S with
   | .ok b S1 => if b = true then (match me ρ1 S1 with
     | .ok (.dat e) S2 => (match nJ t mt me ρ r S2 with
      | .ok es S3 => .ok (e :: es) S3
      | _ => .stuck)
     | _ => .stuck) else nJ t mt me ρ r S1
   | _ => .stuck
def zW (cl : Bool) (mi : FI) (t : Tg) (mt : FT) (me : FE) (vs : List Nat) : FE := fun ρ S => (mi ρ S).bind fun ds S1 => if ds.length <= sizeLine then (match nJ t mt me (wipeE ρ vs) ds S1 with
 | .ok es S2 => newL cl es S2
 | _ => .stuck) else .stuck
theorem KI {cl : Bool} {me : FE} {vs : List Nat} (ht : ∀ i ∈ Pe t, i ∈ vs) (h : cO K W (zW cl mi t mt me vs) σ H Q) : tLc (MZ K W mi) (MY K t) (wY K Mb mt) (cO K Mb me) vs σ H Q := by
 refine bV (k := fun ds ρ S1 => if ds.length <= sizeLine then (match nJ t mt me (wipeE ρ vs) ds S1 with | .ok es S2 => newL cl es S2 | _ => .stuck) else .stuck) h fun B φ0 S0 ρ ds J H0 I0 E0 r f0 => ?_
 intro A hA;split at f0
 case isFalse => exact f0.elim
 rename_i hsz;cases q0 : nJ t mt me (wipeE ρ vs) ds S0 with
 | stuck => rw [q0] at f0; exact f0.elim
 | err e S' => rw [q0] at f0; exact f0.elim
 | ok es0 Sz =>
 rw [q0] at f0;have nB : ¬ B A := fun q => by obtain ⟨u, e⟩ := I0.btr A q; rw [hA] at e; cases e
 have IA : GInv K (nL B A) φ0 S0 (upd H0 A (.lst [])) := I0.plus hA;have b2 : ∀ a, H0 a ≠ none -> nL B A a -> B a := fun b hb h => by
  rcases h with h | h
  ·exact h
  ·exact absurd (by rw [h]; exact hA) hb
 -- what is known at a turn
 refine ⟨fun i k H' => i <= ds.length /\ k = ds.length - i /\ ∃ φ1 S1 us acc rest, GInv K (nL B A) φ1 S1 H' /\ Ext φ0 S0 H0 φ1 S1 H' /\ RepE K (nL B A) φ1 S1 H' (wipeE ρ vs) (wipe σ vs) /\ H' A = some (.lst us) /\ us.length <= i /\ RepL K (lJ (nL B A) φ1 S1) H' acc us /\ nJ t mt me (wipeE ρ vs) (ds.drop i) S1 = .ok rest Sz /\ acc ++ rest = es0,
  ⟨_, hW _, rfl, φ0, S0, [], [], es0, IA, Ext.new I0 hA, (E0.wipes vs).plus I0 hA, upd_same, cN _, rfl, q0, rfl⟩, ?_⟩
 rintro i k H' ⟨hi, rfl, φ1, S1, us, acc, rs, I1, X1, E1, hA1, hul, l1, g1, ea⟩
 obtain ⟨hgo, hstop, hyld⟩ := r φ1 S1 H' (nL B A) I1 (X1.kpB (fun _ h => .inl h) b2 I0)
 by_cases hlt : i < ds.length
 ·refine .inr ⟨hgo i hlt, fun H2 => i + 1 <= ds.length /\ ∃ φ1 S1 us acc rest, GInv K (nL B A) φ1 S1 H2 /\ Ext φ0 S0 H0 φ1 S1 H2 /\ RepE K (nL B A) φ1 S1 H2 (wipeE ρ vs) (wipe σ vs) /\ H2 A = some (.lst us) /\ us.length <= i + 1 /\ RepL K (lJ (nL B A) φ1 S1) H2 acc us /\ nJ t mt me (wipeE ρ vs) (ds.drop (i + 1)) S1 = .ok rest Sz /\ acc ++ rest = es0, fun H2 ⟨h1, h2⟩ => ⟨ds.length - (i + 1), by omega, h1, rfl, h2⟩, fun x H2 y => ?_⟩
  have hd : ds[i]? = some ds[i] := by simp [hlt]
  obtain ⟨I2, X2, r2⟩ := hyld i x H2 ds[i] hd y;rw [F2 hlt] at g1;unfold nJ at g1;split at g1
  case h_1 => cases g1
  rename_i ρ2 q2;have hA2 := (X2.old A _ hA1 fun q => I1.blk A q (.inr rfl)).1
  refine Dm (E1.ext X2 I1) (d := .dat ds[i]) r2 q2 fun ws E3 => ⟨by rw [Cf ht, Ce], nL B A, φ1, S1, ρ2, I2, E3, ?_⟩
  split at g1
  case h_2 => cases g1
  rename_i b S3 q3;rw [q3];intro φ3 b' H3 I3 X3 rb;have rb : b' = b := rb;subst rb;have hA3 := (X3.old A _ hA2 fun q => I2.blk A q (.inr rfl)).1
  have Xa := X1.trans (X2.trans X3);cases b' with
  | false =>
   exact ⟨hlt, φ3, S3, us, acc, rs, I3, Xa, (E1.ext X2 I1).ext X3 I2, hA3, Nat.le_succ_of_le hul, X3.repL I2 (X2.repL I1 l1), g1, ea⟩
  | true =>
   rw [if_pos rfl];rw [if_pos rfl] at g1;refine ⟨nL B A, φ3, S3, ρ2, I3, E3.ext X3 I2, ?_⟩
   split at g1
   case h_2 => cases g1
   rename_i e S4 q4;rw [q4];intro φ4 v4 H4 I4 X4 r4;have hA4 := (X4.old A _ hA3 fun q => I3.blk A q (.inr rfl)).1
   split at g1
   case h_2 => cases g1
   rename_i es S5 q5;cases g1;have l4 : RepL K (lJ (nL B A) φ4 S4) H4 (acc ++ [e]) (us ++ [v4]) := (X4.repL I3 (X3.repL I2 (X2.repL I1 l1))).snoc r4;refine ⟨us, hA4, by omega, hlt, φ4, S4, us ++ [v4], acc ++ [e], es, I4.plusPut hA4, ?_, (((E1.ext X2 I1).ext X3 I2).ext X4 I3).plusPut hA4, upd_same, by simp; omega, RepL.kp (Kp.plusPut hA4) _ _ l4, q5, by rw [<- ea]; simp⟩
   exact ⟨fun b o h nb => by
    obtain ⟨h1, h2⟩ := (Xa.trans X4).old b o h nb;exact ⟨by rw [upd_ne (fun e => by subst e; rw [hA] at h; cases h)]; exact h1, h2⟩, (Xa.trans X4).ids⟩
 ·have e : i = ds.length := by omega
  subst e;rw [List.drop_length] at g1;cases g1;rw [cZ] at ea;subst ea;exact .inl ⟨hstop, Fin.done f0 I1 X1 hA nB hA1 l1⟩
theorem xW {cl : Bool} {me : FE} {elt tg iter : Expr} {ifs : List Expr} {scope : Scope} {own : List (Str × Nat)} (hc : X.calm = true) (hN : X.N.Nodup) (hi : PI X tg iter (MZ X.K W mi)) (ok : BlkOk X.N X.env.scope scope own)
  (hg : ∀ (s : Shared) (H : Hp) (C : Addr) (cl : List (Str × Addr)) (fp : List Addr), PG (X.blk s H scope (compEnvC scope cl C X.env) fp) tg (MY X.K t)) (ht : ∀ (s : Shared) (H : Hp) (C : Addr) (cl : List (Str × Addr)) (fp : List Addr), PTs (X.blk s H scope (compEnvC scope cl C X.env) fp) ifs (wY X.K Mb mt))
  (he : ∀ (s : Shared) (H : Hp) (C : Addr) (cl : List (Str × Addr)) (fp : List Addr), PE (X.blk s H scope (compEnvC scope cl C X.env) fp) elt (cO X.K Mb me)) (hs : ∀ x, foldedSetIterable iter X.env x = pure x := by intro _; rfl) (hv : ∀ i ∈ Pe t, i ∈ own.map (·.2) := by decide) :
  PE X (.ListComp elt [⟨tg, iter, ifs, 0⟩] scope pos) (cO X.K W (zW cl mi t mt me (own.map (·.2)))) := dF (pe_lc hc hN hi ok hg ht he hs) fun σ H Q h => KI hv h
theorem Ly {i : Nat} {y : Str} {py : Pos} {cl : Bool} {me : FE} {elt tg iter : Expr} {ifs : List Expr} {scope : Scope} {own : List (Str × Nat)} {spos : Pos} (hc : X.calm = true) (hN : X.N.Nodup) (hy : X.N[i]? = some y) (hyl : X.env.scope.names.lookup y = some .local)
  (hsw : swapsWith (.ListComp elt [⟨tg, iter, ifs, 0⟩] scope pos) (some (.Name y py)) spos.line X.env = pure true) (hi : PI X tg iter (MZ X.K W mi)) (ok : BlkOk X.N X.env.scope scope own)
  (hg : ∀ (s : Shared) (H : Hp) (C : Addr) (cl : List (Str × Addr)) (fp : List Addr), PG (X.blk s H scope (compEnvC scope cl C X.env) fp) tg (MY X.K t)) (ht : ∀ (s : Shared) (H : Hp) (C : Addr) (cl : List (Str × Addr)) (fp : List Addr), PTs (X.blk s H scope (compEnvC scope cl C X.env) fp) ifs (wY X.K Mb mt))
  (he : ∀ (s : Shared) (H : Hp) (C : Addr) (cl : List (Str × Addr)) (fp : List Addr), PE (X.blk s H scope (compEnvC scope cl C X.env) fp) elt (cO X.K Mb me)) (hs : ∀ x, foldedSetIterable iter X.env x = pure x := by intro _; rfl) (hv : ∀ i ∈ Pe t, i ∈ own.map (·.2) := by decide) :
  PS X (.Assign [.Name y py] (.ListComp elt [⟨tg, iter, ifs, 0⟩] scope pos) spos) (jQ X.K W (bJ (zW cl mi t mt me (own.map (·.2))) (.nm i))) := fX (ps_setLc hc hN hy hyl hsw hi ok hg ht he hs) fun D σ H h => by
 obtain ⟨B, φ, S, ρ, I, E, f⟩ := h;refine KI hv (cD I E f fun φ' S' d v H1 I1 X1 E1 r f1 => ?_)
 exact f1 φ' _ H1 I1 Ext.refl (E1.set r i)
end
section
variable {X : Cx} {W : WX} {e a b c o i : Expr} {es rest : List Expr} {pos p q p2 tpos apos cpos : Pos} {x y z : Str} {K : aD} {ma mb mc mo mx : FE} {mt mt1 mu : FT} {mas : FA} {mi mj : FI} {B : Addr -> Prop} {φ φ' : List Addr} {S S' : aN} {H H' : Hp} {σ : L2.St} {Q : VK} {m n : FS} {st : Stmt} {wX : List Stmt} {D : Ends} {t t1 : Tg}
def Fh (t : Tg) (mt : FT) (mj : FI) (t1 : Tg) (mt1 : FT) (me : FE) (vs1 : List Nat) (ρ : Ev) : List PH.D -> aN -> Res (List PH.D)
 | [], S => .ok [] S
 | d :: r, S => match qR t (.dat d) ρ with
  | none => .stuck
  | some ρ1 => match mt ρ1 S with
   | .ok b S1 => if b = true then (match mj ρ1 S1 with
     | .ok ds1 S2 => (match nJ t1 mt1 me (wipeE ρ1 vs1) ds1 S2 with
      | .ok xs S3 => (match Fh t mt mj t1 mt1 me vs1 ρ r S3 with
       | .ok ys S4 => .ok (xs ++ ys) S4
       | _ => .stuck)
      | _ => .stuck)
     | _ => .stuck) else Fh t mt mj t1 mt1 me vs1 ρ r S1
   | _ => .stuck
def Q4 (cl : Bool) (mi : FI) (t : Tg) (mt : FT) (mj : FI) (t1 : Tg) (mt1 : FT) (me : FE) (vs vs1 : List Nat) : FE := fun ρ S => (mi ρ S).bind fun ds S1 => match Fh t mt mj t1 mt1 me vs1 (wipeE ρ vs) ds S1 with
 | .ok es S2 => if es.length <= sizeLine then newL cl es S2 else .stuck
 | _ => .stuck
def G5 (x y : Vl) (S : aN) : Res Vl := match x, y with
 | .cel n, .dat d => (match S[n]? with
  | some (.lst ds) => if ds.length < sizeLine then .ok (.dat .non) (S.set n (.lst (ds ++ [d]))) else .stuck
  | _ => .stuck)
 | _, _ => .stuck
theorem yO {n : Nat} {ds ds' : List PH.D} {v v' : L2.V} {d' : Vl} {vs vs' : List L2.V} {a : Addr} (I : GInv K B φ S H) (hn : S[n]? = some (.lst ds)) (ha : φ[n]? = some a) (l : RepL K (lJ B φ S) H ds' vs') (r : RepV K B φ S H d' v')
  (f : Fin K W σ (RepV K) B φ S H (.ok d' (S.set n (.lst ds'))) Q) : Q v' (upd H a (.lst vs')) := by
 have X1 := Ext.put (H := H) (o := .lst vs') (x := .lst ds') hn (by simp) ha (by simp)
 have I1 : GInv K B φ (S.set n (.lst ds')) (upd H a (.lst vs')) := I.put hn (by simp) ha (by simp) ⟨vs', upd_same, X1.repL I l⟩
 exact f φ v' _ I1 X1 (r.ext X1 I)
theorem Q0 : ∀ {x : L2.V} {y : L2.V} {d e : Vl}, GInv K B φ S H -> RepV K B φ S H d x -> RepV K B φ S H e y -> Fin K W σ (RepV K) B φ S H (G5 d e S) Q -> IU x [y] H Q := fun {x y d e} I r1 r2 f => by
 unfold G5 at f;split at f
 ·rename_i n d
  obtain ⟨a, rfl, h1⟩ := r1;split at f
  ·rename_i ds q
   obtain ⟨vs, h2, l⟩ := I.ok n _ a q h1;split at f
   ·rename_i hl
    exact ⟨vs, h2, by rw [l.len]; exact hl, yO (v := .non) (v' := .non) (d' := .dat .non) (vs := vs) I q h1 (l.snoc r2) rfl f⟩
   ·exact f.elim
  ·exact f.elim
 ·exact f.elim
theorem HK {d e : Vl} {v : L2.V} (I : GInv K B φ S H) (r : RepV K B φ S H d v) (h : ∃ ds, jE S d = some ds) : tyV K "list" v H := by
 obtain ⟨ds, q⟩ := h;obtain ⟨a, vs, rfl, h1, l⟩ := lV I q r;exact .inl ⟨rfl, vs, SqL.of h1⟩
def jT (a b : FE) : FE := fun ρ S => (a ρ S).bind fun x S1 => match jE S1 x with
 | some _ => (b ρ S1).bind fun y S2 => G5 x y S2
 | none => .stuck
theorem kH (ha : PE X a (cO X.K W ma)) (hb : PE X b (cO X.K W mb)) (hs : starEach [b] X.env = (false, eval b X.env) :: starEach [] X.env := by rfl) (hbase : attributeBase a "append" X.env (eval a X.env) = eval a X.env := by rfl) (hline : (apos.endLine == cpos.line) = true := by rfl)
  (hfew : ((backTo cpos (starEach [b] X.env)).all (fun x => !x.1) && (backToKw cpos (keywordEach [] X.env)).all (fun x => x.1.isSome)
   && decide ([b].length + ([] : List Keyword).length + (if ([] : List Keyword).isEmpty then 0 else 1) < 30)) = true := by rfl)
  (hpl : (backTo cpos (starEach ([] : List Expr) X.env)).any (·.1) = false := by rfl) : PE X (.Call (.Attribute a "append" apos) [b] [] cpos) (cO X.K W (jT ma mb)) :=
 dF (pe_bm PySem.F.plainAttrs_list PySem.F.slot_list_append PySem.F.type_list_append Gi ha (pa_cons hb pa_nil hs) hbase hfew hline hs hpl) fun σ H Q h =>
  bV (k := fun x ρ S1 => match jE S1 x with | some _ => (mb ρ S1).bind fun y S2 => G5 x y S2 | none => .stuck) h fun B φ S ρ d v H1 I E r f => by
   split at f
   ·rename_i ds q
    exact ⟨HK (e := d) I r ⟨ds, q⟩, fC I E f fun φ' S' d2 v2 H2 I2 X2 E2 r2 f2 => Q0 I2 (r.ext X2 I) r2 f2⟩
   ·exact f.elim
def A8 (x : Vl) (S : aN) : Res Vl := match x with
 | .cel n => (match S[n]? with
  | some (.lst ds) => (match ds[ds.length - 1]? with
   | some d => .ok (.dat d) (S.set n (.lst ds.dropLast))
   | none => .stuck)
  | _ => .stuck)
 | _ => .stuck
theorem RepL.dropLast {Bk : Addr -> Prop} {ds : List PH.D} {vs : List L2.V} (h : RepL K Bk H ds vs) : RepL K Bk H ds.dropLast vs.dropLast := by
 rw [Ia, Ia, h.len];exact h.take _
theorem G3 (ha : PE X a (cO X.K W ma)) (hbase : attributeBase a "pop" X.env (eval a X.env) = eval a X.env := by rfl) (hline : (apos.endLine == cpos.line) = true := by rfl) : PE X (.Call (.Attribute a "pop" apos) [] [] cpos) (cO X.K W (m1 A8 ma)) :=
 dF (pe_bm0 PySem.F.plainAttrs_list PySem.F.slot_list_pop PySem.F.type_list_pop NG ha hbase hline) fun σ H Q h =>
  bV (k := fun x ρ S1 => A8 x S1) h fun B φ S ρ d v H1 I E r f => by
   unfold A8 at f;split at f
   ·rename_i n
    obtain ⟨a, rfl, h1⟩ := r;split at f
    ·rename_i ds q
     obtain ⟨vs, h2, l⟩ := I.ok n _ a q h1;split at f
     ·rename_i d qd
      obtain ⟨v', h3, h4⟩ := l.get qd;exact ⟨.inl ⟨rfl, vs, SqL.of h2⟩, vs, v', h2, by rw [l.len]; exact h3, yO (v := .non) (d' := .dat d) (vs := vs) I q h1 l.dropLast h4 f⟩
     ·exact f.elim
    ·exact f.elim
   ·exact f.elim
def setC (x : Vl) (k : Int) (d : PH.D) (S : aN) : Option aN := match x with
 | .cel n => (match S[n]? with
  | some (.lst ds) => if 0 <= k /\ k.toNat < ds.length then some (S.set n (.lst (ds.set k.toNat d))) else none
  | _ => none)
 | _ => none
theorem Hg {x : Vl} {k : Int} {d : PH.D} {v u : L2.V} {Qh : Hp -> Prop} (I : GInv K B φ S H) (r : RepV K B φ S H x v) (rd' : Rep K (lJ B φ S) H d u) (h : setC x k d S = some S') (q : ∀ H', GInv K B φ S' H' -> Ext φ S H φ S' H' -> Qh H') : IR v (.int k) u H Qh := by
 unfold setC at h;split at h
 ·rename_i n
  obtain ⟨a, rfl, h1⟩ := r;split at h
  ·rename_i ds q1
   split at h
   ·rename_i hk
    cases h;obtain ⟨vs, h2, l⟩ := I.ok n _ a q1 h1;have X1 := Ext.put (H := H) (o := .lst (vs.set k.toNat u)) (x := .lst (ds.set k.toNat d)) q1 (by simp) h1 (by simp)
    exact ⟨vs, h2, hk.1, by rw [l.len]; exact hk.2, q _ (I.put q1 (by simp) h1 (by simp) ⟨_, upd_same, X1.repL I (l.set rd' _)⟩) X1⟩
   ·cases h
  ·cases h
 ·cases h
def Bq (a o i : FE) : FS := fun ρ S => (a ρ S).toS ρ fun v S1 => (o ρ S1).toS ρ fun x S2 => (i ρ S2).toS ρ fun k S3 => match v, k with
 | .dat d, .dat (.int k) => (match setC x k d S3 with
  | some S4 => .next ρ S4
  | none => .stuck)
 | _, _ => .stuck
theorem IH (ha : PE X a (cO X.K W ma)) (ho : PE X o (cO X.K W mo)) (hi : PE X i (cO X.K W mx)) (hs : swapsWithSole [.Subscript o i tpos] a pos.line X.env = pure false := by rfl) (hw : swappedStores [.Subscript o i tpos] a X.env = pure none := by rfl)
  (h1 : (assignEach [.Subscript o i tpos] X.env).map (·.2) = [assign (.Subscript o i tpos) X.env] := by rfl)
  (hz : ∀ v, assign (.Subscript o i tpos) X.env v = (do
   let ov <- holding [v] (eval o X.env)
   let iv <- holding [v, ov] (eval i X.env)
   standAt tpos
   holding [v, ov, iv] (setItem ov iv v)
   release [v, ov, iv] []) := by intro _; rfl) : PS X (.Assign [.Subscript o i tpos] a pos) (jQ X.K W (Bq ma mo mx)) := fX (ps_asg ha (pg_sub ho hi Ck hz) hs hw h1) fun D σ H h => by
 obtain ⟨B, φ, S, ρ, I, E, f⟩ := h;refine cD I E f fun φ1 S1 d1 v1 H1 I1 X1 E1 r1 f1 => cD I1 E1 f1 fun φ2 S2 d2 v2 H2 I2 X2 E2 r2 f2 => cD I2 E2 f2 fun φ3 S3 d3 v3 H3 I3 X3 E3 r3 f3 => ?_
 split at f3
 ·rename_i d k
  cases r3;split at f3
  ·rename_i S4 q
   exact Hg I3 (r2.ext X3 I2) ((r1.ext X2 I1).ext X3 I2) q fun H' I' X' => f3 φ3 σ H' I' X' (E3.ext X' I3)
  ·exact f3.elim
 ·exact f3.elim
def LQ (x : Vl) (k : Int) (S : aN) : Option PH.D := match x with
 | .cel n => (match S[n]? with
  | some (.lst ds) => if 0 <= k then ds[k.toNat]? else none
  | _ => none)
 | _ => none
theorem Ni {x : Vl} {k : Int} {d : PH.D} {v : L2.V} {Q' : VK} (I : GInv K B φ S H) (r : RepV K B φ S H x v) (h : LQ x k S = some d) (q : ∀ u, Rep K (lJ B φ S) H d u -> Q' u H) : IT v (.int k) H Q' := by
 unfold LQ at h;split at h
 ·rename_i n
  obtain ⟨a, rfl, h1⟩ := r;split at h
  ·rename_i ds q1
   split at h
   ·rename_i hk
    obtain ⟨vs, h2, l⟩ := I.ok n _ a q1 h1;obtain ⟨u, h3, h4⟩ := l.get h;exact ⟨vs, u, h2, hk, h3, q u h4⟩
   ·cases h
  ·cases h
 ·cases h
def kS (g : Int -> Int -> Int) (o i e : FE) : FS := fun ρ S => (o ρ S).toS ρ fun x S1 => (i ρ S1).toS ρ fun k S2 => match k with
 | .dat (.int k) => (match LQ x k S2 with
  | some (.int u) => (e ρ S2).toS ρ fun w S3 => (match w with
   | .dat (.int w) => (match setC x k (.int (g u w)) S3 with
    | some S4 => .next ρ S4
    | none => .stuck)
   | _ => .stuck)
  | _ => .stuck)
 | _ => .stuck
theorem FC {g : Int -> Int -> Int} {r : R2} {me : FE} (hr : ∀ i j H Q, Q (.int (g i j)) H -> r (.int i) (.int j) H Q) (h : jQ K W (kS g mo mx me) D σ H) : tAugS (cO K W mo) (cO K W mx) (cO K W me) IT (cIp r) IR D σ H := by
 obtain ⟨B, φ, S, ρ, I, E, f⟩ := h;refine cD I E f fun φ1 S1 d1 v1 H1 I1 X1 E1 r1 f1 => cD I1 E1 f1 fun φ2 S2 d2 v2 H2 I2 X2 E2 r2 f2 => ?_
 split at f2
 ·rename_i k
  cases r2;split at f2
  ·rename_i u q
   refine Ni I2 (r1.ext X2 I1) q fun u' ru => ?_
   cases ru;refine cD I2 E2 f2 fun φ3 S3 d3 v3 H3 I3 X3 E3 r3 f3 => ?_
   split at f3
   ·rename_i w
    cases r3;split at f3
    ·rename_i S4 q4
     refine hr _ _ _ _ ?_
     exact Hg I3 ((r1.ext X2 I1).ext X3 I2) (d := .int (g u w)) rfl q4 fun H' I' X' => f3 φ3 σ H' I' X' (E3.ext X' I3)
    ·exact f3.elim
   ·exact f3.elim
  ·exact f2.elim
 ·exact f2.elim
theorem HE {me : FE} (ho : PE X o (cO X.K W mo)) (hi : PE X i (cO X.K W mx)) (he : PE X e (cO X.K W me)) (ha : ∀ ov iv new, augStore i ov iv new = (do holding [new, ov, iv] (setItem ov iv new); release [new, ov, iv] []; pure .next) := by intros; rfl) : PS X (.AugAssign (.Subscript o i tpos) .Add e pos) (jQ X.K W (kS (fun x y => x + y) mo mx me)) :=
 fX (KU ho hi he EZ ha) fun D σ H h => FC (fun _ _ _ _ q => q) h
theorem oP {me : FE} (ho : PE X o (cO X.K W mo)) (hi : PE X i (cO X.K W mx)) (he : PE X e (cO X.K W me)) (ha : ∀ ov iv new, augStore i ov iv new = (do holding [new, ov, iv] (setItem ov iv new); release [new, ov, iv] []; pure .next) := by intros; rfl) : PS X (.AugAssign (.Subscript o i tpos) .Sub e pos) (jQ X.K W (kS (fun x y => x - y) mo mx me)) :=
 fX (KU ho hi he NY ha) fun D σ H h => FC (fun _ _ _ _ q => q) h
def JL (g : Int -> Int -> Int) (k : Nat) (e : FE) : FS := fun ρ S => match lk ρ k with
 | some (.dat (.int u)) => (e ρ S).toS ρ fun w S1 => (match w with
  | .dat (.int w) => .next (ρ.set k (some (.dat (.int (g u w))))) S1
  | _ => .stuck)
 | _ => .stuck
theorem Mn {g : Int -> Int -> Int} {k : Nat} {r : R2} {me : FE} (hr : ∀ i j H Q, Q (.int (g i j)) H -> r (.int i) (.int j) H Q) (h : jQ K W (JL g k me) D σ H) : tAug k (cO K W me) (cIp r) D σ H := by
 obtain ⟨B, φ, S, ρ, I, E, f⟩ := h;unfold JL at f;split at f
 ·rename_i u q
  obtain ⟨v, h1, h2⟩ := E.2 k _ (DA q);cases h2;refine ⟨_, h1, cD I E f fun φ3 S3 d3 v3 H3 I3 X3 E3 r3 f3 => ?_⟩
  split at f3
  ·cases r3
   exact hr _ _ _ _ (f3 φ3 _ H3 I3 Ext.refl (E3.set (d := .dat (.int (g _ _))) (v := .int (g _ _)) rfl k))
  ·exact f3.elim
 ·exact f.elim
theorem Jd {k : Nat} {me : FE} {pos' : Pos} (hN : X.N.Nodup) (hi : X.N[k]? = some x) (hx : Loc X.env.scope x) (he : PE X e (cO X.K W me)) (hf : X.fn x = true \/ X.env.scope.names.lookup x = some .local := by first | exact .inl rfl | exact .inr rfl | assumption) : PS X (.AugAssign (.Name x pos') .Add e pos) (jQ X.K W (JL (fun x y => x + y) k me)) :=
 fX (ps_aug hN hi hx he EZ hf) fun D σ H h => Mn (fun _ _ _ _ q => q) h
def mPar (i j : Nat) (a b : FE) : FS := fun ρ S => (a ρ S).toS ρ fun x S1 => (b ρ S1).toS ρ fun y S2 => .next ((ρ.set i (some x)).set j (some y)) S2
end
abbrev FD := List Vl -> aN -> Res Vl
def spF (K : aD) (m : FD) : Sp := fun vs H Q E => ∃ B φ S ds, GInv K B φ S H /\ RepVs K B φ S H ds vs /\ Fin K (fun c x _ H => E c x H) [] (RepV K) B φ S H (m ds S) Q
section
variable {X : Cx} {W : WX} {e a b c o i : Expr} {es rest : List Expr} {pos p q p2 tpos apos cpos : Pos} {x y z : Str} {K : aD} {ma mb mc mo mx : FE} {mt mt1 mu : FT} {mas : FA} {mi mj : FI} {B : Addr -> Prop} {φ φ' : List Addr} {S S' : aN} {H H' : Hp} {σ : L2.St} {Q : VK} {m n : FS} {st : Stmt} {wX : List Stmt} {D : Ends} {t t1 : Tg} {ps : List Str} {md : FD} {j k : Nat}
theorem Fin.toE {r : Res Vl} (f : Fin K W σ (RepV K) B φ S H r Q) : Fin K (fun c x _ H => WE W σ c x H) [] (RepV K) B φ S H r Q := by
 cases r with
 | ok d S' => exact f
 | err e S' => exact f
 | stuck => exact f
def aM (md : FD) (as : FA) : FE := fun ρ S => (as ρ S).bind md
theorem aP (F : pZ X.prog X.w X.K X.mg X.base j x ps (spF X.K md)) (hr : Room k X.A) (tk : Takes X W) (ha : PA X (e :: es) (Ez X.K W mas)) (hjk : j <= k := by decide) (hg : Gl X x := by rfl) (hdb : (x == ("__debug__" : Str)) = false := by decide)
  (he : starEach (e :: es) X.env = (false, eval e X.env) :: starEach es X.env := by rfl) (hpl : (backTo pos (starEach es X.env)).any (·.1) = false := by rfl) : PE X (.Call (.Name x p) (e :: es) [] pos) (cO X.K W (aM md mas)) := by
 obtain ⟨fd, F, hm, hk, hb⟩ := F;refine dF (pe_callS (E := WE W) F (hr.mono hjk) hg hm hk hb (fun σ => passAt tk σ) ha hdb he hpl) fun σ H Q h => ?_
 exact bV (k := fun ds _ S => md ds S) h fun B φ S ρ d v H1 I E r f => ⟨B, φ, S, d, I, r, f.toE⟩
def itB (n : Nat) : PH.D ⊕ Nat -> Bool
 | .inl _ => true
 | .inr m => decide (m < n)
def Vl.below (n : Nat) : Vl -> Bool
 | .dat _ => true
 | .cel m => decide (m < n)
 | .cels ms => ms.all fun m => decide (m < n)
 | .scr _ => true
 | .tc xs => xs.all (itB n)
def Cell.below (n : Nat) : Cell -> Bool
 | .dead => true
 | .lst _ => true
 | .ins _ fs => fs.all fun f => f.2.below n
 | .dct fs => fs.all fun f => f.2.below n
 | .lv xs => xs.all fun x => x.below n
 | .dki _ xs => xs.all fun x => x.below n
 | .dkt _ xs => xs.all fun x => x.below n
def trunc (n : Nat) (r : Res Vl) : Res Vl := match r with
 | .ok d S => if d.below n && ((S.take n).all fun c => c.below n) then .ok d (S.take n) else .stuck
 | .err e S => if (S.take n).all fun c => c.below n then .err e (S.take n) else .stuck
 | .stuck => .stuck
def bS : Out -> Res Vl
 | .ret d S => .ok d S
 | .next _ S => .ok (.dat .non) S
 | .err e _ S => .err e S
 | _ => .stuck
def envOf (n : Nat) (ds : List Vl) : Ev := ds.map some ++ bR (n - ds.length) none
def run (n np : Nat) (mb : FS) : FD := fun ds S => if ds.length = np then bS (mb (envOf n ds) S) else .stuck
def CU (n np : Nat) (mb : FS) : FD := fun ds S => if ds.length = np then trunc S.length (bS (mb (envOf n ds) S)) else .stuck
theorem xA {α : Type} {n m : Nat} {l : List α} (h : m < n) : (l.take n)[m]? = l[m]? := by
 rw [fK, if_pos h]
theorem jV {n : Nat} {a : Addr} (h : lM (φ.take n) (S.take n) a) : lM φ S a := by
 obtain ⟨m, c, h1, h2, h3⟩ := h;rw [fK] at h1 h3
 by_cases hm : m < n
 ·rw [if_pos hm] at h1 h3; exact ⟨m, c, h1, h2, h3⟩
 ·rw [if_neg hm] at h1; cases h1
theorem RepIs.takeN {n : Nat} {K : aD} {Bk Bk' : Addr -> Prop} {φ : List Addr} {H : Hp} (k : Kp Bk H Bk' H) : ∀ {xs : List (PH.D ⊕ Nat)} {vs : List L2.V}, RepIs K Bk φ H xs vs -> xs.all (itB n) = true -> RepIs K Bk' (φ.take n) H xs vs
 | [], vs, r, _ => r
 | x :: xs, vs, ⟨v, ws, e, h1, h2⟩, h => by
  rw [fF, cA] at h;refine ⟨v, ws, e, ?_, RepIs.takeN k h2 h.2⟩
  cases x with
  | inl d => exact Rep.kp k d v h1
  | inr m =>
   obtain ⟨b, q1, q2⟩ := h1;exact ⟨b, q1, by rw [xA (of_decide_eq_true h.1)]; exact q2⟩
theorem RepV.take {n : Nat} {d : Vl} {v : L2.V} (r : RepV K B φ S H d v) (h : d.below n = true) : RepV K B (φ.take n) (S.take n) H d v := by
 have k : Kp (lJ B φ S) H (lJ B (φ.take n) (S.take n)) H := ⟨fun b o h nb => ⟨h, fun q => nb (by
  rcases q with q | q
  ·exact .inl q
  ·exact .inr (jV q))⟩, fun _ _ h => h⟩
 cases d with
 | dat d => exact Rep.kp k d v r
 | cel m =>
  obtain ⟨a, e, h1⟩ := r;exact ⟨a, e, by rw [xA (of_decide_eq_true h)]; exact h1⟩
 | cels ms =>
  obtain ⟨a, as, e1, e2, e3, e4⟩ := r;refine ⟨a, as, e1, (k.old _ _ e3 e2).2, e3, ?_⟩
  rw [<- e4]
  apply eW
  intro m hm;exact xA (of_decide_eq_true (bI.mp h m hm))
 | scr ns => exact r
 | tc xs => obtain ⟨a, vs, e1, e2, e3⟩ := r; exact ⟨a, vs, e1, SqT.kp k.tup e2, RepIs.takeN k e3 h⟩
theorem RepF.take {n : Nat} : ∀ {fs : List (Str × Vl)} {vs : List (Str × L2.V)}, RepF K B φ S H fs vs -> (fs.all fun f => f.2.below n) = true -> RepF K B (φ.take n) (S.take n) H fs vs
 | [], vs, r, _ => r
 | f :: fs, vs, ⟨v, ws, e, h1, h2⟩, h => by
  simp only [fF, cA] at h;exact ⟨v, ws, e, h1.take h.1, RepF.take h2 h.2⟩
theorem RepVs.take {n : Nat} : ∀ {fs : List Vl} {vs : List L2.V}, RepVs K B φ S H fs vs -> (fs.all fun f => f.below n) = true -> RepVs K B (φ.take n) (S.take n) H fs vs
 | [], vs, r, _ => r
 | f :: fs, vs, ⟨v, ws, e, h1, h2⟩, h => by
  simp only [fF, cA] at h;exact ⟨v, ws, e, h1.take h.1, RepVs.take h2 h.2⟩
theorem GInv.take {n : Nat} (I : GInv K B φ S H) (h : ((S.take n).all fun c => c.below n) = true) : GInv K B (φ.take n) (S.take n) H where
 len := by rw [fG, fG, I.len]
 ok := fun m c a h1 h2 => by
  have hc := bI.mp h c (fY h1);rw [fK] at h1 h2
  by_cases hm : m < n
  ·rw [if_pos hm] at h1 h2
   have q := I.ok m c a h1 h2;have k : Kp (lJ B φ S) H (lJ B (φ.take n) (S.take n)) H := ⟨fun b o h nb => ⟨h, fun q => nb (by
    rcases q with q | q
    ·exact .inl q
    ·exact .inr (jV q))⟩, fun _ _ h => h⟩
   cases c with
   | dead => trivial
   | lst ds => obtain ⟨vs, e, r⟩ := q; exact ⟨vs, e, RepL.kp k ds vs r⟩
   | ins C fs => obtain ⟨dx, vs, e, r⟩ := q; exact ⟨dx, vs, e, r.take hc⟩
   | dct fs => obtain ⟨vs, e, r⟩ := q; exact ⟨vs, e, r.take hc⟩
   | lv xs => obtain ⟨vs, e, r⟩ := q; exact ⟨vs, e, r.take hc⟩
   | dki ks xs => obtain ⟨vs, e, r⟩ := q; exact ⟨vs, e, r.take hc⟩
   | dkt ks xs => obtain ⟨vs, e, r⟩ := q; exact ⟨vs, e, r.take hc⟩
  ·rw [if_neg hm] at h1; cases h1
 inj := fun i j d d' b h1 h2 h3 h4 h5 h6 => by
  rw [fK] at h1 h3 h5 h6
  by_cases hi : i < n
  ·by_cases hj : j < n
   ·rw [if_pos hi] at h1 h5
    rw [if_pos hj] at h3 h6;exact I.inj i j d d' b h1 h2 h3 h4 h5 h6
   ·rw [if_neg hj] at h3; cases h3
  ·rw [if_neg hi] at h1; cases h1
 blk := fun b h => I.blk b (jV h)
 btr := I.btr
theorem Ext.take {n : Nat} {φ0 : List Addr} {S0 : aN} {H0 : Hp} (x : Ext φ0 S0 H0 φ S H) (hn : φ0.length <= n) : Ext φ0 S0 H0 (φ.take n) (S.take n) H :=
 ⟨fun b o h nb => ⟨(x.old b o h nb).1, fun q => (x.old b o h nb).2 (jV q)⟩, fun m a h => by
  have := (aJ.mp h).1;rw [xA (by omega)]
  exact x.ids m a h⟩
theorem Fin.trunc {r : Res Vl} {n : Nat} (f : Fin K W σ (RepV K) B φ S H (PH.trunc n r) Q) (I : GInv K B φ S H) (hn : n = S.length) : Fin K W σ (RepV K) B φ S H r Q := by
 have hl : φ.length <= n := by rw [hn, I.len]; exact cN _
 cases r with
 | ok d S' =>
  unfold PH.trunc at f;dsimp only at f;split at f
  ·rename_i h
   obtain ⟨h1, h2⟩ := Bool.and_eq_true_iff.mp h;exact fun φ' v H' I' X' r' => f (φ'.take n) v H' (I'.take h2) (X'.take hl) (r'.take h1)
  ·exact f.elim
 | err e S' =>
  unfold PH.trunc at f;dsimp only at f;split at f
  ·rename_i h
   refine fun φ' c x H' I' X' r' => f (φ'.take n) c x H' (I'.take h) (X'.take hl) ⟨r'.1, ?_⟩
   rcases r'.2 with h0 | ⟨d, vs, e1, e2, e3⟩
   ·exact .inl h0
   ·refine .inr ⟨d, vs, e1, e2, RepL.kp ⟨fun b o h nb => ⟨h, fun q => nb (by
     rcases q with q | q
     ·exact .inl q
     ·exact .inr (jV q))⟩, fun _ _ h => h⟩ _ _ e3⟩
  ·exact f.elim
 | stuck => exact f
theorem MA {ds : List Vl} {vs : List L2.V} {N : List Str} (r : RepVs K B φ S H ds vs) : RepE K B φ S H (envOf N.length ds) (start N vs) := by
 have hl := r.len;have hg : ∀ {ds : List Vl} {vs : List L2.V}, RepVs K B φ S H ds vs -> ∀ (i : Nat) (d : Vl), ds[i]? = some d -> ∃ v, vs[i]? = some v /\ RepV K B φ S H d v := fun {ds} => by
  induction ds with
  | nil => intro vs r i d h; simp at h
  | cons d ds ih =>
   rintro vs ⟨v, ws, e, h1, h2⟩ i d' h
   subst e;cases i with
   | zero => simp at h; subst h; exact ⟨v, rfl, h1⟩
   | succ i =>
    obtain ⟨v', h3, h4⟩ := ih h2 i d' (by simpa using h)
    exact ⟨v', by simpa using h3, h4⟩
 unfold envOf L2.start;refine ⟨by simp [hl], fun i d h => ?_⟩
 by_cases hi : i < ds.length
 ·rw [aT (by simpa using hi)] at h
  rw [aT (by simp [hl, hi])]
  rw [cC] at h ⊢;cases q : ds[i]? with
  | none => rw [q] at h; cases h
  | some d' =>
   rw [q] at h;have : d' = d := by simpa using h
   subst this;obtain ⟨v, h1, h2⟩ := hg r i d' q;exact ⟨v, by rw [h1]; rfl, h2⟩
 ·rw [cM (by simpa using tO hi)] at h
  rw [List.getElem?_replicate] at h
  split at h <;> cases h
theorem G2 {mb : FS} {E : XK} {ds : List Vl} {vs : List L2.V} {N : List Str} (I : GInv K B φ S H) (r : RepVs K B φ S H ds vs) (f : Fin K (fun c x _ H => E c x H) [] (RepV K) B φ S H (bS (mb (envOf N.length ds) S)) Q) : jQ K (fun c x _ H => E c x H) mb { nx := fun _ H' => Q .non H', rt := Q } (start N vs) H := by
 refine ⟨B, φ, S, envOf N.length ds, I, MA r, ?_⟩
 unfold bS at f;cases q : mb (envOf N.length ds) S with
 | next ρ' S' => rw [q] at f; exact fun φ' σ' H' I' X' _ => f φ' _ H' I' X' rfl
 | ret d S' => rw [q] at f; exact f
 | brk ρ' S' => rw [q] at f; exact f.elim
 | cnt ρ' S' => rw [q] at f; exact f.elim
 | err e ρ' S' => rw [q] at f; exact fun φ' σ' c x H' I' X' _ r' => f φ' c x H' I' X' r'
 | stuck => rw [q] at f; exact f
end
section
variable {P : Program} {w : World} {K : aD} {mg : Str -> Option Value} {base : Heap}
structure Runs (md : FD) (n np : Nat) (mb : FS) : Prop where
 ok : ∀ ds S, ds.length = np -> md ds S = bS (mb (envOf n ds) S) \/ md ds S = trunc S.length (bS (mb (envOf n ds) S))
 no : ∀ ds S, ds.length ≠ np -> md ds S = .stuck
theorem Runs.plain {n np : Nat} {mb : FS} : Runs (run n np mb) n np mb := ⟨fun ds S h => .inl (by unfold run; rw [if_pos h]), fun ds S h => by unfold run; rw [if_neg h]⟩
theorem Runs.cut {n np : Nat} {mb : FS} : Runs (CU n np mb) n np mb := ⟨fun ds S h => .inr (by unfold CU; rw [if_pos h]), fun ds S h => by unfold CU; rw [if_neg h]⟩
theorem uU {md : FD} {n np : Nat} {mb : FS} (R : Runs md n np mb) : ∀ vs H Q E, spF K md vs H Q E -> vs.length = np := fun vs H Q E ⟨B, φ, S, ds, I, r, f⟩ => by
 rw [r.len]
 by_cases h : ds.length = np
 ·exact h
 ·rw [R.no ds S h] at f; exact f.elim
theorem qV {md : FD} {np : Nat} {mb : FS} {N : List Str} (R : Runs md N.length np mb) {vs : List L2.V} {H : Hp} {Q : VK} {E : XK} (h : spF K md vs H Q E) : jQ K (fun c x _ H => E c x H) mb { nx := fun _ H' => Q .non H', rt := Q } (start N vs) H := by
 obtain ⟨B, φ, S, ds, I, r, f⟩ := h
 by_cases hl : ds.length = np
 ·rcases R.ok ds S hl with e | e
  ·rw [e] at f; exact G2 I r f
  ·rw [e] at f; exact G2 I r (Fin.trunc f I rfl)
 ·rw [R.no ds S hl] at f; exact f.elim
theorem okF {x : Str} {st : Stmt} {N ps : List Str} {k : Nat} {md : FD} {mb : FS} (F : qQ K x st) (g : mg x = some (.ref (He.ga K x))) (S : FnScope N ps (defScope st)) (R : Runs md N.length ps.length mb)
  (bnd : ∀ (kV doc pm : Value) (an : Option Addr) (cdv ct : Value) (us : List Value), us.length = ps.length -> bindArgs (dP x x (defArgs st) (defBody st) (defScope st) .none kV doc pm an cdv ct) ⟨us, []⟩ = pure (ps.zip us))
  (hbody : ∀ (cdv : Value) (A : Around) (outer : List Env) (s : Shared) (H : Hp) (E : XK), Room k (A.deeper (envOfC x (defScope st) s.heap.objs.size (He.ga K x) cdv)) ->
   PSs (cxOf (L2.CX P w) P w K mg base N x (defScope st) (He.ga K x) cdv A outer s H E) (defBody st) (jQ K (fun c x _ H => E c x H) mb)) : pZ P w K mg base (k + 1) x ps (spF K md) :=
 Ko F g S (uU R) bnd fun cdv A outer s H vs Q E hr h => ⟨_, hbody cdv A outer s H E hr, qV R h⟩
theorem okFM {C m q : Str} {st : Stmt} {N ps : List Str} {k : Nat} {md : FD} {mb : FS} (F : CK K C m q st) (g : Meth K (He.ga K C) m (He.ma K (He.ga K C) m)) (S : FnScope N ps (defScope st)) (R : Runs md N.length ps.length mb)
  (bnd : ∀ (kV doc pm : Value) (an : Option Addr) (cdv ct : Value) (us : List Value), us.length = ps.length -> bindArgs (dP m q (defArgs st) (defBody st) (defScope st) .none kV doc pm an cdv ct) ⟨us, []⟩ = pure (ps.zip us))
  (hbody : ∀ (cdv : Value) (A : Around) (outer : List Env) (s : Shared) (H : Hp) (E : XK), Room k (A.deeper (envOfC q (defScope st) s.heap.objs.size (He.ma K (He.ga K C) m) cdv)) ->
   PSs (cxOf (L2.CX P w) P w K mg base N q (defScope st) (He.ma K (He.ga K C) m) cdv A outer s H E) (defBody st) (jQ K (fun c x _ H => E c x H) mb)) : OkMX P w K mg base (k + 1) C m ps (spF K md) :=
 N9 F g S (uU R) bnd fun cdv A outer s H vs Q E hr h => ⟨_, hbody cdv A outer s H E hr, qV R h⟩
end
section
variable {X : Cx} {W : WX} {e a b c o i : Expr} {es rest : List Expr} {pos p q p2 tpos apos cpos pos' : Pos} {x y z f C mn : Str} {K : aD} {ma mb mc mo mx : FE} {mt mt1 mu : FT} {mas : FA} {B : Addr -> Prop} {φ φ' : List Addr} {S S' : aN} {H H' : Hp} {σ : L2.St} {Q : VK} {m n : FS} {D : Ends} {ps : List Str} {md : FD} {j k : Nat}
def jA (S : aN) (C mn : Str) : Vl -> Bool
 | .cel n => match S[n]? with
  | some (.ins C' fs) => decide (C' = C) && fs.all fun f => decide (f.1 ≠ mn)
  | _ => false
 | .dat (.ins C' ns _) => decide (C' = C) && ns.all fun f => decide (f ≠ mn)
 | _ => false
theorem RepF.miss : ∀ {fs : List (Str × Vl)} {vs : List (Str × L2.V)}, RepF K B φ S H fs vs -> (fs.all fun f => decide (f.1 ≠ mn)) = true -> vs.lookup mn = none
 | [], vs, r, _ => by cases r; rfl
 | d :: ds, vs, ⟨v, ws, e, h1, h2⟩, h => by
  subst e;simp only [fF, cA, decide_eq_true_eq] at h;rw [fH, show (mn == d.1) = false by simpa using Ne.symm h.1]
  exact RepF.miss h2 h.2
theorem F3 : ∀ {ns : List Str} {vs : List L2.V}, (ns.all fun f => decide (f ≠ mn)) = true -> (ns.zip vs).lookup mn = none
 | [], vs, _ => by simp
 | d :: ds, [], _ => by simp
 | d :: ds, v :: vs, h => by
  simp only [fF, cA, decide_eq_true_eq] at h;rw [AG, fH, show (mn == d) = false by simpa using Ne.symm h.1]
  exact F3 h.2
theorem sJ {d : Vl} {v : L2.V} (I : GInv K B φ S H) (r : RepV K B φ S H d v) (h : jA S C mn d = true) : ∃ a dx fs, v = .ref a /\ H a = some (.ins (He.ga K C) dx fs) /\ fs.lookup mn = none := by
 cases d with
 | cel n =>
  obtain ⟨a, rfl, h1⟩ := r;have h : (match S[n]? with | some (.ins C' fs) => decide (C' = C) && fs.all fun f => decide (f.1 ≠ mn) | _ => false) = true := h
  split at h
  ·rename_i C' fs q
   obtain ⟨h2, h3⟩ := He.ba h;have e : C' = C := of_decide_eq_true h2;subst e;obtain ⟨dx, vs, h4, h5⟩ := I.ok n _ a q h1;exact ⟨a, dx, vs, rfl, h4, h5.miss h3⟩
  ·cases h
 | dat d =>
  cases d with
  | ins C' ns xs =>
   obtain ⟨h2, h3⟩ := He.ba (show (decide (C' = C) && ns.all fun f => decide (f ≠ mn)) = true from h)
   have e : C' = C := of_decide_eq_true h2;subst e;obtain ⟨a, dx, vs, rfl, _, h4, _⟩ := r;exact ⟨a, dx, _, rfl, h4, F3 h3⟩
  | _ => cases h
 | cels ns => cases h
 | scr ns => cases h
 | tc _ => cases h
def gE (C mn : Str) (md : FD) (o : FE) (as : FA) : FE := fun ρ S => (o ρ S).bind fun x S1 => if jA S1 C mn x = true then (as ρ S1).bind fun ds S2 => md (x :: ds) S2 else .stuck
theorem sN {pl : Sem Bool} (F : OkMX X.prog X.w X.K X.mg X.base j C mn ps (spF X.K md)) (hr : Room k X.A) (tk : Takes X W) (c : Cls X.K (He.ga X.K C)) (ho : PE X o (cO X.K W mo)) (ha : PA X (e :: es) (Ez X.K W mas)) (hjk : j <= k := by decide)
  (hst : starEach (e :: es) X.env = (false, eval e X.env) :: starEach es X.env := by rfl) (hpl : (backTo pos (starEach es X.env)).any (·.1) = false := by rfl)
  (ht : eval (.Call (.Attribute o mn apos) (e :: es) [] pos) X.env = eval o X.env >>= fun ov => standAt apos.atName >>= fun _ => holding [ov] (getMethod ov mn pl) >>= fun q => callWith pos q.1 q.2 (backTo pos (starEach (e :: es) X.env)) (backToKw pos (keywordEach [] X.env)) := by rfl) :
  PE X (.Call (.Attribute o mn apos) (e :: es) [] pos) (cO X.K W (gE C mn md mo mas)) := by
 obtain ⟨⟨fd, F, hb⟩, mt⟩ := F;refine ⟨fun pins s σ H Q I h => ?_⟩
 have h' : cO X.K W mo σ H fun v H1 => ∃ a dx fs, v = .ref a /\ H1 a = some (.ins (He.ga X.K C) dx fs) /\ fs.lookup mn = none /\ Ez X.K W mas σ H1 fun vs H2 => spF X.K md (.ref a :: vs) H2 Q (WE W σ) :=
  bV (k := fun x ρ S1 => if jA S1 C mn x = true then (mas ρ S1).bind fun ds S2 => md (x :: ds) S2 else .stuck) h fun B φ S ρ d v H1 I E r f => by
   split at f
   ·rename_i hi
    obtain ⟨a, dx, fs, rfl, h1, h2⟩ := sJ I r hi;exact ⟨a, dx, fs, rfl, h1, h2, fC I E f fun φ' S' ds vs H2 I2 X2 E2 r2 f2 => ⟨B, φ', S', d :: ds, I2, ⟨_, _, rfl, r.ext X2 I, r2⟩, f2.toE⟩⟩
   ·exact f.elim
 refine GQ (pl := pl) (thn (ho.run pins s σ H _ I h') fun u s1 hh => ?_) ht
 obtain ⟨x, H1, I1, rx, a, dx, fs, rfl, ea, l, q⟩ := hh;obtain rfl : u = Value.ref a := rx;refine getmeth_ok I1 ea c mt l (Ib (first := [.ref a]) (h₀ := X.base) I.ok.mod.kin mt.kp (thn (ha.run pos pins s1 σ H1 _ I1 q) fun us s2 hh => ?_) hst hpl)
 obtain ⟨vs, H2, I2, r, q2⟩ := hh;exact ⟨I2.kIn, run_fnS (us := .ref a :: us) (vs := .ref a :: vs) (E := WE W) F (hr.mono hjk) hb (passAt tk σ) I2 (.cons rfl r) q2⟩
theorem B6 {pl : Sem Bool} (F : OkMX X.prog X.w X.K X.mg X.base j C mn ps (spF X.K md)) (hr : Room k X.A) (tk : Takes X W) (c : Cls X.K (He.ga X.K C)) (ho : PE X o (cO X.K W mo)) (hjk : j <= k := by decide)
  (ht : eval (.Call (.Attribute o mn apos) [] [] pos) X.env = eval o X.env >>= fun ov => standAt apos.atName >>= fun _ => holding [ov] (getMethod ov mn pl) >>= fun q => callWith pos q.1 q.2 (backTo pos (starEach [] X.env)) (backToKw pos (keywordEach [] X.env)) := by rfl) :
  PE X (.Call (.Attribute o mn apos) [] [] pos) (cO X.K W (gE C mn md mo aI)) := by
 obtain ⟨⟨fd, F, hb⟩, mt⟩ := F;refine ⟨fun pins s σ H Q I h => ?_⟩
 have h' : cO X.K W mo σ H fun v H1 => ∃ a dx fs, v = .ref a /\ H1 a = some (.ins (He.ga X.K C) dx fs) /\ fs.lookup mn = none /\ spF X.K md [.ref a] H1 Q (WE W σ) :=
  bV (k := fun x ρ S1 => if jA S1 C mn x = true then md [x] S1 else .stuck) h fun B φ S ρ d v H1 I E r f => by
   split at f
   ·rename_i hi
    obtain ⟨a, dx, fs, rfl, h1, h2⟩ := sJ I r hi;exact ⟨a, dx, fs, rfl, h1, h2, B, φ, S, [d], I, ⟨_, _, rfl, r, rfl⟩, f.toE⟩
   ·exact f.elim
 refine GQ (pl := pl) (thn (ho.run pins s σ H _ I h') fun u s1 hh => ?_) ht
 obtain ⟨x, H1, I1, rx, a, dx, fs, rfl, ea, l, q⟩ := hh;obtain rfl : u = Value.ref a := rx;exact getmeth_ok I1 ea c mt l (HX (first := [.ref a]) I1.kIn mt.kp (run_fnS (us := [.ref a]) (vs := [.ref a]) (E := WE W) F (hr.mono hjk) hb (passAt tk σ) I1 (.cons rfl .nil) q))
def By (S : aN) (C f : Str) : Vl -> Option Vl
 | .cel n => match S[n]? with
  | some (.ins C' fs) => if C' = C then fs.lookup f else none
  | _ => none
 | .dat (.ins C' ns xs) => if C' = C then ((ns.zip xs).lookup f).map Vl.dat else none
 | _ => none
theorem RepF.look {d : Vl} : ∀ {fs : List (Str × Vl)} {vs : List (Str × L2.V)}, RepF K B φ S H fs vs -> fs.lookup f = some d -> ∃ v, vs.lookup f = some v /\ RepV K B φ S H d v
 | [], vs, r, h => by cases h
 | g :: fs, vs, ⟨v, ws, e, h1, h2⟩, h => by
  subst e;obtain ⟨g1, g2⟩ := g;rw [fH] at h ⊢;cases q : f == g1 with
  | true => rw [q] at h; cases h; exact ⟨v, rfl, h1⟩
  | false => rw [q] at h; exact RepF.look h2 h
theorem F4 {Bk : Addr -> Prop} {d : PH.D} : ∀ {ns : List Str} {ds : List PH.D} {vs : List L2.V}, RepL K Bk H ds vs -> (ns.zip ds).lookup f = some d -> ∃ v, (ns.zip vs).lookup f = some v /\ Rep K Bk H d v
 | [], ds, vs, r, h => by simp at h
 | n :: ns, [], vs, r, h => by simp at h
 | n :: ns, d' :: ds, vs, ⟨v, ws, e, h1, h2⟩, h => by
  subst e;rw [AG, fH] at h ⊢;cases q : f == n with
  | true => rw [q] at h; cases h; exact ⟨v, rfl, h1⟩
  | false => rw [q] at h; exact F4 h2 h
def eA (C f : Str) (o : FE) : FE := fun ρ S => (o ρ S).bind fun x S1 => match By S1 C f x with
 | some d => .ok d S1
 | none => .stuck
theorem G0 {x d : Vl} {v : L2.V} (I : GInv K B φ S H) (r : RepV K B φ S H x v) (h : By S C f x = some d) : ∃ a dx fs u, v = .ref a /\ H a = some (.ins (He.ga K C) dx fs) /\ fs.lookup f = some u /\ RepV K B φ S H d u := by
 cases x with
 | cel n =>
  obtain ⟨a, rfl, h1⟩ := r
  replace h : (match S[n]? with | some (.ins C' fs) => if C' = C then fs.lookup f else none | _ => none) = some d := h
  split at h
  ·rename_i C' fs q
   split at h
   ·rename_i e
    subst e;obtain ⟨dx, vs, h4, h5⟩ := I.ok n _ a q h1;obtain ⟨u, h6, h7⟩ := h5.look h;exact ⟨a, dx, vs, u, rfl, h4, h6, h7⟩
   ·cases h
  ·cases h
 | dat d' =>
  cases d' with
  | ins C' ns xs =>
   replace h : (if C' = C then ((ns.zip xs).lookup f).map Vl.dat else none) = some d := h
   split at h
   ·rename_i e
    subst e;obtain ⟨a, dx, vs, rfl, _, h4, l⟩ := r;cases q : (ns.zip xs).lookup f with
    | none => rw [q] at h; cases h
    | some d0 =>
     rw [q] at h;cases h;obtain ⟨u, h6, h7⟩ := F4 l q;exact ⟨a, dx, _, u, rfl, h4, h6, h7⟩
   ·cases h
  | _ => cases h
 | cels ns => cases h
 | scr ns => cases h
 | tc _ => cases h
theorem dH (c : Cls X.K (He.ga X.K C)) (n : NoAttr X.K (He.ga X.K C) f) (ho : PE X o (cO X.K W mo)) (hb : attributeBase o f X.env (eval o X.env) = eval o X.env := by rfl) : PE X (.Attribute o f pos) (cO X.K W (eA C f mo)) := dF (e_fld c n ho hb) fun σ H Q h =>
 bV (k := fun x _ S1 => match By S1 C f x with | some d => .ok d S1 | none => .stuck) h fun B φ S ρ d v H1 I E r f' => by
  split at f'
  ·rename_i d' q
   obtain ⟨a, dx, fs, u, rfl, h1, h2, h3⟩ := G0 I r q;exact ⟨dx, fs, u, h1, h2, Fin.now f' I h3⟩
  ·exact f'.elim
def kA (f : Str) (v : Vl) : List (Str × Vl) -> List (Str × Vl)
 | [] => [(f, v)]
 | (g, x) :: r => if g = f then (g, v) :: r else (g, x) :: kA f v r
theorem RepF.put {d : Vl} {v : L2.V} (r : RepV K B φ S H d v) : ∀ {fs : List (Str × Vl)} {vs : List (Str × L2.V)}, RepF K B φ S H fs vs -> RepF K B φ S H (kA f d fs) (putF f v vs)
 | [], vs, h => by cases h; exact ⟨v, [], rfl, r, rfl⟩
 | (g, x) :: fs, vs, ⟨u, ws, e, h1, h2⟩ => by
  subst e;unfold kA putF;split
  ·exact ⟨v, ws, rfl, r, h2⟩
  ·exact ⟨u, _, rfl, h1, RepF.put r h2⟩
theorem RepF.len : ∀ {fs : List (Str × Vl)} {vs : List (Str × L2.V)}, RepF K B φ S H fs vs -> vs.length = fs.length
 | [], vs, h => by cases h; rfl
 | d :: ds, vs, ⟨v, ws, e, _, h2⟩ => by subst e; simp [RepF.len h2]
def Im (S : aN) (C f : Str) (x d : Vl) : Option aN := match x with
 | .cel n => (match S[n]? with
  | some (.ins C' fs) => if C' = C /\ fs.length < 1000 then some (S.set n (.ins C (kA f d fs))) else none
  | _ => none)
 | _ => none
def lK (C f : Str) (o v : FE) : FS := fun ρ S => (v ρ S).toS ρ fun d S1 => (o ρ S1).toS ρ fun x S2 => match Im S2 C f x d with
 | some S3 => .next ρ S3
 | none => .stuck
theorem gA {value : Expr} {mv : FE} (c : Cls X.K (He.ga X.K C)) (na : NoAttr X.K (He.ga X.K C) f) (ho : PE X o (cO X.K W mo)) (hv : PE X value (cO X.K W mv)) (hs : swapsWith value (some (.Attribute o f pos')) pos.line X.env = pure false := by rfl) : PS X (.Assign [.Attribute o f pos'] value pos) (jQ X.K W (lK C f mo mv)) := fX (Pm c na ho hv hs) fun D σ H h => by
 obtain ⟨B, φ, S, ρ, I, E, f'⟩ := h;refine cD I E f' fun φ1 S1 d1 v1 H1 I1 X1 E1 r1 f1 => cD I1 E1 f1 fun φ2 S2 d2 v2 H2 I2 X2 E2 r2 f2 => ?_
 split at f2
 ·rename_i S3 q
  unfold Im at q;split at q
  ·rename_i n
   obtain ⟨a, rfl, h1⟩ := r2;split at q
   ·rename_i C' fs q1
    split at q
    ·rename_i hc
     obtain ⟨e, hl⟩ := hc;subst e;cases q;obtain ⟨dx, vs, h4, h5⟩ := I2.ok n _ a q1 h1;have X3 := Ext.put (H := H2) (o := .ins (He.ga X.K C') dx (putF f v1 vs)) (x := .ins C' (kA f d1 fs)) q1 (by simp) h1 (by simp)
     have r1' := r1.ext X2 I1;refine ⟨dx, vs, h4, by rw [h5.len]; exact hl, f2 φ2 σ _ (I2.put q1 (by simp) h1 (by simp) ⟨dx, _, upd_same, (h5.put r1').ext X3 I2⟩) X3 (E2.ext X3 I2)⟩
    ·cases q
   ·cases q
  ·cases q
 ·exact f2.elim
end
section
variable {X : Cx} {W : WX} {e a b c o i : Expr} {es rest : List Expr} {pos p q p2 tpos apos cpos pos' : Pos} {x y z f mn : Str} {K : aD} {ma mb mc mo mx : FE} {mas : FA} {B : Addr -> Prop} {φ φ' : List Addr} {S S' : aN} {H H' : Hp} {σ : L2.St} {Q : VK} {m n : FS} {D : Ends} {ps : List Str} {md : FD} {j k : Nat}
theorem J3 {C fA : Addr} {fd : FuncData} {sp : Sp} {CX : CXT} {E : L2.St -> XK} {pins : List (Addr × Obj)} {s : Shared} {us : List Value} {vs : List L2.V} (M : Mk X.K C fA) (F : FnOk X.prog X.w X.K X.mg X.base CX k fA fd ps sp) (hr : Room (k + 1) X.A) (hb : Binds X.K fd ps [])
  (hx : PassesAt CX X σ (E σ)) (I : Inv X pins σ H s) (r : Vals vs us)
  (h : ∀ x dx, H x = none -> H dx = none -> dx ≠ x -> sp (.ref x :: vs) (upd (upd H dx (.own x)) x (.ins C dx [])) (fun v H2 => v = .non /\ Q (.ref x) H2) (E σ)) :
  wpAny (model X.prog X.w) X.A (call (.ref C) us) (EP X pins σ Q) X.xe s := by
 have hq := h (s.heap.objs.size + 1) s.heap.objs.size (I.hok.fresh (Nat.le_succ _)) (I.hok.fresh (cN _)) (Nat.ne_of_lt (CM _));have I2 := Inv.made (C := C) I;have r2 : Vals (V.ref (s.heap.objs.size + 1) :: vs) (Value.ref (s.heap.objs.size + 1) :: us) := .cons rfl r;have hl : (Value.ref (s.heap.objs.size + 1) :: us ++ []).length = ps.length := by
  have e := r2.length;rw [F.len _ _ _ _ hq] at e;rw [cZ];exact e.symm
 have b := hb _ (Value.ref (s.heap.objs.size + 1) :: us) I2.kIn hl;rw [cZ] at b;refine wpAny_call (make_map (f := fA) I.kIn M.makes M.init (beq_iff_eq.mp M.fn) (codeAny_mono (F.run _ X.stack _ _ ⟨Value.ref (s.heap.objs.size + 1) :: us, []⟩ (Value.ref (s.heap.objs.size + 1) :: us) _ _ (E σ) (hr.make C us [])
  (I2.env0.make C us []) b r2 hq) fun r s' hq' => ?_))
 cases r with
 | error e => exact hx pins _ _ e s' I2 hq'
 | ok fl =>
  cases fl with
  | ret u =>
   obtain ⟨v, H', I3, rv, ev, q3⟩ := I2.after hq';subst ev;exact ⟨rv, ⟨V.ref (s.heap.objs.size + 1), H', I3, rfl, q3⟩⟩
  | next => exact False.elim hq'
  | brk => exact False.elim hq'
  | cont => exact False.elim hq'
def Di : List (Str × Vl) -> Option (List PH.D)
 | [] => some []
 | (_, .dat d) :: r => match Di r with
  | some ds => some (d :: ds)
  | none => none
 | _ :: _ => none
theorem GE : ∀ {fs : List (Str × Vl)} {vs : List (Str × L2.V)} {ds : List PH.D}, Di fs = some ds -> RepF K B φ S H fs vs -> ∃ ws, vs = (fs.map (·.1)).zip ws /\ RepL K (lJ B φ S) H ds ws
 | [], vs, ds, h, r => by cases h; cases r; exact ⟨[], rfl, rfl⟩
 | (g, .dat d) :: fs, vs, ds, h, ⟨v, ws, e, h1, h2⟩ => by
  unfold Di at h;cases q : Di fs with
  | none => rw [q] at h; cases h
  | some es =>
   rw [q] at h;cases h;obtain ⟨us, e2, l⟩ := GE q h2;subst e e2;exact ⟨v :: us, rfl, v, us, rfl, h1, l⟩
 | (_, .cel _) :: fs, vs, ds, h, _ => by cases h
 | (_, .cels _) :: fs, vs, ds, h, _ => by cases h
 | (_, .scr _) :: fs, vs, ds, h, _ => by cases h
 | (_, .tc _) :: fs, vs, ds, h, _ => by cases h
def made (kp : Bool) (n : Nat) (r : Res Vl) : Res Vl := match r with
 | .ok (.dat .non) S => if kp then .ok (.cel n) S else (match S[n]? with
  | some (.ins C fs) => (match Di fs with
   | some ds => if ((S.take n).all fun c => c.below n) then .ok (.dat (.ins C (fs.map (·.1)) ds)) (S.take n) else .stuck
   | none => .stuck)
  | _ => .stuck)
 | .err e S => if ((S.take n).all fun c => c.below n) then .err e (S.take n) else .stuck
 | _ => .stuck
def Ht (kp : Bool) (C : Str) (md : FD) (as : FA) : FE := fun ρ S => (as ρ S).bind fun ds S1 => made kp S1.length (md (.cel S1.length :: ds) (S1 ++ [.ins C []]))
theorem GG {n : Nat} {c : Cell} {a : Addr} (I : GInv K B φ S H) (hn : S[n]? = some c) (hc : c ≠ .dead) (ha : φ[n]? = some a) : ¬ lJ B (φ.take n) (S.take n) a := fun q => by
 rcases q with q | ⟨m, c', h1, h2, h3⟩
 ·exact I.blk a ⟨n, c, hn, hc, ha⟩ q
 ·rw [fK] at h1 h3
  by_cases hm : m < n
  ·rw [if_pos hm] at h1 h3
   have := I.inj n m c c' a hn hc h1 h2 ha h3;omega
  ·rw [if_neg hm] at h1; cases h1
theorem G1 {kp : Bool} {C : Str} {ds : List Vl} {vs : List L2.V} (I : GInv K B φ S H) (r : RepVs K B φ S H ds vs) (f : Fin K W σ (RepV K) B φ S H (made kp S.length (md (.cel S.length :: ds) (S ++ [.ins C []]))) Q) :
  ∀ x dx, H x = none -> H dx = none -> dx ≠ x -> spF K md (.ref x :: vs) (upd (upd H dx (.own x)) x (.ins (He.ga K C) dx [])) (fun v H2 => v = .non /\ Q (.ref x) H2) (WE W σ) := fun x dx nx ndx ne => by
 have I1 := I.new (o := .own x) ndx;have X1 := Ext.new (o := .own x) I ndx;have nx1 : upd H dx (.own x) x = none := by rw [upd_ne (Ne.symm ne)]; exact nx
 have X2 := Ext.newC (o := .ins (He.ga K C) dx []) (x := .ins C []) I1 nx1;have I2 : GInv K B (φ ++ [x]) (S ++ [.ins C []]) (upd (upd H dx (.own x)) x (.ins (He.ga K C) dx [])) := I1.newC nx1 fun _ => ⟨dx, [], upd_same, rfl⟩
 have X12 := X1.trans X2;refine ⟨B, φ ++ [x], S ++ [.ins C []], .cel S.length :: ds, I2, ⟨_, _, rfl, ⟨x, rfl, by rw [<- I.len]; exact pK⟩, RepVs.ext X2 I1 (RepVs.ext X1 I r)⟩, ?_⟩
 have hφ : φ.length <= S.length := by rw [I.len]; exact cN _
 cases q : md (.cel S.length :: ds) (S ++ [.ins C []]) with
 | stuck => rw [q] at f; exact f
 | err e S' =>
  rw [q] at f;unfold made at f;dsimp only at f;split at f
  ·rename_i h
   intro φ' c y H' I' X' r';refine f (φ'.take S.length) c y H' (I'.take h) ((X12.trans X').take hφ) ⟨r'.1, ?_⟩
   rcases r'.2 with h0 | ⟨d, us, e1, e2, e3⟩
   ·exact .inl h0
   ·refine .inr ⟨d, us, e1, e2, RepL.kp ⟨fun b o h nb => ⟨h, fun q => nb (by
     rcases q with q | q
     ·exact .inl q
     ·exact .inr (jV q))⟩, fun _ _ h => h⟩ _ _ e3⟩
  ·exact f.elim
 | ok d S' =>
  rw [q] at f;intro φ' v H' I' X' r';unfold made at f;split at f
  ·rename_i S0 e
   cases e;cases r';refine ⟨rfl, ?_⟩
   have hx' : φ'[S.length]? = some x := X'.ids _ _ (by rw [<- I.len]; exact pK)
   split at f
   ·exact f φ' _ H' I' (X12.trans X') ⟨x, rfl, hx'⟩
   ·split at f
    ·rename_i C' fs q1
     split at f
     ·rename_i ds' q2
      split at f
      ·rename_i h
       obtain ⟨dx', vs', h4, h5⟩ := I'.ok _ _ _ q1 hx';obtain ⟨ws, e2, l⟩ := GE q2 h5;subst e2;refine f (φ'.take S.length) _ H' (I'.take h) ((X12.trans X').take hφ) ⟨x, dx', ws, rfl, GG I' q1 (by simp) hx', h4, RepL.kp ⟨fun b o h nb => ⟨h, fun q => nb (by
        rcases q with q | q
        ·exact .inl q
        ·exact .inr (jV q))⟩, fun _ _ h => h⟩ _ _ l⟩
      ·exact f.elim
     ·exact f.elim
    ·exact f.elim
  ·rename_i e; cases e
  ·exact f.elim
theorem M7 {kp : Bool} {C : Str} (T : ClF X.K X.mg C) (F : OkMX X.prog X.w X.K X.mg X.base j C "__init__" ps (spF X.K md)) (hr : Room k X.A) (tk : Takes X W) (ha : PA X (e :: es) (Ez X.K W mas)) (hjk : j + 1 <= k := by decide) (hg : Gl X C := by rfl) (hdb : (C == ("__debug__" : Str)) = false := by decide)
  (he : starEach (e :: es) X.env = (false, eval e X.env) :: starEach es X.env := by rfl) (hpl : (backTo pos (starEach es X.env)).any (·.1) = false := by rfl) : PE X (.Call (.Name C p) (e :: es) [] pos) (cO X.K W (Ht kp C md mas)) := by
 obtain ⟨⟨fd, F, hb⟩, mt⟩ := F;refine ⟨fun pins s σ H Q I h => ?_⟩
 refine wpAny_Call_Name_kw (ld_glob I hg T.glo ?_ hdb)
 have h' : Ez X.K W mas σ H fun vs H1 => ∀ x dx, H1 x = none -> H1 dx = none -> dx ≠ x -> spF X.K md (.ref x :: vs) (upd (upd H1 dx (.own x)) x (.ins (He.ga X.K C) dx [])) (fun v H2 => v = .non /\ Q (.ref x) H2) (WE W σ) :=
  bV (k := fun ds _ S1 => made kp S1.length (md (.cel S1.length :: ds) (S1 ++ [.ins C []]))) h fun B φ S ρ d v H1 I E r f => G1 I r f
 refine Ib (h₀ := X.base) I.ok.mod.kin T.mak.kp (thn (ha.run pos pins s σ H _ I h') fun us s1 ⟨vs, H1, I1, r, q⟩ => ⟨I1.kIn, ?_⟩) he hpl
 exact J3 (E := WE W) T.mak F (hr.mono hjk) hb (passAt tk σ) I1 r q
def nI (cls : Str) : FS := fun ρ S => .err ⟨cls, [], []⟩ ρ S
theorem mW (F : XcF X.K X.mg x) (tk : Takes X W) (hc : X.calm = true := by rfl) (hg : Gl X x := by rfl) (hdb : (x == ("__debug__" : Str)) = false := by decide) : PS X (.Raise (some (.Call (.Name x p) [] [] pos)) none pos') (jQ X.K W (nI x)) := fX (N5 F tk hc hg hdb) fun D σ H h => by
 obtain ⟨B, φ, S, ρ, I, E, f⟩ := h;exact f φ σ _ _ H I Ext.refl E ⟨rfl, .inl ⟨rfl, rfl⟩⟩
end
def Pj (C : Addr) (f : Str) : Sp := fun vs H Q _ => ∃ a y, vs = [.ref a, y] /\ H a = some (exo a C none) /\ ∀ dx, H dx = none -> dx ≠ a -> Q .non (upd (upd H dx (exd dx [(f, y)])) a (exo a C (some dx)))
def Pi (C : Addr) (f g : Str) : Sp := fun vs H Q _ => ∃ a y z, vs = [.ref a, y, z] /\ H a = some (exo a C none) /\ ∀ dx, H dx = none -> dx ≠ a -> Q .non (upd (upd (upd H dx (exd dx [(f, y)])) a (exo a C (some dx))) dx (exd dx [(g, z), (f, y)]))
structure XcA (P : Program) (w : World) (K : aD) (mg : Str -> Option Value) (base : Heap) (k : Nat) (x : Str) (ps : List Str) (sp : Sp) : Prop where
 cls : OexC K (He.ga K x)
 ini : cQ K (.ref (He.ga K x)) "__init__" = some (some (.ref (He.ma K (He.ga K x) "__init__")))
 ty : lG K (.ref (He.ma K (He.ga K x) "__init__")) = some (.type "function")
 fn : ∃ fd, FnOk P w K mg base CX0 k (He.ma K (He.ga K x) "__init__") fd ps sp /\ Binds K fd ps []
 glo : mg x = some (.ref (He.ga K x))
section
variable {X : Cx} {W : WX} {e : Expr} {es : List Expr} {pos p pos' : Pos} {x f g : Str} {K : aD} {mas : FA} {B : Addr -> Prop} {φ φ' : List Addr} {S S' : aN} {H H' : Hp} {σ : L2.St} {ps : List Str} {j k : Nat}
def kR (cls : Str) (ns : List Str) (as : FA) : FS := fun ρ S => (as ρ S).toS ρ fun xs S1 => match wV xs with
 | some ds => if ds.length = ns.length then .err ⟨cls, ns, ds.reverse⟩ ρ S1 else .stuck
 | none => .stuck
theorem rG (F : XcA X.prog X.w X.K X.mg X.base j x ps (Pj (He.ga X.K x) f)) (hr : Room k X.A) (tk : Takes X W) (ha : PA X (e :: es) (Ez X.K W mas)) (hjk : j + 1 <= k := by decide) (hc : X.calm = true := by rfl) (hg : Gl X x := by rfl) (hdb : (x == ("__debug__" : Str)) = false := by decide)
  (he : starEach (e :: es) X.env = (false, eval e X.env) :: starEach es X.env := by rfl) (hpl : (backTo pos (starEach es X.env)).any (·.1) = false := by rfl) : PS X (.Raise (some (.Call (.Name x p) (e :: es) [] pos)) none pos') (jQ X.K W (kR x [f] mas)) := by
 obtain ⟨fd, F1, hb⟩ := F.fn;refine fX (ps_raise hc tk (pmk_oex F.cls F.ini F.ty F1 (hr.mono hjk) hb .nil (fun _ _ _ _ _ _ _ h => h.elim) hg F.glo ha hdb he hpl)) fun D σ H h => ?_
 obtain ⟨B, φ, S, ρ, I, E, f'⟩ := h;refine cD I E f' fun φ1 S1 ds vs H1 I1 X1 E1 r f1 => ?_
 split at f1
 ·rename_i xs q
  have l := yZ q r;split at f1
  ·rename_i hl
   match xs, hl with
   | [d], _ =>
    obtain ⟨v, ws, rfl, h1, h2⟩ := l;cases h2;refine ⟨by simp, fun a na => ⟨a, v, rfl, upd_same, fun dx ndx ne => ⟨rfl, dx, [(f, v)], upd_same, ?_, ?_, ?_⟩⟩⟩
    ·rw [upd_ne ne, upd_same]
    ·rw [upd_ne ne] at ndx; exact ndx
    ·have n1 : H1 dx = none := by rw [upd_ne ne] at ndx; exact ndx
     have eH : (upd (del (upd (upd (upd H1 a (exo a (He.ga X.K x) none)) dx (exd dx [(f, v)])) a (exo a (He.ga X.K x) (some dx))) a) dx (.xd [(f, v)])) = upd H1 dx (.xd [(f, v)]) := by
      funext b
      unfold upd del
      by_cases hb : b = dx
      ·rw [if_pos hb, if_pos hb]
      ·rw [if_neg hb, if_neg hb]
       by_cases hba : b = a
       ·rw [if_pos hba, hba]; exact na.symm
       ·rw [if_neg hba]; simp only [if_neg hba, if_neg hb]
     rw [eH];have X2 := Ext.new (o := .xd [(f, v)]) I1 n1;exact f1 φ1 σ _ _ _ (I1.new n1) X2 (E1.ext X2 I1) ⟨rfl, .inr ⟨dx, [v], rfl, upd_same, v, [], rfl, Rep.kp (X2.kp I1) _ _ h1, rfl⟩⟩
  ·exact f1.elim
 ·exact f1.elim
theorem A6 (F : XcA X.prog X.w X.K X.mg X.base j x ps (Pi (He.ga X.K x) f g)) (hr : Room k X.A) (tk : Takes X W) (ha : PA X (e :: es) (Ez X.K W mas)) (hjk : j + 1 <= k := by decide) (hc : X.calm = true := by rfl) (hg : Gl X x := by rfl) (hdb : (x == ("__debug__" : Str)) = false := by decide)
  (he : starEach (e :: es) X.env = (false, eval e X.env) :: starEach es X.env := by rfl) (hpl : (backTo pos (starEach es X.env)).any (·.1) = false := by rfl) : PS X (.Raise (some (.Call (.Name x p) (e :: es) [] pos)) none pos') (jQ X.K W (kR x [g, f] mas)) := by
 obtain ⟨fd, F1, hb⟩ := F.fn;refine fX (ps_raise hc tk (pmk_oex F.cls F.ini F.ty F1 (hr.mono hjk) hb .nil (fun _ _ _ _ _ _ _ h => h.elim) hg F.glo ha hdb he hpl)) fun D σ H h => ?_
 obtain ⟨B, φ, S, ρ, I, E, f'⟩ := h;refine cD I E f' fun φ1 S1 ds vs H1 I1 X1 E1 r f1 => ?_
 split at f1
 ·rename_i xs q
  have l := yZ q r;split at f1
  ·rename_i hl
   match xs, hl with
   | [d, d2], _ =>
    obtain ⟨v, ws, rfl, h1, u, ws', rfl, h2, h3⟩ := l;cases h3;refine ⟨by simp, fun a na => ⟨a, v, u, rfl, upd_same, fun dx ndx ne => ⟨rfl, dx, [(g, u), (f, v)], ?_, upd_same, ?_, ?_⟩⟩⟩
    ·rw [upd_ne (Ne.symm ne), upd_same]
    ·rw [upd_ne ne] at ndx; exact ndx
    ·have n1 : H1 dx = none := by rw [upd_ne ne] at ndx; exact ndx
     have eH : (upd (del (upd (upd (upd (upd H1 a (exo a (He.ga X.K x) none)) dx (exd dx [(f, v)])) a (exo a (He.ga X.K x) (some dx))) dx (exd dx [(g, u), (f, v)])) a) dx (.xd [(g, u), (f, v)])) = upd H1 dx (.xd [(g, u), (f, v)]) := by
      funext b
      unfold upd del
      by_cases hb : b = dx
      ·rw [if_pos hb, if_pos hb]
      ·rw [if_neg hb, if_neg hb]
       by_cases hba : b = a
       ·rw [if_pos hba, hba]; exact na.symm
       ·rw [if_neg hba]; simp only [if_neg hba, if_neg hb]
     rw [eH];have X2 := Ext.new (o := .xd [(g, u), (f, v)]) I1 n1;exact f1 φ1 σ _ _ _ (I1.new n1) X2 (E1.ext X2 I1) ⟨rfl, .inr ⟨dx, [u, v], rfl, upd_same, u, [v], rfl, Rep.kp (X2.kp I1) _ _ h2, v, [], rfl, Rep.kp (X2.kp I1) _ _ h1, rfl⟩⟩
  ·exact f1.elim
 ·exact f1.elim
end
section
variable {X : Cx} {W : WX} {e a b c o i : Expr} {es rest : List Expr} {pos p q p2 tpos apos cpos pos' np : Pos} {x y z f mn : Str} {K : aD} {ma mb mc mo mx : FE} {mas : FA} {B : Addr -> Prop} {φ φ' : List Addr} {S S' : aN} {H H' : Hp} {σ : L2.St} {Q : VK} {m n : FS} {D : Ends} {cs : List Str}
def handle (cs : List Str) : List (Str × FS) -> Er -> Ev -> aN -> Out
 | [], e, ρ, S => .err e ρ S
 | (c, m) :: r, e, ρ, S => if e.cls = c then (match m ρ S with
   | .err _ _ _ => .stuck
   | o => o) else handle cs r e ρ S
inductive XIt where
 | c (v : L2.V) (d : PH.D) | f (n : Str)
def itR (a : Addr) (cls : Value) (d : Option Addr) (C : Addr) (i : Nat) : List XIt -> TA
 | [] => tNil
 | .c v _ :: r => tCons (tC v) (itR a cls d C i r)
 | .f n :: r => tCons (tXf a cls d C n (wL i)) (itR a cls d C i r)
def itF (e : Er) : List XIt -> Option (List PH.D)
 | [] => some []
 | .c _ d :: r => match itF e r with
  | some ds => some (d :: ds)
  | none => none
 | .f n :: r => match (e.ns.zip e.xs).lookup n, itF e r with
  | some d, some ds => some (d :: ds)
  | _, _ => none
def Os (cs : List Str) (m : FS) (c : Str) (k : Nat) (its : List XIt) : FS := fun ρ S => match m ρ S with
 | .err e ρ' S' => if (e.cls ∈ cs /\ c ∈ cs) /\ k < ρ'.length then (if e.cls = c then (match itF e its with
   | some ds => if ds.length <= sizeLine then .ret (.dat (.tup ds)) S' else .stuck
   | none => .stuck) else .err e ρ' S') else .stuck
 | o => o
theorem KF : ∀ {σ : L2.St} {i : Nat} {v : L2.V}, σ[i]? = some (some v) -> sl σ i = some v
 | [], _, _, h => by simp at h
 | x :: _, 0, v, h => by simp at h; exact h
 | _ :: r, n + 1, v, h => KF (σ := r) (i := n) (by simpa using h)
end
structure Lim (K : aD) : Prop where
 pos : ∀ z m lo hi, limits.lookup z = some (m, lo, hi) -> jB K (He.ga K "LIMITS") z = some (some (.ref (Fg K z))) /\ ∀ H, SqT K H (Fg K z) [.int (m : Nat), .int lo, .int hi]
 neg : ∀ z, limits.lookup z = none -> jB K (He.ga K "LIMITS") z = some none
section
variable {X : Cx} {W : WX} {e a b c o i : Expr} {es rest : List Expr} {pos p q p2 tpos apos cpos pos' np : Pos} {x y z f mn C : Str} {K : aD} {ma mb mc mo mx : FE} {mas : FA} {B : Addr -> Prop} {φ φ' : List Addr} {S S' : aN} {H H' : Hp} {σ : L2.St} {Q : VK} {m n : FS} {D : Ends} {ps : List Str} {md : FD} {j k : Nat}
def eG (neg : Bool) (x : Vl) (S : aN) : Res Vl := match x with
 | .dat (.str z) => .ok (.dat (.bl (if neg then (limits.lookup z).isNone else (limits.lookup z).isSome))) S
 | _ => .stuck
def wJ (x : Vl) (S : aN) : Res Vl := match x with
 | .dat (.str z) => (match limits.lookup z with
  | some (m, lo, hi) => .ok (.dat (.tup [.int (m : Nat), .int lo, .int hi])) S
  | none => .stuck)
 | _ => .stuck
theorem KR (L : Lim K) {x : L2.V} {d : Vl} (I : GInv K B φ S H) (r : RepV K B φ S H d x) (f : Fin K W σ (RepV K) B φ S H (eG true d S) Q) : PV K (He.ga K "LIMITS") true x (.ref (He.ga K "LIMITS")) H Q := by
 unfold eG at f;split at f
 ·rename_i z
  cases r;cases q : limits.lookup z with
  | none =>
   refine ⟨rfl, none, L.neg z q, ?_⟩
   rw [q] at f;exact Fin.now f I rfl
  | some t =>
   obtain ⟨m, lo, hi⟩ := t;refine ⟨rfl, _, (L.pos z m lo hi q).1, ?_⟩
   rw [q] at f;exact Fin.now f I rfl
 ·exact f.elim
theorem Jc {py : Pos} (L : Lim X.K) (D : ∃ es n, KDict X.K X.w (He.ga X.K "LIMITS") es n) (g : X.mg "LIMITS" = some (.ref (He.ga X.K "LIMITS"))) (ha : PE X a (cO X.K W ma)) (hg : Gl X "LIMITS" := by rfl) (hm : behindInMarks .NotIn (.Name "LIMITS" py) = false := by rfl) : PT X (.Compare a [.NotIn] [.Name "LIMITS" py] pos) (wY X.K W (mB (m1 (eG true) ma))) :=
 CD (Oe (ED D) ha (pe_glob (v := .ref (He.ga X.K "LIMITS")) hg g rfl) hm) fun σ H Q h => bV (k := fun x _ S => eG true x S) (KL h) fun B φ S ρ d v H1 I E r f => KR L I r f
theorem f_lim {py : Pos} (L : Lim X.K) (D : ∃ es n, KDict X.K X.w (He.ga X.K "LIMITS") es n) (g : X.mg "LIMITS" = some (.ref (He.ga X.K "LIMITS"))) (ha : PE X a (cO X.K W ma)) (hg : Gl X "LIMITS" := by rfl) (hs : PlainIx a := by intro _ _; rfl) : PE X (.Subscript (.Name "LIMITS" py) a pos) (cO X.K W (m1 wJ ma)) :=
 dF (pe_ix (QQ D) (pe_glob (v := .ref (He.ga X.K "LIMITS")) hg g rfl) ha hs) fun σ H Q h => bV (k := fun x _ S => wJ x S) h fun B φ S ρ d v H1 I E r f => by
  unfold wJ at f;split at f
  ·rename_i z
   cases r;split at f
   ·rename_i m lo hi q
    obtain ⟨h1, h2⟩ := L.pos z m lo hi q;exact ⟨rfl, _, .ref (Fg X.K z), h1, rfl, Fin.now f I ⟨_, _, rfl, h2 H1, _, _, rfl, rfl, _, _, rfl, rfl, _, _, rfl, rfl, rfl⟩⟩
   ·exact f.elim
  ·exact f.elim
theorem Ji {sp : Sp} (F : OkMX X.prog X.w X.K X.mg X.base j C "__len__" ps sp) (hr : Room (j + 1) X.A) : CallR X (.builtin "len") (c1 (rLenO (He.ga X.K C) sp E0)) := by
 intro pins s σ H xs us Q I r h;obtain ⟨⟨fd, F, hb⟩, mt⟩ := F
 match xs, h with
 | [x], h =>
  cases x with
  | ref a =>
   obtain ⟨dx, fs, ha, h⟩ := h;cases r with
   | cons r1 r2 =>
    cases r1;cases r2;obtain ⟨mA, J, _⟩ := ins_get I.hok ha;obtain ⟨od, J, _⟩ := J.look;obtain ⟨fm, hF⟩ := I.fr;refine PySem.W.len_K hF I.ok.mod.kin J mt.at_ mt.fn ?_
    have e := I.env0;have hl := F.len _ _ _ _ h;have b := hb s [.ref a] I.kIn (by simpa using hl)
    have run := F.run X.A.in1 X.stack s H ⟨[.ref a], []⟩ [.ref a] [.ref a] _ E0 hr.in1 ⟨e.frames, e.mod, e.bs, e.bsz, e.funs, e.frf, e.hok, e.bare⟩ (by simpa using b) (.cons rfl .nil) h
    refine wpAny_call (codeAny_mono run fun q s' hq => ?_)
    cases q with
    | error e => obtain ⟨_, _, _, _, _, _, _, _, _, _, _, _, z⟩ := hq; exact z.elim
    | ok fl =>
     cases fl with
     | ret w =>
      obtain ⟨z, H', I', rz, hz⟩ := I.after hq;cases z with
      | int n =>
       obtain ⟨tk, rfl⟩ := rz;exact ⟨⟨hz.1.1, by have := hz.1.2; omega⟩, .int n, H', I'.tok _, ⟨_, rfl⟩, hz.2⟩
      | _ => exact hz.elim
     | next => exact False.elim hq
     | brk => exact False.elim hq
     | cont => exact False.elim hq
  | _ => exact h.elim
def QC (r : Res Vl) : Res Vl := match r with
 | .ok (.dat (.int n)) S => if 0 <= n /\ n < 2 ^ 62 then .ok (.dat (.int n)) S else .stuck
 | _ => .stuck
def DQ (C : Str) (md : FD) (x : Vl) (S : aN) : Res Vl := if jA S C "__len__" x = true then QC (md [x] S) else .stuck
theorem RK (hm : X.mg "len" = none) (F : OkMX X.prog X.w X.K X.mg X.base j C "__len__" ps (spF X.K md)) (hr : Room k X.A) (ha : PE X a (cO X.K W ma)) (hjk : j + 1 <= k := by decide) (hg : Gl X "len" := by rfl) (hs : starEach [a] X.env = [(false, eval a X.env)] := by rfl) : PE X (.Call (.Name "len" p) [a] [] pos) (cO X.K W (m1 (DQ C md) ma)) :=
 dF (pe_callB (Ji F (hr.mono hjk)) hg hm boot_len (pa_cons ha pa_nil hs) (he := hs)) fun σ H Q h => bV (k := fun x _ S => DQ C md x S) h fun B φ S ρ d v H1 I E r f => by
  unfold DQ at f;split at f
  ·rename_i hi
   obtain ⟨a, dx, fs, rfl, h1, h2⟩ := sJ I r hi;refine ⟨dx, fs, h1, B, φ, S, [d], I, ⟨_, _, rfl, r, rfl⟩, ?_⟩
   unfold QC at f;split at f
   ·rename_i n S' q
    rw [q];split at f
    ·rename_i hn
     intro φ' v H' I' X' r';cases r';exact ⟨hn, f φ' _ H' I' X' rfl⟩
    ·exact f.elim
   ·exact f.elim
  ·exact f.elim
def ML (r : Res Vl) : Res Vl := match r with
 | .ok (.dat (.bl n)) S => .ok (.dat (.bl n)) S
 | _ => .stuck
theorem Ei {n : Int} {x : Str} (h : ∃ t, X.mg x = some (.int n t)) (hg : Gl X x := by rfl) (hd : (x == ("__debug__" : Str)) = false := by decide) : PE X (.Name x pos) (cO X.K W (mC (.int n))) := M5 (RQ h hg hd) fun _ _ => rfl
end
section
variable {P : Program} {w : World} {K : aD} {mg : Str -> Option Value} {base : Heap}
def qB : FD := fun _ _ => .stuck
theorem rZ {x : Str} {st : Stmt} {N ps : List Str} {k : Nat} (F : qQ K x st) (g : mg x = some (.ref (He.ga K x))) (S : FnScope N ps (defScope st))
  (bnd : ∀ (kV doc pm : Value) (an : Option Addr) (cdv ct : Value) (us : List Value), us.length = ps.length -> bindArgs (dP x x (defArgs st) (defBody st) (defScope st) .none kV doc pm an cdv ct) ⟨us, []⟩ = pure (ps.zip us)) : pZ P w K mg base (k + 1) x ps (spF K qB) :=
 Ko F g S (fun vs H Q E ⟨_, _, _, _, _, _, f⟩ => f.elim) bnd fun cdv A outer s H vs Q E hr ⟨_, _, _, _, _, _, f⟩ => f.elim
end
theorem Ij {K : aD} {a : Addr} {vs : List V} (h : GT K a vs = true) (H : Hp) : SqT K H a vs := by
 unfold GT at h;cases q : K.lookup a with
 | none => rw [q] at h; cases h
 | some o =>
  obtain ⟨oc, od, dt, osl⟩ := o;rw [q] at h;cases oc with
  | type c =>
   cases dt with
   | seq its n =>
    obtain ⟨h1, h2⟩ := He.ba (show (decide (c = "tuple") && (decide (its.size <= sizeLine) && He.relAll vs its.toList)) = true from h)
    obtain ⟨h3, h4⟩ := He.ba h2;exact .inr ⟨_, its, n, q, congrArg Value.type (of_decide_eq_true h1), rfl, of_decide_eq_true h3, He.relAll_ok h4⟩
   | _ => cases h
  | _ => cases dt <;> cases h
theorem Jn {fa : List He.Fa} {fn : List He.DefD} {ts : List He.Tab} {w : World} {K : aD} (c : He.SaysT fa fn ts w K) (i : Nat) {t : He.Tab} (h : ts[i]? = some t := by rfl) : He.dicW K (t.1 K) = some (He.keysIn w.params t.2) := by
 have e : ts.map (fun t => He.dicW K (t.1 K)) = ts.map fun t => some (He.keysIn w.params t.2) := congrArg (fun z : He.AlT => z.2) c
 have e2 : (ts.map fun t => He.dicW K (t.1 K))[i]? = (ts.map fun t => some (He.keysIn w.params t.2))[i]? := by rw [e]
 rw [cC, cC, h] at e2;exact Option.some.inj e2
theorem DD {P : Params} {z : Str} : ∀ {l : List DictEntry} {ks : List Str}, l.map He.keyOf = He.keysIn P ks -> z ∉ ks -> (l.find? (·.key.isStr z) = none) /\ l.any (·.refKey) = false
 | [], _, _, _ => ⟨rfl, rfl⟩
 | e :: r, [], h, _ => by cases h
 | e :: r, k :: ks, h, hz => by
  have h1 : He.keyOf e :: r.map He.keyOf = some (k, PyData.keyHash P k) :: He.keysIn P ks := h
  injection h1 with h2 h3
  obtain ⟨i1, i2⟩ := DD h3 (fun m => hz (aU _ m))
  unfold He.keyOf at h2;split at h2
  ·rename_i x t q
   obtain ⟨h5, h6⟩ := Prod.mk.inj (Option.some.inj h2);have nz : e.key.isStr z = false := by
    rw [q]
    show decide (x = z) = false
    exact decide_eq_false fun e => hz (by rw [<- e, h5]; exact bD ..)
   constructor
   ·rw [List.find?_cons, nz]; exact i1
   ·rw [List.any_cons, i2, Bool.or_false]
    show e.refKey = false
    unfold DictEntry.refKey;rw [q]
  ·cases h2
theorem JH {K : aD} {P : Params} {a : Addr} {ks : List Str} {z : Str} (h : He.dicW K a = some (He.keysIn P ks)) (hz : z ∉ ks) : jB K a z = some none := by
 unfold He.dicW at h;cases q : K.lookup a with
 | none => rw [q] at h; cases h
 | some o =>
  obtain ⟨oc, od, dt, osl⟩ := o;rw [q] at h;cases oc with
  | type c =>
   cases od with
   | none =>
    cases dt with
    | dict es n =>
     have h1 : (match decide (c = "dict") && (osl.isEmpty && !(a == sysModules)) with
      | true => some (es.toList.map He.keyOf)
      | false => none) = some (He.keysIn P ks) := h
     cases y : decide (c = "dict") && (osl.isEmpty && !(a == sysModules)) with
     | false => rw [y] at h1; cases h1
     | true =>
      rw [y] at h1;obtain ⟨i1, i2⟩ := DD (Option.some.inj h1) hz;unfold jB;rw [q]
      show (match es.toList.find? (·.key.isStr z) with | some e => some (some e.val) | none => if es.toList.any (·.refKey) then none else some none) = some none
      rw [i1, i2];rfl
    | _ => cases h
   | some b => cases dt <;> cases h
  | _ => cases od <;> cases dt <;> cases h
theorem pJ {κ β : Type} [BEq κ] [LawfulBEq κ] {z : κ} {v : β} : ∀ {l : List (κ × β)}, l.lookup z = some v -> (z, v) ∈ l
 | [], h => by cases h
 | (k, u) :: r, h => by
  rw [fH] at h;cases e : z == k with
  | true =>
   rw [e] at h;have e2 : z = k := eq_of_beq e;have e3 : u = v := Option.some.inj h;rw [e2, e3];exact bD ..
  | false =>
   rw [e] at h;exact aU _ (pJ h)
theorem lookup_none {κ β : Type} [BEq κ] [LawfulBEq κ] {z : κ} : ∀ {l : List (κ × β)}, l.lookup z = none -> z ∉ l.map (·.1)
 | [], _ => by simp
 | (k, u) :: r, h => by
  rw [fH] at h;cases e : z == k with
  | true => rw [e] at h; cases h
  | false =>
   rw [e] at h;have ne : z ≠ k := by simpa using e
   intro m;rcases cS.mp m with m | m
   ·exact ne m
   ·exact lookup_none h m
theorem QB {K : aD} {P : Params} (h : limB K = true) (d : He.dicW K (He.ga K "LIMITS") = some (He.keysIn P (limits.map (·.1)))) : Lim K where
 pos := fun z m lo hi e => by
  obtain ⟨h1, h2⟩ := He.ba (bI.mp h (z, m, lo, hi) (pJ e));exact ⟨He.eqO_ok h1, Ij h2⟩
 neg := fun z e => JH d (lookup_none e)
theorem Kz {P : Program} {w : World} {K : aD} {mg : Str -> Option Value} {x : Str} {st : Stmt} {N ps : List Str} {k : Nat} {md : FD} {mb : FS} (F : qQ K x st) (S : FnScope N ps (defScope st)) (R : Runs md N.length ps.length mb)
  (bnd : ∀ (kV doc pm : Value) (an : Option Addr) (cdv ct : Value) (us : List Value), us.length = ps.length -> bindArgs (dP x x (defArgs st) (defBody st) (defScope st) .none kV doc pm an cdv ct) ⟨us, []⟩ = pure (ps.zip us))
  (hbody : ∀ (base : Heap) (cdv : Value) (A : Around) (outer : List Env) (s : Shared) (H : Hp) (E : XK), Room k (A.deeper (envOfC x (defScope st) s.heap.objs.size (He.ga K x) cdv)) ->
   PSs (cxOf (L2.CX P w) P w K mg base N x (defScope st) (He.ga K x) cdv A outer s H E) (defBody st) (jQ K (fun c x _ H => E c x H) mb)) :
  ∃ fd, (∀ (s : Shared) (us : List Value), us.length = ps.length -> BindsTo s fd ⟨us, []⟩ (ps.zip us)) /\ ∀ base, FnOk P w K mg base (L2.CX P w) (k + 1) (He.ga K x) fd ps (spF K md) := by
 obtain ⟨fd, F⟩ := F;refine ⟨fd, fun s us hl => F.bindsA bnd s us hl, fun base => ?_⟩
 obtain ⟨oc, od, dV, kV, doc, pm, an, cdv, ct, osl, e, lk, hc⟩ := F.ex;subst e;exact fn_of lk hc.1 S (uU R) fun A outer s H vs Q E hr hsp => ⟨_, hbody base cdv A outer s H E hr, qV R hsp⟩
theorem law_start {K : aD} {md : FD} {n : Nat} (h : ∀ ns : List Int, ns.length <= n -> ∃ S, md [.scr ns] [] = .ok (.dat (.bl true)) S) (H : Hp) (a : Addr) (ns : List Int) (hl : ns.length <= n) (hO : Only H) (hS : SqL K H a (ns.map V.int)) : spF K md [.ref a] H (fun v _ => v = .bl true) fun _ _ _ => False := by
 obtain ⟨S, e⟩ := h ns hl;refine ⟨fun _ => False, [], [], [.scr ns], ⟨rfl, fun n c a h => by simp at h, fun n m c c' a h => by simp at h, fun a ⟨n, c, h, _⟩ => by simp at h, fun a h => h.elim⟩, ⟨_, _, rfl, ⟨a, rfl, ?_⟩, rfl⟩, ?_⟩
 ·rcases hS with (h | ⟨o, h⟩) | h
  ·rcases hO a with q | ⟨o, xs, q⟩
   ·rw [h] at q; cases q
   ·rw [h] at q; cases q
  ·exact .inl ⟨o, h⟩
  ·exact .inr (.inr h)
 ·rw [e]
  exact fun φ' v H' _ _ r => r
theorem NA {K : aD} {C : Addr} (q : Pu K C = true) : ∃ nm q N bs bm sn sub ab col dd k0 k1 k2 k3 k5, K.lookup C = some (excClassObj nm q C N bs bm true sn sub ab col dd k0 k1 k2 k3 k5 "ValueError.__new__") /\ PySem.HandSPX.refsVE bm = true := by
 unfold Pu at q;split at q
 ·rename_i dd cd sl ho
  split at q
  ·rename_i C' bm k0 k1 k2 k3 n k5 hm hs
   simp only [cA, beq_iff_eq, Bool.not_eq_true'] at q;obtain ⟨⟨⟨⟨rfl, rfl⟩, hdel⟩, hdi⟩, hbm⟩ := q;obtain ⟨nm, bs, mro, ns, qn, hd, sn, sub, ab, col, del⟩ := cd;dsimp only at hm hdel hdi;subst hm hdel hdi;have hsl : sl = #[k0, k1, k2, k3, some (.builtin "ValueError.__new__"), k5] := by
    obtain ⟨l⟩ := sl;simp only at hs;rw [hs]
   subst hsl;exact ⟨nm, qn, ns, bs, bm, sn, sub, ab, col, dd, k0, k1, k2, k3, k5, ho, hbm⟩
  ·cases q
 ·cases q
structure XaF (K : aD) (mg : Str -> Option Value) (x : Str) (fs : List Str) : Prop where
 cls : OexC K (He.ga K x)
 ini : cQ K (.ref (He.ga K x)) "__init__" = some (some (.ref (He.ma K (He.ga K x) "__init__")))
 ty : lG K (.ref (He.ma K (He.ga K x) "__init__")) = some (.type "function")
 glo : mg x = some (.ref (He.ga K x))
 rd : XfC K (He.ga K x)
 no : ∀ f ∈ fs, cQ K (.ref (He.ga K x)) f = some none
theorem K1 {K : aD} {mg : Str -> Option Value} {x : Str} {fs : List Str} (h : xaB K x fs = true) (g : mg x = some (.ref (He.ga K x))) : XaF K mg x fs := by
 obtain ⟨h1, h⟩ := He.ba h;obtain ⟨h2, h⟩ := He.ba h;obtain ⟨h3, h⟩ := He.ba h;obtain ⟨h4, h⟩ := He.ba h;obtain ⟨h5, h⟩ := He.ba h;obtain ⟨h6, h⟩ := He.ba h;obtain ⟨h7, h⟩ := He.ba h;obtain ⟨h8, h9⟩ := He.ba h;exact ⟨⟨NA h1, of_decide_eq_true h2, of_decide_eq_true h3, of_decide_eq_true h4, h5⟩, of_decide_eq_true h6, of_decide_eq_true h7, g, xfB_ok h8, fun f hf => of_decide_eq_true (bI.mp h9 f hf)⟩
section
variable {P : Program} {w : World} {K : aD} {mg : Str -> Option Value} {base : Heap}
theorem KE {C : Addr} {f a b : Str} : ∀ vs H Q E, Pj C f vs H Q E -> vs.length = [a, b].length := fun vs H Q E ⟨_, _, e, _⟩ => by rw [e]; rfl
theorem KD {C : Addr} {f g a b c : Str} : ∀ vs H Q E, Pi C f g vs H Q E -> vs.length = [a, b, c].length := fun vs H Q E ⟨_, _, _, e, _⟩ => by rw [e]; rfl
theorem Kq {x m q : Str} {fs : List Str} {st : Stmt} {N ps : List Str} {k : Nat} {sp : Sp} (T : XaF K mg x fs) (F : CK K x "__init__" q st) (S : FnScope N ps (defScope st)) (len : ∀ vs H Q E, sp vs H Q E -> vs.length = ps.length)
  (bnd : ∀ (kV doc pm : Value) (an : Option Addr) (cdv ct : Value) (us : List Value), us.length = ps.length -> bindArgs (dP "__init__" q (defArgs st) (defBody st) (defScope st) .none kV doc pm an cdv ct) ⟨us, []⟩ = pure (ps.zip us))
  (hbody : ∀ (cdv : Value) (A : Around) (outer : List Env) (s : Shared) (H : Hp) (vs : List V) (Q : VK) (E : XK), Room k (A.deeper (envOfC q (defScope st) s.heap.objs.size (He.ma K (He.ga K x) "__init__") cdv)) -> sp vs H Q E ->
   ∃ t, PSs (cxOf CX0 P w K mg base N q (defScope st) (He.ma K (He.ga K x) "__init__") cdv A outer s H E).nox (defBody st) t /\ t { nx := fun _ H' => Q .non H', rt := Q } (start N vs) H) : XcA P w K mg base (k + 1) x ps sp := by
 obtain ⟨fd, F⟩ := F;refine ⟨T.cls, T.ini, T.ty, ⟨fd, FunD.ok F S len fun cdv A outer s H vs Q E hr hsp => ?_, F.bindsN bnd⟩, T.glo⟩
 obtain ⟨t, h, q⟩ := hbody cdv A outer s H vs Q E hr hsp;exact ⟨t, h.nox, q⟩
end
section
variable {X : Cx} {W : WX} {e a b c o i : Expr} {es rest : List Expr} {pos p q p2 tpos apos cpos pos' np : Pos} {x y z f mn C : Str} {K : aD} {ma mb mc mo mx : FE} {mas : FA} {B : Addr -> Prop} {φ φ' : List Addr} {S S' : aN} {H H' : Hp} {σ : L2.St} {Q : VK} {m n : FS} {D : Ends} {ps : List Str} {md : FD} {j k : Nat}
theorem RG {i j : Nat} {px py pt : Pos} {kt k2 pt2} (hc : X.calm = true) (hN : X.N.Nodup) (hi : X.N[i]? = some x) (hj : X.N[j]? = some y) (hij : i ≠ j)
  (hx : X.env.scope.names.lookup x = some .local) (hy : X.env.scope.names.lookup y = some .local) (ha : PE X a (cO X.K W ma)) (hb : PE X b (cO X.K W mb))
  (hw : swappedStores [.Tuple [.Name x px, .Name y py] kt pt] (.Tuple [a, b] k2 pt2) X.env = pure (some [x, y]))
  (hs : swapsWithSole [.Tuple [.Name x px, .Name y py] kt pt] (.Tuple [a, b] k2 pt2) pos.line X.env = pure false := by rfl) (h1 : starEach [a, b] X.env = (false, eval a X.env) :: starEach [b] X.env := by rfl) (h2 : starEach [b] X.env = (false, eval b X.env) :: starEach [] X.env := by rfl) :
  PS X (.Assign [.Tuple [.Name x px, .Name y py] kt pt] (.Tuple [a, b] k2 pt2) pos) (jQ X.K W (mPar i j ma mb)) := fX (ps_par hc hN hi hj hij hx hy (pa_cons ha (pa_cons hb pa_nil h2) h1) hw hs) fun D σ H h => by
 obtain ⟨B, φ, S, ρ, I, E, f⟩ := h;exact cD I E f fun φ1 S1 d1 v1 H1 I1 X1 E1 r1 f1 => cD I1 E1 f1 fun φ2 S2 d2 v2 H2 I2 X2 E2 r2 f2 => ⟨_, _, rfl, f2 φ2 _ H2 I2 Ext.refl ((E2.set (r1.ext X2 I1) i).set r2 j)⟩
def Og (n : Nat) : List PH.D := (aV n).map fun (k : Nat) => PH.D.int (((n : Nat) : Int) - 1 - (k : Int))
def Q2 (a : FE) : FI := fun ρ S => (a ρ S).bind fun x S1 => match x with
 | .dat (.int j) => if -(2 ^ 62) <= j /\ j < 2 ^ 62 then .ok (Og j.toNat) S1 else .stuck
 | _ => .stuck
end
theorem rd_X1 {K : aD} {mg : Str -> Option Value} {x f : Str} {fs : List Str} {a : Addr} {y : V} {H : Hp} {Q : VK} {D : Ends} (T : XaF K mg x fs) (hf : f ∈ fs) (ha : H a = some (exo a (He.ga K x) none)) (hD : ∀ σ H, D.nx σ H = Q .non H) (h : ∀ dx, H dx = none -> dx ≠ a -> Q .non (upd (upd H dx (exd dx [(f, y)])) a (exo a (He.ga K x) (some dx)))) :
  tOst K f (wL 0) (wL 1) D [some (.ref a), some y] H := ⟨a, He.ga K x, rfl, T.cls, T.no f hf, .inl ⟨ha, fun dx n ne => by rw [hD]; exact h dx n ne⟩⟩
theorem rd_X2 {K : aD} {mg : Str -> Option Value} {x f g : Str} {fs : List Str} {a : Addr} {y z : V} {H : Hp} {Q : VK} {D : Ends} (T : XaF K mg x fs) (hf : f ∈ fs) (hg : g ∈ fs) (ha : H a = some (exo a (He.ga K x) none)) (hD : ∀ σ H, D.nx σ H = Q .non H) (h : ∀ dx, H dx = none -> dx ≠ a -> Q .non (upd (upd (upd H dx (exd dx [(f, y)])) a (exo a (He.ga K x) (some dx))) dx (exd dx [(g, z), (f, y)]))) :
  tSeq (tOst K f (wL 0) (wL 1)) (tOst K g (wL 0) (wL 2)) D [some (.ref a), some y, some z] H :=
 ⟨a, He.ga K x, rfl, T.cls, T.no f hf, .inl ⟨ha, fun dx n ne => ⟨a, He.ga K x, rfl, T.cls, T.no g hg, .inr ⟨dx, [(f, y)], upd_same, by rw [upd_ne ne, upd_same], by simp, by rw [hD]; exact h dx n ne⟩⟩⟩⟩
section
variable {α β : Type} {a b c o i e : FE} {r : FA} {t u : FT} {m n : FS} {ρ : Ev} {S : aN} {x y z : Vl} {f g : Vl -> Vl -> aN -> Res Vl} {h : Vl -> aN -> Res Vl} {md : FD}
theorem iX {d : α} {k : α -> aN -> Res β} : (Res.ok d S).bind k = k d S := rfl
theorem HC {x : Er} {k : α -> aN -> Res β} : (Res.err x S : Res α).bind k = .err x S := rfl
theorem Bx {d : α} {k : α -> aN -> Out} : (Res.ok d S).toS ρ k = k d S := rfl
theorem JS {x : Er} {k : α -> aN -> Out} : (Res.err x S : Res α).toS ρ k = .err x ρ S := rfl
theorem PD {k : Nat} : aC k ρ S = (match lk ρ k with | some d => .ok d S | none => .stuck) := rfl
theorem g_c {d : D} : mC d ρ S = .ok (.dat d) S := rfl
def kOp1 (f : Vl -> Vl -> aN -> Res Vl) (b : FE) (ρ : Ev) (x : Vl) (S : aN) : Res Vl := (b ρ S).bind (f x)
theorem g_op : aS f a b ρ S = (a ρ S).bind (kOp1 f b ρ) := rfl
theorem g_op1 : kOp1 f b ρ x S = (b ρ S).bind (f x) := rfl
theorem g_1 : m1 h a ρ S = (a ρ S).bind h := rfl
theorem g_B : mB a ρ S = (a ρ S).bind unB := rfl
theorem g_unB {k : Bool} : unB (.dat (.bl k)) S = .ok k S := rfl
theorem LV : cF a ρ S = (a ρ S).bind BG := rfl
def QP (u : FT) (ρ : Ev) (c : Bool) (S : aN) : Res Bool := if c = true then u ρ S else .ok false S
def kOr (u : FT) (ρ : Ev) (c : Bool) (S : aN) : Res Bool := if c = true then .ok true S else u ρ S
def kNot (c : Bool) (S : aN) : Res Bool := .ok (!c) S
theorem g_and : rF t u ρ S = (t ρ S).bind (QP u ρ) := rfl
theorem g_or : wD t u ρ S = (t ρ S).bind (kOr u ρ) := rfl
theorem PF : fU t ρ S = (t ρ S).bind kNot := rfl
theorem Lc : QP u ρ true S = u ρ S := rfl
theorem Ld : QP u ρ false S = .ok false S := rfl
theorem Np : kOr u ρ true S = .ok true S := rfl
theorem Nq : kOr u ρ false S = u ρ S := rfl
theorem Qy {c : Bool} : kNot c S = .ok (!c) S := rfl
def LG (b : FE) (ρ : Ev) (x : Vl) (S : aN) : Res Vl := match x with
 | .dat (.bl c) => if c = true then b ρ S else .ok (.dat (.bl false)) S
 | _ => .stuck
def QL (b : FE) (ρ : Ev) (x : Vl) (S : aN) : Res Vl := match x with
 | .dat (.bl c) => if c = true then .ok (.dat (.bl true)) S else b ρ S
 | _ => .stuck
theorem RE : iH a b ρ S = (a ρ S).bind (LG b ρ) := rfl
theorem g_orV : mOrV a b ρ S = (a ρ S).bind (QL b ρ) := rfl
theorem JY : LG b ρ (.dat (.bl true)) S = b ρ S := rfl
theorem JZ : LG b ρ (.dat (.bl false)) S = .ok (.dat (.bl false)) S := rfl
theorem LY : QL b ρ (.dat (.bl true)) S = .ok (.dat (.bl true)) S := rfl
theorem LZ : QL b ρ (.dat (.bl false)) S = b ρ S := rfl
def kNV (k : Bool) (S : aN) : Res Vl := .ok (.dat (.bl (!k))) S
def P0 (x : Vl) (S : aN) : Res Vl := (BG x S).bind kNV
theorem Qo : Fe a ρ S = (a ρ S).bind P0 := rfl
theorem Nx : P0 x S = (BG x S).bind kNV := rfl
theorem g_kNV {k : Bool} : kNV k S = .ok (.dat (.bl (!k))) S := rfl
def Hy (b : FE) (ρ : Ev) (x : Vl) (k : Bool) (S : aN) : Res Vl := if k = true then .ok x S else b ρ S
def kOrT (b : FE) (ρ : Ev) (x : Vl) (S : aN) : Res Vl := (BG x S).bind (Hy b ρ x)
theorem g_orT : Q3 a b ρ S = (a ρ S).bind (kOrT b ρ) := rfl
theorem R0 : kOrT b ρ x S = (BG x S).bind (Hy b ρ x) := rfl
theorem Lf : Hy b ρ x true S = .ok x S := rfl
theorem Lg : Hy b ρ x false S = b ρ S := rfl
theorem LU {k : Bool} : BG (.dat (.bl k)) S = .ok k S := rfl
def NR (g : Vl -> Vl -> aN -> Res Vl) (c : FE) (ρ : Ev) (y z : Vl) (S : aN) : Res Vl := match z with
 | .dat (.bl k) => if k = true then (c ρ S).bind (g y) else .ok (.dat (.bl false)) S
 | _ => .stuck
def QO (f g : Vl -> Vl -> aN -> Res Vl) (c : FE) (ρ : Ev) (x y : Vl) (S : aN) : Res Vl := (f x y S).bind (NR g c ρ y)
def kCh1 (f g : Vl -> Vl -> aN -> Res Vl) (b c : FE) (ρ : Ev) (x : Vl) (S : aN) : Res Vl := (b ρ S).bind (QO f g c ρ x)
theorem O6 : gF f g a b c ρ S = (a ρ S).bind (kCh1 f g b c ρ) := rfl
theorem g_ch1 : kCh1 f g b c ρ x S = (b ρ S).bind (QO f g c ρ x) := rfl
theorem g_ch2 : QO f g c ρ x y S = (f x y S).bind (NR g c ρ y) := rfl
theorem O7 : NR g c ρ y (.dat (.bl true)) S = (c ρ S).bind (g y) := rfl
theorem O8 : NR g c ρ y (.dat (.bl false)) S = .ok (.dat (.bl false)) S := rfl
def kIf (a b : FE) (ρ : Ev) (c : Bool) (S : aN) : Res Vl := if c = true then a ρ S else b ρ S
theorem g_if : mIf t a b ρ S = (t ρ S).bind (kIf a b ρ) := rfl
theorem Nr : kIf a b ρ true S = a ρ S := rfl
theorem Nt : kIf a b ρ false S = b ρ S := rfl
theorem LX : aI ρ S = .ok [] S := rfl
def Gu (x : Vl) (xs : List Vl) (S : aN) : Res (List Vl) := .ok (x :: xs) S
def L8 (r : FA) (ρ : Ev) (x : Vl) (S : aN) : Res (List Vl) := (r ρ S).bind (Gu x)
theorem HA : aB a r ρ S = (a ρ S).bind (L8 r ρ) := rfl
theorem Ef : L8 r ρ x S = (r ρ S).bind (Gu x) := rfl
theorem Ee {xs : List Vl} : Gu x xs S = .ok (x :: xs) S := rfl
def A0 (cl : Bool) (xs : List Vl) (S : aN) : Res Vl := match wV xs with
 | some ds => if ds.length <= sizeLine then newL cl ds S else .stuck
 | none => .stuck
def kTup (xs : List Vl) (S : aN) : Res Vl := match wV xs with
 | some ds => if ds.length <= sizeLine then .ok (.dat (.tup ds)) S else .stuck
 | none => .stuck
theorem g_lst {cl : Bool} : bT cl r ρ S = (r ρ S).bind (A0 cl) := rfl
theorem g_tup : bW r ρ S = (r ρ S).bind kTup := rfl
theorem HD : wV [] = some [] := rfl
theorem Fx {d : D} {xs : List Vl} : wV (.dat d :: xs) = (match wV xs with | some ds => some (d :: ds) | none => none) := rfl
theorem kTup0 : kTup [] S = .ok (.dat (.tup [])) S := rfl
theorem kTup1 {d : D} : kTup [.dat d] S = .ok (.dat (.tup [d])) S := rfl
theorem kTup2 {d e : D} : kTup [.dat d, .dat e] S = .ok (.dat (.tup [d, e])) S := rfl
theorem kTup3 {d e f : D} : kTup [.dat d, .dat e, .dat f] S = .ok (.dat (.tup [d, e, f])) S := rfl
theorem kTup4 {d e f g : D} : kTup [.dat d, .dat e, .dat f, .dat g] S = .ok (.dat (.tup [d, e, f, g])) S := rfl
theorem kLst0 {cl : Bool} : A0 cl [] S = newL cl [] S := rfl
theorem kLst1 {cl : Bool} {d : D} : A0 cl [.dat d] S = newL cl [d] S := rfl
theorem kLst2 {cl : Bool} {d e : D} : A0 cl [.dat d, .dat e] S = newL cl [d, e] S := rfl
theorem kLst3 {cl : Bool} {d e f : D} : A0 cl [.dat d, .dat e, .dat f] S = newL cl [d, e, f] S := rfl
theorem Qq {ds : List D} : newL false ds S = .ok (.dat (.lst ds)) S := rfl
theorem Qp {ds : List D} : newL true ds S = .ok (.cel S.length) (S ++ [.lst ds]) := rfl
theorem HB : aM md r ρ S = (r ρ S).bind md := rfl
def QI (cl : Bool) (x : Vl) (lo : Option Int) (hi : Option Int) (S : aN) : Res Vl := xX cl x lo hi S
def QJ (cl : Bool) (h : FO) (ρ : Ev) (x : Vl) (lo : Option Int) (S : aN) : Res Vl := (h ρ S).bind (QI cl x lo)
def kSl0 (cl : Bool) (l h : FO) (ρ : Ev) (x : Vl) (S : aN) : Res Vl := (l ρ S).bind (QJ cl h ρ x)
theorem g_sl {cl : Bool} {l h : FO} : Az cl a l h ρ S = (a ρ S).bind (kSl0 cl l h ρ) := rfl
theorem g_sl0 {cl : Bool} {l h : FO} : kSl0 cl l h ρ x S = (l ρ S).bind (QJ cl h ρ x) := rfl
theorem g_sl1 {cl : Bool} {h : FO} {lo : Option Int} : QJ cl h ρ x lo S = (h ρ S).bind (QI cl x lo) := rfl
theorem g_sl2 {cl : Bool} {lo hi : Option Int} : QI cl x lo hi S = xX cl x lo hi S := rfl
theorem g_noP : tL ρ S = .ok none S := rfl
def Oz (x : Vl) (S : aN) : Res (Option Int) := match x with
 | .dat (.int i) => .ok (some i) S
 | _ => .stuck
theorem Qn : fJ a ρ S = (a ρ S).bind Oz := rfl
theorem Nw {i : Int} : Oz (.dat (.int i)) S = .ok (some i) S := rfl
def QN (x : Vl) (S : aN) : Res Vl := match x with
 | .cel n => (match S[n]? with
  | some (.lst ds) => .ok (.dat (.lst ds)) (S.set n .dead)
  | _ => .stuck)
 | _ => .stuck
theorem g_frz : Kv a ρ S = (a ρ S).bind QN := rfl
theorem Lk {n : Nat} {ds : List D} (h : S[n]? = some (.lst ds)) : QN (.cel n) S = .ok (.dat (.lst ds)) (S.set n .dead) := by simp only [QN, h]
def Gv (b : FE) (ρ : Ev) (x : Vl) (S : aN) : Res Vl := match jE S x with
 | some _ => (b ρ S).bind (G5 x)
 | none => .stuck
theorem g_app : jT a b ρ S = (a ρ S).bind (Gv b ρ) := rfl
theorem A2 {n : Nat} {ds : List D} (h : S[n]? = some (.lst ds)) : Gv b ρ (.cel n) S = (b ρ S).bind (G5 (.cel n)) := by simp only [Gv, jE, h]
theorem A3 {n : Nat} {ds : List D} {d : D} (h : S[n]? = some (.lst ds)) (hl : ds.length < sizeLine) : G5 (.cel n) (.dat d) S = .ok (.dat .non) (S.set n (.lst (ds ++ [d]))) := by simp only [G5, h, hl, if_true]
def Out.seq (o : Out) (n : FS) : Out := match o with
 | .next ρ S => n ρ S
 | o => o
theorem IE : aK m n ρ S = (m ρ S).seq n := rfl
theorem H9 : (Out.next ρ S).seq n = n ρ S := rfl
theorem JU {d : Vl} : (Out.ret d S).seq n = .ret d S := rfl
theorem JV {x : Er} : (Out.err x ρ S).seq n = .err x ρ S := rfl
theorem JX : (Out.brk ρ S).seq n = .brk ρ S := rfl
theorem JW : (Out.cnt ρ S).seq n = .cnt ρ S := rfl
theorem Qi : aX ρ S = .next ρ S := rfl
def QK (d : Vl) (S : aN) : Out := .ret d S
theorem g_ret : bK a ρ S = (a ρ S).toS ρ QK := rfl
theorem Qz {d : Vl} : QK d S = .ret d S := rfl
def P7 (ρ : Ev) (d : Vl) (S : aN) : Out := .next ρ S
theorem RD : cR a ρ S = (a ρ S).toS ρ (P7 ρ) := rfl
theorem O2 {d : Vl} : P7 ρ d S = .next ρ S := rfl
def QM (m n : FS) (ρ : Ev) (c : Bool) (S : aN) : Out := if c = true then m ρ S else n ρ S
theorem PN : bH t m n ρ S = (t ρ S).toS ρ (QM m n ρ) := rfl
theorem Li : QM m n ρ true S = m ρ S := rfl
theorem Lj : QM m n ρ false S = n ρ S := rfl
def LD (t : Tg) (ρ : Ev) (d : Vl) (S : aN) : Out := match qR t d ρ with
 | some ρ' => .next ρ' S
 | none => .stuck
theorem PP {t : Tg} : bJ a t ρ S = (a ρ S).toS ρ (LD t ρ) := rfl
theorem R6 {k : Nat} {d : Vl} : LD (.nm k) ρ d S = .next (ρ.set k (some d)) S := rfl
theorem O4 {i j : Nat} {d e : D} : LD (.tp [i, j]) ρ (.dat (.tup [d, e])) S = .next ((ρ.set i (some (.dat d))).set j (some (.dat e))) S := rfl
theorem O3 {i j k : Nat} {d e f : D} : LD (.tp [i, j, k]) ρ (.dat (.tup [d, e, f])) S = .next (((ρ.set i (some (.dat d))).set j (some (.dat e))).set k (some (.dat f))) S := rfl
def kFor (t : Tg) (m : FS) (ρ : Ev) (ds : List D) (S : aN) : Out := loop t m ds ρ S
theorem g_for {mi : FI} {t : Tg} : oZ mi t m ρ S = (mi ρ S).toS ρ (kFor t m ρ) := rfl
theorem R5 {t : Tg} {ds : List D} : kFor t m ρ ds S = loop t m ds ρ S := rfl
def Ao (cl : Bool) (t : Tg) (u : FT) (e : FE) (ρ : Ev) (vs : List Nat) (ds : List D) (S : aN) : Res Vl := if ds.length <= sizeLine then (match nJ t u e (wipeE ρ vs) ds S with
 | .ok es S2 => newL cl es S2
 | _ => .stuck) else .stuck
theorem Qx {cl : Bool} {mi : FI} {t : Tg} {vs : List Nat} : zW cl mi t u e vs ρ S = (mi ρ S).bind (Ao cl t u e ρ vs) := rfl
theorem Qk : kQ a ρ S = (a ρ S).bind itemsOf := rfl
theorem Lp {ds : List D} : itemsOf (.dat (.lst ds)) S = .ok ds S := rfl
theorem Lo {ds : List D} : itemsOf (.dat (.tup ds)) S = .ok ds S := rfl
def AO (x : Vl) (S : aN) : Res (List D) := match x with
 | .dat (.int j) => if -(2 ^ 62) <= j /\ j < 2 ^ 62 then .ok (gI 0 j.toNat) S else .stuck
 | _ => .stuck
theorem Ql : gZ a ρ S = (a ρ S).bind AO := rfl
theorem jO {j : Int} (h1 : -(2 ^ 62) <= j) (h2 : j < 2 ^ 62) : AO (.dat (.int j)) S = .ok (gI 0 j.toNat) S := by unfold AO; exact if_pos ⟨h1, h2⟩
def kRev1 (x : Vl) (S : aN) : Res (List D) := match x with
 | .dat (.int j) => if -(2 ^ 62) <= j /\ j < 2 ^ 62 then .ok (Og j.toNat) S else .stuck
 | _ => .stuck
theorem Nj : Q2 a ρ S = (a ρ S).bind kRev1 := rfl
def P6 (x : Vl) (S : aN) : Res (List D) := match x with
 | .dat (.lst ds) => .ok (dR 0 ds) S
 | _ => .stuck
theorem RC : D0 a ρ S = (a ρ S).bind P6 := rfl
theorem O1 {ds : List D} : P6 (.dat (.lst ds)) S = .ok (dR 0 ds) S := rfl
def Out.wipe (o : Out) (is : List Nat) : Out := match o with
 | .next ρ S => .next (wipeE ρ is) S
 | .cnt ρ S => .cnt (wipeE ρ is) S
 | .brk ρ S => .brk (wipeE ρ is) S
 | o => o
theorem Qc {is : List Nat} : gL is m ρ S = (m ρ S).wipe is := by unfold gL Out.wipe; cases m ρ S <;> rfl
theorem Fq {is : List Nat} : (Out.next ρ S).wipe is = .next (wipeE ρ is) S := rfl
theorem Gz {is : List Nat} {d : Vl} : (Out.ret d S).wipe is = .ret d S := rfl
theorem H7 {is : List Nat} {x : Er} : (Out.err x ρ S).wipe is = .err x ρ S := rfl
theorem RF {cl : Bool} {i j : Int} : cL cl (.dat (.int i)) (.dat (.int j)) S = .ok (.dat (.int (i + j))) S := rfl
theorem Qg {i j : Int} : pA (.dat (.int i)) (.dat (.int j)) S = .ok (.dat (.int (i - j))) S := rfl
theorem nK {i j : Int} (h : 0 < j) : xY (.dat (.int i)) (.dat (.int j)) S = .ok (.dat (.int (i % j))) S := if_pos h
theorem sM {i j : Int} (h : IntMulOk i j) : qM (.dat (.int i)) (.dat (.int j)) S = .ok (.dat (.int (i * j))) S := if_pos h
theorem B4 {i j : Int} (h : CDiv i j) : tD (.dat (.int i)) (.dat (.int j)) S = .ok (.dat (.int (i / j))) S := if_pos h
theorem g_ltI {i j : Int} : B7 (.dat (.int i)) (.dat (.int j)) S = .ok (.dat (.bl (decide (i < j)))) S := rfl
theorem g_leI {i j : Int} : F0 (.dat (.int i)) (.dat (.int j)) S = .ok (.dat (.bl (decide (i <= j)))) S := rfl
theorem g_gtI {i j : Int} : Ek (.dat (.int i)) (.dat (.int j)) S = .ok (.dat (.bl (decide (j < i)))) S := rfl
theorem g_geI {i j : Int} : fGe (.dat (.int i)) (.dat (.int j)) S = .ok (.dat (.bl (decide (j <= i)))) S := rfl
theorem g_eqI {i j : Int} : dZ (.dat (.int i)) (.dat (.int j)) S = .ok (.dat (.bl (decide (i = j)))) S := rfl
theorem g_neI {i j : Int} : DP (.dat (.int i)) (.dat (.int j)) S = .ok (.dat (.bl (!decide (i = j)))) S := rfl
theorem g_eqS {i j : Str} : dZ (.dat (.str i)) (.dat (.str j)) S = .ok (.dat (.bl (decide (i = j)))) S := rfl
theorem g_neS {i j : Str} : DP (.dat (.str i)) (.dat (.str j)) S = .ok (.dat (.bl (!decide (i = j)))) S := rfl
theorem g_eqB {i j : Bool} : dZ (.dat (.bl i)) (.dat (.bl j)) S = .ok (.dat (.bl (i == j))) S := by cases i <;> cases j <;> rfl
theorem g_neB {i j : Bool} : DP (.dat (.bl i)) (.dat (.bl j)) S = .ok (.dat (.bl (!(i == j)))) S := by cases i <;> cases j <;> rfl
theorem g_neg {i : Int} : qL (.dat (.int i)) S = .ok (.dat (.int (-i))) S := rfl
theorem R7 {i : Int} : vJ (.dat (.int i)) S = .ok (.dat (.int i)) S := rfl
theorem R8 {k : Bool} : vJ (.dat (.bl k)) S = .ok (.dat (.int (if k then 1 else 0))) S := rfl
theorem Qu {xs : List D} : dY (.dat (.tup xs)) S = .ok (.dat (.int xs.length)) S := rfl
theorem Qv {xs : List D} : dY (.dat (.lst xs)) S = .ok (.dat (.int xs.length)) S := rfl
theorem Qw {n : Nat} {xs : List D} (h : S[n]? = some (.lst xs)) : dY (.cel n) S = .ok (.dat (.int xs.length)) S := by simp only [dY, jE, h]
theorem DM {xs : List D} {k : Int} {d : D} (h : atI xs k = some d) : bU (.dat (.tup xs)) (.dat (.int k)) S = .ok (.dat d) S := by simp only [bU, h]
theorem vP {xs : List D} {k : Int} {d : D} (h : atI xs k = some d) : bU (.dat (.lst xs)) (.dat (.int k)) S = .ok (.dat d) S := by simp only [bU, jE, h]
theorem PM {n : Nat} {xs : List D} {k : Int} {d : D} (h : S[n]? = some (.lst xs)) (h2 : atI xs k = some d) : bU (.cel n) (.dat (.int k)) S = .ok (.dat d) S := by simp only [bU, jE, h, h2]
theorem Lx {cl : Bool} {xs ys : List D} (h : xs.length + ys.length <= sizeLine) : cL cl (.dat (.tup xs)) (.dat (.tup ys)) S = .ok (.dat (.tup (xs ++ ys))) S := if_pos h
theorem iJ {cl : Bool} {xs ys : List D} (h : xs.length + ys.length <= sizeLine) : cL cl (.dat (.lst xs)) (.dat (.lst ys)) S = newL cl (xs ++ ys) S := by simp only [cL, jE, h, if_true]
theorem Fw {neg : Bool} : C0 neg x (.dat .non) S = .ok (.dat (.bl (if neg then !(isNon x) else isNon x))) S := rfl
theorem iP {α : Type} {xs : List α} {k : Int} {n : Nat} (h : k = (n : Int)) : atI xs k = xs[n]? := by
 subst h;unfold atI ixN
 by_cases hl : n < xs.length
 ·rw [if_pos (by omega), if_pos (by omega)]; simp
 ·rw [if_pos (by omega), if_neg (by omega)]
  simp [tO hl]
theorem PB : eV ρ S = .ok true S := rfl
theorem Qe {xs : List D} : BG (.dat (.lst xs)) S = .ok (!xs.isEmpty) S := rfl
theorem Qf {i : Int} : BG (.dat (.int i)) S = .ok (i != 0) S := rfl
theorem Fu {xs : List D} : isNon (.dat (.tup xs)) = false := rfl
theorem Fv : isNon (.dat .non) = true := rfl
theorem g_slT {cl : Bool} {xs : List D} {lo hi : Option Int} : xX cl (.dat (.tup xs)) lo hi S = .ok (.dat (.tup (cutD xs lo hi))) S := rfl
theorem g_slL {cl : Bool} {xs : List D} {lo hi : Option Int} : xX cl (.dat (.lst xs)) lo hi S = newL cl (cutD xs lo hi) S := rfl
theorem g_slS {cl : Bool} {ns : List Int} {lo hi : Option Int} : xX cl (.scr ns) lo hi S = newL cl (cutD (ns.map D.int) lo hi) S := rfl
theorem Nn {cl : Bool} {xs : List D} : vQ cl (.dat (.lst xs)) S = newL cl xs S := rfl
theorem Nm {cl : Bool} {xs : List D} : vQ cl (.dat (.tup xs)) S = newL cl xs S := rfl
theorem Fs {xs : List D} : fTuple (.dat (.lst xs)) S = .ok (.dat (.tup xs)) S := rfl
end
section
variable {a b o : FE} {r : FA} {m n : FS} {ρ : Ev} {S : aN} {x y : Vl} {md : FD} {C f : Str} {ns : List Str}
theorem Nk : nI C ρ S = .err ⟨C, [], []⟩ ρ S := rfl
def EO (C : Str) (ns : List Str) (ρ : Ev) (xs : List Vl) (S : aN) : Out := match wV xs with
 | some ds => if ds.length = ns.length then .err ⟨C, ns, ds.reverse⟩ ρ S else .stuck
 | none => .stuck
theorem LW : kR C ns r ρ S = (r ρ S).toS ρ (EO C ns ρ) := rfl
theorem Jb {f : Str} {d : D} : EO C [f] ρ [.dat d] S = .err ⟨C, [f], [d]⟩ ρ S := rfl
theorem Ja {f g : Str} {d e : D} : EO C [f, g] ρ [.dat d, .dat e] S = .err ⟨C, [f, g], [e, d]⟩ ρ S := rfl
def kW (C f : Str) (ρ : Ev) (d x : Vl) (S : aN) : Out := match Im S C f x d with
 | some S3 => .next ρ S3
 | none => .stuck
def Oy (C f : Str) (o : FE) (ρ : Ev) (d : Vl) (S : aN) : Out := (o ρ S).toS ρ (kW C f ρ d)
theorem Qj : lK C f o a ρ S = (a ρ S).toS ρ (Oy C f o ρ) := rfl
theorem Nu {d : Vl} : Oy C f o ρ d S = (o ρ S).toS ρ (kW C f ρ d) := rfl
theorem iI {n : Nat} {d : Vl} {fs : List (Str × Vl)} (h : S[n]? = some (.ins C fs)) (hl : fs.length < 1000) : kW C f ρ d (.cel n) S = .next ρ (S.set n (.ins C (kA f d fs))) := by simp only [kW, Im, h, true_and, hl, if_true]
def Hz (kp : Bool) (C : Str) (md : FD) (ds : List Vl) (S : aN) : Res Vl := made kp S.length (md (.cel S.length :: ds) (S ++ [.ins C []]))
theorem Qt {kp : Bool} : Ht kp C md r ρ S = (r ρ S).bind (Hz kp C md) := rfl
def Gq (md : FD) (x : Vl) (ds : List Vl) (S : aN) : Res Vl := md (x :: ds) S
def P5 (C f : Str) (md : FD) (r : FA) (ρ : Ev) (x : Vl) (S : aN) : Res Vl := if jA S C f x = true then (r ρ S).bind (Gq md x) else .stuck
theorem Qs : gE C f md o r ρ S = (o ρ S).bind (P5 C f md r ρ) := rfl
theorem Ec (h : jA S C f x = true) : P5 C f md r ρ x S = (r ρ S).bind (Gq md x) := if_pos h
theorem Lh {ds : List Vl} : Gq md x ds S = md (x :: ds) S := rfl
def EU (C f : Str) (x : Vl) (S : aN) : Res Vl := match By S C f x with
 | some d => .ok d S
 | none => .stuck
theorem DN : eA C f o ρ S = (o ρ S).bind (EU C f) := rfl
theorem O0 {ns : List Str} {xs : List D} : EU C f (.dat (.ins C ns xs)) S = (match (ns.zip xs).lookup f with | some d => .ok (.dat d) S | none => .stuck) := by
 simp only [EU, By, if_true];cases (ns.zip xs).lookup f <;> rfl
theorem B3 {n : Nat} {fs : List (Str × Vl)} {d : Vl} (h : S[n]? = some (.ins C fs)) (h2 : fs.lookup f = some d) : EU C f (.cel n) S = .ok d S := by simp only [EU, By, h, if_true, h2]
def Out.tryA (o : Out) (cs : List Str) (c : Str) (k : Nat) (its : List XIt) : Out := match o with
 | .err e ρ' S' => if (e.cls ∈ cs /\ c ∈ cs) /\ k < ρ'.length then (if e.cls = c then (match itF e its with
   | some ds => if ds.length <= sizeLine then .ret (.dat (.tup ds)) S' else .stuck
   | none => .stuck) else .err e ρ' S') else .stuck
 | o => o
theorem Qd {cs : List Str} {c : Str} {k : Nat} {its : List XIt} : Os cs m c k its ρ S = (m ρ S).tryA cs c k its := by unfold Os Out.tryA; cases m ρ S <;> rfl
theorem Ft {cs : List Str} {c : Str} {k : Nat} {its : List XIt} : (Out.next ρ S).tryA cs c k its = .next ρ S := rfl
theorem H8 {cs : List Str} {c : Str} {k : Nat} {its : List XIt} {d : Vl} : (Out.ret d S).tryA cs c k its = .ret d S := rfl
end
theorem mE : ((0 : Nat) : Int) = 0 := rfl
theorem xV : ((1 : Nat) : Int) = 1 := rfl
theorem OG : ((2 : Nat) : Int) = 2 := rfl
theorem OF : ((3 : Nat) : Int) = 3 := rfl
theorem OE : ((4 : Nat) : Int) = 4 := rfl
theorem OD : ((5 : Nat) : Int) = 5 := rfl
theorem OC : ((6 : Nat) : Int) = 6 := rfl
theorem OB : ((7 : Nat) : Int) = 7 := rfl
theorem OA : ((8 : Nat) : Int) = 8 := rfl
theorem O9 : ((9 : Nat) : Int) = 9 := rfl
theorem Lw : ((10 : Nat) : Int) = 10 := rfl
theorem Lv : ((11 : Nat) : Int) = 11 := rfl
theorem Lu : ((12 : Nat) : Int) = 12 := rfl
theorem Ls : ((13 : Nat) : Int) = 13 := rfl
theorem str_inj {a b : String} (h : Str.ofString a = Str.ofString b) : a = b := by
 rw [Str.ofString_eq_toList, Str.ofString_eq_toList] at h
 injection h with h
 have h2 := congrArg Array.toList h;simp only at h2;have : ∀ {l m : List Char}, l.map Char.toNat = m.map Char.toNat -> l = m := fun {l} => by
  induction l with
  | nil => intro m h; cases m <;> simp at h ⊢
  | cons c l ih =>
   intro m h;cases m with
   | nil => simp at h
   | cons d m =>
    simp only [bA, List.cons.injEq] at h;rw [ih h.2];have : c = d := by
     have := congrArg Char.ofNat h.1
     simpa using this
    rw [this]
 exact String.toList_inj.mp (this h2)
theorem tR {a b : String} : (Str.ofString a = Str.ofString b) = (a = b) := propext ⟨str_inj, fun h => by rw [h]⟩
theorem walk_x {l : PySem.W.OpenLaw} {n k : Nat} {q : Program} {loose : List Str} {XP : (Str -> Option Value) -> Heap -> Prop} {YP : World -> Heap -> Prop} {d : DefRec} {x : Str} (e1 : l.most = some n) (e2 : n <= sizeLine) (e3 : d.params.defaults = []) (e4 : Room k callerA)
  (e5 : ∀ (w : World) (mg : Str -> Option Value) (fa : Addr) (h : Heap), YP w h -> h.Ns mainGlobals mg -> mg d.name = some (.ref fa) -> ∃ (K : aD) (fd : FuncData) (sp : Sp), K.In h /\ (∀ (s : Shared) (u : Value), BindsTo s fd ⟨[u], []⟩ [(x, u)]) /\
   (∀ (H : Hp) (a : Addr) (ns : List Int), ns.length <= n -> Only H -> SqL K H a (ns.map V.int) -> sp [.ref a] H (fun v _ => v = .bl true) fun _ _ _ => False) /\ ∀ base : Heap, K.In base -> base.Ns mainGlobals mg -> FnOk l.prog w K mg base (L2.CX l.prog w) k fa fd [x] sp) :
  PySem.W.WalkO q loose XP YP l.row.toRowW d [] (fun f vs => PySem.call f vs) :=
 Att.attach_call e1 e3 fun w s0 s1 mg mb fa o pm cd doc a vs ns G Y _ _ _ m1 m2 m3 m4 m5 => by
  obtain ⟨K, fd, sp, KX, hb, hs, hF⟩ := e5 w mg fa _ Y G.T.g m1;refine law_call KX G.T.g G.T.b G.T.builtins G.T.nolimit m5 m2 m3 (BC m4 e2) e4 hF hb (fun H h1 h2 => hs H a ns m4 h1 h2) fun H e s' z => ?_
  obtain ⟨_, _, _, _, _, _, _, _, _, _, _, _, h⟩ := z;exact h
section
variable {X : Cx} {W : WX} {C : Str} {md : FD} {o i a b : Expr} {mo mi ma mb : FE} {pos p : Pos} {j k : Nat} {ps : List Str} {K : aD}
theorem II {q m : Str} {st : Stmt} (F : CK K C m q st) : zJ K (He.ma K (He.ga K C) m) = true := by
 obtain ⟨fd, F⟩ := F;obtain ⟨oc, od, dV, kV, doc, pm, an, cdv, ct, osl, _, lk, _⟩ := F.ex;unfold zJ;rw [lk]
def xZ (C : Str) (md : FD) (x y : Vl) (S : aN) : Res Vl := if jA S C "" x = true then md [x, y] S else .stuck
theorem RL (F : OkMX X.prog X.w X.K X.mg X.base j C "__getitem__" ps (spF X.K md)) (hr : Room k X.A) (tk : Takes X W) (fi : zJ X.K (He.ma X.K (He.ga X.K C) "__getitem__") = true) (ho : PE X o (cO X.K W mo)) (hi : PE X i (cO X.K W mi)) (hjk : j + 1 <= k := by decide)
  (hs : ∀ x u, subscripted i true x u = runValue (.builtin "lifetime.subscript" ⟨[x, u], []⟩) := by intro _ _; rfl) : PE X (.Subscript o i pos) (cO X.K W (aS (xZ C md) mo mi)) := by
 obtain ⟨⟨fd, F, hb⟩, mt⟩ := F;refine ⟨fun pins s σ H Q I h => ?_⟩
 have h' : cO X.K W mo σ H fun x H1 => cO X.K W mi σ H1 fun y H2 => ∃ a dx fs, x = .ref a /\ H2 a = some (.ins (He.ga X.K C) dx fs) /\ spF X.K md [x, y] H2 Q (WE W σ) :=
  bV (k := fun x ρ S => (mi ρ S).bind fun y S2 => xZ C md x y S2) h fun B φ S ρ d v H1 I E r f => fC I E f fun φ' S' e w H2 I2 X2 E2 r2 f2 => by
   unfold xZ at f2;split at f2
   ·rename_i hh
    obtain ⟨a, dx, fs, rfl, h1, h2⟩ := sJ I2 (r.ext X2 I) hh;exact ⟨a, dx, fs, rfl, h1, B, φ', S', [d, e], I2, ⟨_, _, rfl, r.ext X2 I, _, _, rfl, r2, rfl⟩, f2.toE⟩
   ·exact f2.elim
 refine Subscript_ (binT ho hi I h' fun v u s2 x y H2 I2 rx ry q => ?_)
 obtain ⟨a, dx, fs, rfl, ha, h⟩ := q;cases rx;obtain ⟨mA, J, _⟩ := ins_get I2.hok ha;obtain ⟨od, J, _⟩ := J.look;obtain ⟨fm, hF⟩ := I2.fr;refine PySem.W.sub_K hF I2.ok.mod.kin J mt.at_ fi mt.fn ?_ (hs _ _)
 have e := I2.env0;have hl := F.len _ _ _ _ h;have b1 := hb s2 [.ref a, u] I2.kIn (by simpa using hl)
 have hr' : Room (j + 1) X.A := hr.mono hjk;have run := F.run X.A.in1 X.stack s2 H2 ⟨[.ref a, u], []⟩ [.ref a, u] [.ref a, y] Q (WE W σ) hr'.in1 ⟨e.frames, e.mod, e.bs, e.bsz, e.funs, e.frf, e.hok, e.bare⟩ (by simpa using b1) (.cons rfl (.cons ry .nil)) h
 refine wpAny_call (codeAny_mono run fun r s' hq => ?_)
 cases r with
 | error e => exact passAt tk σ pins H2 s2 e s' I2 hq
 | ok fl =>
  cases fl with
  | ret w => exact I2.after hq
  | next => exact False.elim hq
  | brk => exact False.elim hq
  | cont => exact False.elim hq
def fInO (C : Str) (md : FD) (y x : Vl) (S : aN) : Res Vl := if jA S C "" x = true then ML (md [x, y] S) else .stuck
def L5 (x : Vl) (S : aN) : Res (List PH.D) := match x with
 | .dat (.lst ds) => .ok ds.reverse S
 | _ => .stuck
def Ou (a : FE) : FI := fun ρ S => (a ρ S).bind L5
def fMin2 (x y : Vl) (S : aN) : Res Vl := match x, y with
 | .dat (.int i), .dat (.int j) => .ok (.dat (.int (if j < i then j else i))) S
 | _, _ => .stuck
theorem Qm {ρ : Ev} {S : aN} : Ou ma ρ S = (ma ρ S).bind L5 := rfl
theorem Nv {S : aN} {ds : List PH.D} : L5 (.dat (.lst ds)) S = .ok ds.reverse S := rfl
theorem Qr {S : aN} {x y : Int} : fMin2 (.dat (.int x)) (.dat (.int y)) S = .ok (.dat (.int (if y < x then y else x))) S := rfl
theorem R9 {S : aN} {x y : Vl} (h : jA S C "" x = true) : xZ C md x y S = md [x, y] S := if_pos h
theorem g_inO {S : aN} {x y : Vl} (h : jA S C "" x = true) : fInO C md y x S = ML (md [x, y] S) := if_pos h
theorem OI {S : aN} {b : Bool} : ML (.ok (.dat (.bl b)) S) = .ok (.dat (.bl b)) S := rfl
def Cz (k : Nat) : FS := fun ρ S => match lk ρ k with
 | some (.cel n) => (match S[n]? with
  | some (.lst ds) => .next (ρ.set k (some (.dat (.lst ds)))) (S.set n .dead)
  | _ => .stuck)
 | _ => .stuck
theorem FF {σ : L2.St} {k : Nat} {v : Option L2.V} (h : σ[k]? = some v) : σ.set k v = σ := by
 apply lT
 intro i;rw [aQ]
 by_cases e : k = i
 ·subst e; rw [if_pos rfl, if_pos (aJ.mp h).1, h]
 ·rw [if_neg e]
theorem OK {wX : List Stmt} {m : FS} (k : Nat) (h : PSs X wX (jQ X.K W m)) : PSs X wX (jQ X.K W (aK (Cz k) m)) := sW h fun D σ H h => by
 obtain ⟨B, φ, S, ρ, I, E, f⟩ := h;unfold aK Cz at f;cases q : lk ρ k with
 | none => rw [q] at f; exact f.elim
 | some d =>
  rw [q] at f;cases d with
  | cel n =>
   dsimp only at f;cases q2 : S[n]? with
   | none => rw [q2] at f; exact f.elim
   | some c =>
    rw [q2] at f;cases c with
    | lst ds =>
     dsimp only at f;obtain ⟨v, h1, a, rfl, h3⟩ := E.2 k _ (DA q);obtain ⟨vs, h4, l⟩ := I.ok n _ a q2 h3;have X0 := Ext.kill (φ := φ) (S := S) (H := H) (n := n);have nb : ¬ lJ B φ (S.set n .dead) a := I.killed q2 (by simp) h3
     have E1 := (E.ext X0 I).set (d := .dat (.lst ds)) (v := .ref a) ⟨a, vs, rfl, nb, h4, X0.repL I l⟩ k;rw [FF h1] at E1;exact ⟨B, φ, S.set n .dead, _, I.kill, E1, FinS.ext f X0⟩
    | _ => exact f.elim
  | _ => exact f.elim
theorem Lq {k n : Nat} {ρ : Ev} {S : aN} {ds : List PH.D} (h : lk ρ k = some (.cel n)) (h2 : S[n]? = some (.lst ds)) : Cz k ρ S = .next (ρ.set k (some (.dat (.lst ds)))) (S.set n .dead) := by simp only [Cz, h, h2]
end
open AutoSeq1 (wpAny_loadPart')
section
variable {X : Cx} {W : WX} {a : Expr} {ma : FE} {pos p : Pos}
def Q6 (a : FE) : FI := fun ρ S => (a ρ S).bind fun x S1 => match x with
 | .dat (.tup ds) => .ok (dR 0 ds) S1
 | _ => .stuck
def L7 (x : Vl) (S : aN) : Res (List PH.D) := match x with
 | .dat (.tup ds) => .ok (dR 0 ds) S
 | _ => .stuck
theorem O5 {ρ : Ev} {S : aN} : Q6 ma ρ S = (ma ρ S).bind L7 := rfl
theorem Ll {S : aN} {ds : List PH.D} : L7 (.dat (.tup ds)) S = .ok (dR 0 ds) S := rfl
end
section
variable {X : Cx} {W : WX} {e a b c o : Expr} {es rest : List Expr} {pos p q p2 tpos apos cpos : Pos} {x y z C f : Str} {K : aD} {ma mb mc mo me : FE} {mt mu : FT} {mas : FA} {mi mj : FI} {B : Addr -> Prop} {φ φ' : List Addr} {S S' : aN} {H H' : Hp} {σ : L2.St} {Q : VK} {m n : FS} {st : Stmt} {wX : List Stmt} {D : Ends} {t t1 : Tg}
def NL (mi : FI) (t : Tg) (vs : List Nat) : FE := fun ρ S => (mi ρ S).bind fun ds S1 => if ds.length <= sizeLine /\ (∀ d ∈ ds, (qR t (.dat d) (wipeE ρ vs)).isSome = true) then .ok (.cels (jD S1.length ds.length)) (S1 ++ bR ds.length (.lst [])) else .stuck
theorem J4 {n : Nat} {x : Cell} : bR (n + 1) x = bR n x ++ [x] := List.replicate_succ'
theorem KY {s n : Nat} : jD s (n + 1) = jD s n ++ [s + n] := by rw [List.range'_concat]; simp
theorem Ml {vs : List Nat} (ht : ∀ i ∈ Pe t, i ∈ vs) (h : cO K W (NL mi t vs) σ H Q) : tLc (MZ K W mi) (MY K t) (wY K Mb eV) (cO K Mb (bT true aI)) vs σ H Q := by
 refine bV (k := fun ds ρ S1 => if ds.length <= sizeLine /\ (∀ d ∈ ds, (qR t (.dat d) (wipeE ρ vs)).isSome = true) then Res.ok (Vl.cels (jD S1.length ds.length)) (S1 ++ bR ds.length (.lst [])) else .stuck) h fun B φ0 S0 ρ ds J H0 I0 E0 r f0 => ?_
 intro A hA;split at f0
 case isFalse => exact f0.elim
 rename_i hsz;obtain ⟨hsz, htg⟩ := hsz;have nB : ¬ B A := fun q => by obtain ⟨u, e⟩ := I0.btr A q; rw [hA] at e; cases e
 have IA : GInv K (nL B A) φ0 S0 (upd H0 A (.lst [])) := I0.plus hA;have b2 : ∀ a, H0 a ≠ none -> nL B A a -> B a := fun b hb h => by
  rcases h with h | h
  ·exact h
  ·exact absurd (by rw [h]; exact hA) hb
 refine ⟨fun i k H' => i <= ds.length /\ k = ds.length - i /\ ∃ (φ1 : List Addr) (as : List Addr), GInv K (nL B A) φ1 (S0 ++ bR i (.lst [])) H' /\ Ext φ0 S0 H0 φ1 (S0 ++ bR i (.lst [])) H' /\ RepE K (nL B A) φ1 (S0 ++ bR i (.lst [])) H' (wipeE ρ vs) (wipe σ vs) /\ H' A = some (.lst (as.map L2.V.ref)) /\ as.length = i /\ (jD S0.length i).map (fun n => φ1[n]?) = as.map some,
  ⟨_, hW _, rfl, φ0, [], by simpa using IA, by simpa using Ext.new I0 hA, by simpa using (E0.wipes vs).plus I0 hA, upd_same, rfl, rfl⟩, ?_⟩
 rintro i k H' ⟨hi, rfl, φ1, as, I1, X1, E1, hA1, hul, hφ⟩
 obtain ⟨hgo, hstop, hyld⟩ := r φ1 _ H' (nL B A) I1 (X1.kpB (fun _ h => .inl h) b2 I0)
 by_cases hlt : i < ds.length
 ·refine .inr ⟨hgo i hlt, fun H2 => i + 1 <= ds.length /\ ∃ (φ1 : List Addr) (as : List Addr), GInv K (nL B A) φ1 (S0 ++ bR (i + 1) (.lst [])) H2 /\ Ext φ0 S0 H0 φ1 (S0 ++ bR (i + 1) (.lst [])) H2 /\ RepE K (nL B A) φ1 (S0 ++ bR (i + 1) (.lst [])) H2 (wipeE ρ vs) (wipe σ vs) /\ H2 A = some (.lst (as.map L2.V.ref)) /\ as.length = i + 1 /\ (jD S0.length (i + 1)).map (fun n => φ1[n]?) = as.map some, fun H2 ⟨h1, h2⟩ => ⟨ds.length - (i + 1), by omega, h1, rfl, h2⟩, fun x H2 y => ?_⟩
  have hd : ds[i]? = some ds[i] := by simp [hlt]
  obtain ⟨I2, X2, r2⟩ := hyld i x H2 ds[i] hd y;obtain ⟨ρ2, q2⟩ := Option.isSome_iff_exists.mp (htg ds[i] (jJ hlt));have hA2 := (X2.old A _ hA1 fun q => I1.blk A q (.inr rfl)).1
  refine Dm (E1.ext X2 I1) (d := .dat ds[i]) r2 q2 fun ws E3 => ⟨by rw [Cf ht, Ce], nL B A, φ1, _, ρ2, I2, E3, ?_⟩
  intro φ3 b' H3 I3 X3 rb;have rb : b' = true := rb;subst rb;have hA3 := (X3.old A _ hA2 fun q => I2.blk A q (.inr rfl)).1
  have Xa := X1.trans (X2.trans X3);rw [if_pos rfl];refine ⟨nL B A, φ3, S0 ++ bR i (.lst []), ρ2, I3, E3.ext X3 I2, ?_⟩
  intro φ4 v4 H4 I4 X4 r4;obtain ⟨a4, rfl, h4⟩ := r4;have hA4 := (X4.old A _ hA3 fun q => I3.blk A q (.inr rfl)).1
  have eS : (S0 ++ bR i (Cell.lst [])) ++ [Cell.lst []] = S0 ++ bR (i + 1) (.lst []) := by rw [J4, List.append_assoc]
  rw [eS] at I4 X4;have hn : (S0 ++ bR i (Cell.lst [])).length = S0.length + i := by simp
  rw [hn] at h4;refine ⟨as.map L2.V.ref, hA4, by rw [bC, hul]; omega, hlt, φ4, as ++ [a4], I4.plusPut hA4, ?_, (((E1.ext X2 I1).ext X3 I2).ext X4 I3).plusPut hA4, by rw [upd_same]; simp, by simp [hul], ?_⟩
  ·exact ⟨fun b o h nb => by
    obtain ⟨h1, h2⟩ := (Xa.trans X4).old b o h nb;exact ⟨by rw [upd_ne (fun e => by subst e; rw [hA] at h; cases h)]; exact h1, h2⟩, (Xa.trans X4).ids⟩
  ·rw [KY, eO, eO, Ay (X2.trans (X3.trans X4)).ids _ _ hφ]
   simp [h4]
 ·have e : i = ds.length := by omega
  subst e;refine .inl ⟨hstop, ?_⟩
  refine f0 φ1 (.ref A) H' I1.less X1 ⟨A, as, rfl, fun q => ?_, hA1, hφ⟩
  rcases q with q | q
  ·exact nB q
  ·exact I1.blk A q (.inr rfl)
theorem f_lcC {tg iter : Expr} {scope : Scope} {own : List (Str × Nat)} {lpos : Pos} (hc : X.calm = true) (hN : X.N.Nodup) (hi : PI X tg iter (MZ X.K W mi)) (ok : BlkOk X.N X.env.scope scope own)
  (hg : ∀ (s : Shared) (H : Hp) (C : Addr) (cl : List (Str × Addr)) (fp : List Addr), PG (X.blk s H scope (compEnvC scope cl C X.env) fp) tg (MY X.K t)) (hs : ∀ x, foldedSetIterable iter X.env x = pure x := by intro _; rfl) (hv : ∀ i ∈ Pe t, i ∈ own.map (·.2) := by decide) :
  PE X (.ListComp (.List [] lpos) [⟨tg, iter, [], 0⟩] scope pos) (cO X.K W (NL mi t (own.map (·.2)))) := dF (pe_lc hc hN hi ok hg (fun _ _ _ _ _ => gU) (fun _ _ _ _ _ => bQ aG) hs) fun σ H Q h => Ml hv h
def kLcC (t : Tg) (ρ : Ev) (vs : List Nat) (ds : List PH.D) (S : aN) : Res Vl := if ds.length <= sizeLine /\ (∀ d ∈ ds, (qR t (.dat d) (wipeE ρ vs)).isSome = true) then .ok (.cels (jD S.length ds.length)) (S ++ bR ds.length (.lst [])) else .stuck
theorem g_lcC {ρ : Ev} {S : aN} {vs : List Nat} : NL mi t vs ρ S = (mi ρ S).bind (kLcC t ρ vs) := rfl
theorem R1 {ρ : Ev} {S : aN} {vs : List Nat} {k : Nat} {ds : List PH.D} (h : ds.length <= sizeLine) : kLcC (.nm k) ρ vs ds S = .ok (.cels (jD S.length ds.length)) (S ++ bR ds.length (.lst [])) := if_pos ⟨h, fun _ _ => rfl⟩
def Kw (g : Int -> Int -> Int) (C f : Str) (o e : FE) : FS := fun ρ S => (o ρ S).toS ρ fun x S1 => match By S1 C f x with
 | some (.dat (.int u)) => (e ρ S1).toS ρ fun w S2 => (match w with
  | .dat (.int w) => (match Im S2 C f x (.dat (.int (g u w))) with
   | some S3 => .next ρ S3
   | none => .stuck)
  | _ => .stuck)
 | _ => .stuck
theorem KJ {g : Int -> Int -> Int} {r : R2} (c : Cls K (He.ga K C)) (na : NoAttr K (He.ga K C) f) (hr : ∀ i j H Q, Q (.int (g i j)) H -> r (.int i) (.int j) H Q) (h : jQ K W (Kw g C f mo me) D σ H) : sFldAug K (cO K W mo) (cO K W me) (cIp r) f D σ H := by
 obtain ⟨B, φ, S, ρ, I, E, f'⟩ := h;refine cD I E f' fun φ1 S1 d1 v1 H1 I1 X1 E1 r1 f1 => ?_
 split at f1
 ·rename_i u q
  obtain ⟨a, dx, fs, u', rfl, h1, h2, h3⟩ := G0 I1 r1 q;cases h3;refine ⟨a, _, dx, fs, _, rfl, h1, c, na, h2, cD I1 E1 f1 fun φ2 S2 d2 v2 H2 I2 X2 E2 r2 f2 => ?_⟩
  split at f2
  ·rename_i w
   cases r2;split at f2
   ·rename_i S3 q3
    unfold Im at q3;split at q3
    ·rename_i n
     obtain ⟨a', e', h4⟩ := r1.ext X2 I1;cases e';split at q3
     ·rename_i C' fs' q4
      split at q3
      ·rename_i hc
       obtain ⟨e, hl⟩ := hc;subst e;cases q3;obtain ⟨dx2, vs, h5, h6⟩ := I2.ok n _ a q4 h4;refine hr _ _ _ _ ⟨dx2, vs, h5, by rw [h6.len]; exact hl, ?_⟩
       have X3 := Ext.put (H := H2) (o := .ins (He.ga K C') dx2 (putF f (.int (g u w)) vs)) (x := .ins C' (kA f (.dat (.int (g u w))) fs')) q4 (by simp) h4 (by simp)
       have r' : RepV K B φ2 S2 H2 (.dat (.int (g u w))) (.int (g u w)) := rfl;have I3 := I2.put q4 (by simp) h4 (by simp) (x := .ins C' (kA f (.dat (.int (g u w))) fs')) (o := .ins (He.ga K C') dx2 (putF f (.int (g u w)) vs)) ⟨dx2, putF f (.int (g u w)) vs, upd_same, (RepF.put r' h6).ext X3 I2⟩
       exact f2 φ2 σ _ I3 X3 (E2.ext X3 I2)
      ·cases q3
     ·cases q3
    ·cases q3
   ·exact f2.elim
  ·exact f2.elim
 ·exact f1.elim
theorem HF (c : Cls X.K (He.ga X.K C)) (na : NoAttr X.K (He.ga X.K C) f) (ho : PE X o (cO X.K W mo)) (he : PE X e (cO X.K W me)) : PS X (.AugAssign (.Attribute o f tpos) .Add e pos) (jQ X.K W (Kw (fun x y => x + y) C f mo me)) :=
 fX (ps_fldaug ho he EZ) fun D σ H h => KJ c na (fun _ _ _ _ q => q) h
def OkK (P : Program) (w : World) (K : aD) (mg : Str -> Option Value) (base : Heap) (k : Nat) (x : Str) (ps : List Str) (n : Nat) (kw : Str) (dv : L2.V) (sp : Sp) : Prop :=
 ∃ fd, FnOk P w K mg base (L2.CX P w) k (He.ga K x) fd ps sp /\ mg x = some (.ref (He.ga K x)) /\ lF K (.ref (He.ga K x)) = true /\ (∃ ds, Vals [dv] ds /\ Binds K fd ps ds) /\ KBn K fd ps n [kw] (fun us ws => us ++ ws) (fun vs zs => vs ++ zs)
def Q7 (md : FD) (dd : PH.D) (as : FA) : FE := fun ρ S => (as ρ S).bind fun ds S1 => md (ds ++ [.dat dd]) S1
theorem RepVs.snoc {B : Addr -> Prop} {φ : List Addr} {S : aN} {H : Hp} : ∀ {ds : List Vl} {vs : List L2.V} {d : Vl} {v : L2.V}, RepVs K B φ S H ds vs -> RepV K B φ S H d v -> RepVs K B φ S H (ds ++ [d]) (vs ++ [v])
 | [], vs, d, v, h, r => by cases h; exact ⟨v, [], rfl, r, rfl⟩
 | d' :: ds, vs, d, v, ⟨v', ws, e, h1, h2⟩, r => by subst e; exact ⟨v', ws ++ [v], rfl, h1, RepVs.snoc h2 r⟩
def LB (md : FD) (dd : PH.D) (ds : List Vl) (S : aN) : Res Vl := md (ds ++ [.dat dd]) S
theorem OH {md : FD} {dd : PH.D} {ρ : Ev} {S : aN} : Q7 md dd mas ρ S = (mas ρ S).bind (LB md dd) := rfl
theorem Ln {md : FD} {dd : PH.D} {ds : List Vl} {S : aN} : LB md dd ds S = md (ds ++ [.dat dd]) S := rfl
def Gm (n : Nat) (md : FD) (as : FA) (a : FE) : FE := fun ρ S => (as ρ S).bind fun ds S1 => if ds.length = n then (a ρ S1).bind fun d S2 => md (ds ++ [d]) S2 else .stuck
def EW (md : FD) (ds : List Vl) (d : Vl) (S : aN) : Res Vl := md (ds ++ [d]) S
def L9 (n : Nat) (md : FD) (a : FE) (ρ : Ev) (ds : List Vl) (S : aN) : Res Vl := if ds.length = n then (a ρ S).bind (EW md ds) else .stuck
theorem IF {md : FD} {n : Nat} {ρ : Ev} {S : aN} : Gm n md mas ma ρ S = (mas ρ S).bind (L9 n md ma ρ) := rfl
theorem DK {md : FD} {ρ : Ev} {S : aN} {x y z : Vl} : L9 3 md ma ρ [x, y, z] S = (ma ρ S).bind (EW md [x, y, z]) := rfl
theorem DL {md : FD} {ds : List Vl} {d : Vl} {S : aN} : EW md ds d S = md (ds ++ [d]) S := rfl
theorem OQ {j k n : Nat} {ps : List Str} {md : FD} {kw : Str} {dv : L2.V} {kpos : Pos} (F : OkK X.prog X.w X.K X.mg X.base j x ps n kw dv (spF X.K md)) (hr : Room k X.A) (tk : Takes X W) (ha : PA X (e :: es) (Ez X.K W mas)) (hv : PE X a (cO X.K W ma)) (hjk : j <= k := by decide) (hg : Gl X x := by rfl) (hdb : (x == ("__debug__" : Str)) = false := by decide)
  (hall : (backToKw pos (keywordEach [⟨some kw, a, kpos⟩] X.env)).all (·.1.isSome) = true := by rfl) (hks : (backToKw pos (keywordEach [⟨some kw, a, kpos⟩] X.env)).filterMap (·.1) = [kw] := by rfl)
  (he : starEach (e :: es) X.env = (false, eval e X.env) :: starEach es X.env := by rfl) (hpl : ((backTo pos (starEach (e :: es) X.env)).any (·.1) || (backToKw pos (keywordEach [⟨some kw, a, kpos⟩] X.env)).any (·.1.isNone)) = false := by rfl) : PE X (.Call (.Name x p) (e :: es) [⟨some kw, a, kpos⟩] pos) (cO X.K W (Gm n md mas ma)) := by
 obtain ⟨fd, F, hm, hk, _, hb⟩ := F;refine ⟨fun pins s σ H Q I h => ?_⟩
 have h' : Ez X.K W mas σ H fun vs H1 => tCons (cO X.K W ma) tNil σ H1 fun zs H2 => vs.length = n /\ zs.length = 1 /\ spF X.K md (vs ++ zs) H2 Q (WE W σ) := by
  refine bV (k := fun ds ρ S1 => if ds.length = n then (ma ρ S1).bind fun d S2 => md (ds ++ [d]) S2 else .stuck) h fun B φ S ρ ds vs H1 I E r f => ?_
  split at f
  case isFalse => exact f.elim
  rename_i hl;exact fC I E f fun φ' S' d v H2 I2 X2 E2 r2 f2 => ⟨by rw [r.len]; exact hl, rfl, B, φ', S', ds ++ [d], I2, RepVs.snoc (r.ext X2 I) r2, f2.toE⟩
 refine wpAny_Call_Name_kw (ld_glob I hg hm ?_ hdb)
 refine HY (h₀ := X.base) I.ok.mod.kin hk hall (thn (ha.run pos pins s σ H _ I h') fun us s1 ⟨vs, H1, I1, r, q⟩ => ?_) hpl he
 refine thn ((pk_cons hv pk_nil : PK X [⟨some kw, a, kpos⟩] _).run pos pins s1 σ H1 _ I1 q) fun ws s2 ⟨zs, H2, I2, rz, l1, l2, q2⟩ => ⟨I2.kIn, ?_⟩
 rw [hks];have r2 := hb.rel r rz;refine wpAny_call (codeAny_mono (F.run X.A X.stack s2 H2 ⟨us, [kw].zip ws⟩ (us ++ ws) (vs ++ zs) Q (WE W σ) (hr.mono hjk) I2.env0 (hb.to s2 us ws I2.kIn (r.length.symm.trans l1) (rz.length.symm.trans l2)) r2 q2) fun r s' hq => ?_)
 cases r with
 | error e => exact passAt tk σ pins H2 s2 e s' I2 hq
 | ok fl =>
  cases fl with
  | ret u => exact I2.after hq
  | next => exact False.elim hq
  | brk => exact False.elim hq
  | cont => exact False.elim hq
end
section
variable {P : Program} {w : World} {K : aD} {mg : Str -> Option Value} {base : Heap}
abbrev FnK (K : aD) (x : Str) (st : Stmt) (kw : Str) (dv : L2.V) : Prop := ∃ fd, FunD K x x (defArgs st) (defBody st) (defScope st) [] [(kw, dv)] (He.ga K x) fd
theorem okK {x kw : Str} {dv : L2.V} {st : Stmt} {N ps : List Str} {k n : Nat} {md : FD} {mb : FS} (F : FnK K x st kw dv) (g : mg x = some (.ref (He.ga K x))) (S : FnScope N ps (defScope st)) (R : Runs md N.length ps.length mb) (hn : n + 1 = ps.length)
  (b0 : ∀ (D : Addr) (doc pm : Value) (an : Option Addr) (cdv ct : Value) (us ks : List Value), us.length = n -> ks.length = 1 -> KwChain D ([kw].zip ks) (bindArgs (dP x x (defArgs st) (defBody st) (defScope st) .none (.ref D) doc pm an cdv ct) ⟨us, []⟩) (ps.zip (us ++ ks)))
  (b1 : ∀ (kV doc pm : Value) (an : Option Addr) (cdv ct : Value) (us ws : List Value), us.length = n -> ws.length = 1 -> bindArgs (dP x x (defArgs st) (defBody st) (defScope st) .none kV doc pm an cdv ct) ⟨us, [kw].zip ws⟩ = pure (ps.zip (us ++ ws)))
  (hbody : ∀ (cdv : Value) (A : Around) (outer : List Env) (s : Shared) (H : Hp) (E : XK), Room k (A.deeper (envOfC x (defScope st) s.heap.objs.size (He.ga K x) cdv)) -> PSs (cxOf (L2.CX P w) P w K mg base N x (defScope st) (He.ga K x) cdv A outer s H E) (defBody st) (jQ K (fun c x _ H => E c x H) mb)) : OkK P w K mg base (k + 1) x ps n kw dv (spF K md) := by
 obtain ⟨fd, F⟩ := F;refine ⟨fd, FunD.ok F S (uU R) fun cdv A outer s H vs Q E hr hsp => ⟨_, hbody cdv A outer s H E hr, qV R hsp⟩, g, F.kp, F.binds0 n (by simp) hn b0, ⟨fun s us ws _ l1 l2 => ?_, fun r1 r2 => r1.append r2⟩⟩
 obtain ⟨oc, od, dV, kV, doc, pm, an, cdv, ct, osl, rfl, lk, hcd, hD, hK⟩ := F.ex;rcases hD with ⟨_, rfl⟩ | ⟨e, _⟩
 ·exact .of_eq (b1 kV doc pm an cdv ct us ws l1 l2)
 ·exact absurd rfl e
end
def EV0 := aF @iX (aF @HC (aF @Bx (aF @JS (aF @PD (aF @g_c (aF @g_op (aF @g_op1 (aF @g_1 (aF @g_B (aF @g_unB (aF @LV (aF @g_and (aF @g_or (aF @PF (aF @Lc (aF @Ld (aF @Np (aF @Nq (aF @Qy (aF @RE (aF @g_orV (aF @JY (aF @JZ (aF @LY (aF @LZ (aF @Qo (aF @Nx (aF @g_kNV (aF @g_orT (aF @R0 (aF @Lf (aF @Lg (aF @LU (aF @O6 (aF @g_ch1 (aF @g_ch2 (aF @O7 (aF @O8 (aF @g_if (aF @Nr (aF @Nt (aF @LX (aF @HA (aF @Ef (aF @Ee (aF @g_lst (aF @g_tup (aF @HD (aF @Fx (aF @kTup0 (aF @kTup1 (aF @kTup2 (aF @kTup3 (aF @kTup4 (aF @kLst0 (aF @kLst1 (aF @kLst2 (aF @kLst3 (@Qq)))))))))))))))))))))))))))))))))))))))))))))))))))))))))))
def EV1 := aF @Qp (aF @HB (aF @g_sl (aF @g_sl0 (aF @g_sl1 (aF @g_sl2 (aF @g_noP (aF @Qn (aF @Nw (aF @g_frz (aF @g_app (aF @IE (aF @H9 (aF @JU (aF @JV (aF @JX (aF @JW (aF @Qi (aF @g_ret (aF @Qz (aF @RD (aF @O2 (aF @PN (aF @Li (aF @Lj (aF @PP (aF @R6 (aF @O4 (aF @O3 (aF @g_for (aF @R5 (aF @Qx (aF @Qk (aF @Lp (aF @Lo (aF @Ql (aF @Nj (aF @RC (aF @O1 (aF @Qc (aF @Fq (aF @Gz (aF @H7 (aF @RF (aF @Qg (aF @g_ltI (aF @g_leI (aF @g_gtI (aF @g_geI (aF @g_eqI (aF @g_neI (aF @g_eqS (aF @g_neS (aF @g_eqB (aF @g_neB (aF @g_neg (aF @R7 (aF @R8 (aF @Qu (@Qv)))))))))))))))))))))))))))))))))))))))))))))))))))))))))))
def EV2 := aF @Fw (aF @PB (aF @Qe (aF @Qf (aF @Fu (aF @Fv (aF @g_slT (aF @g_slL (aF @g_slS (aF @Nn (aF @Nm (aF @Fs (aF @Nk (aF @LW (aF @Jb (aF @Ja (aF @Qj (aF @Nu (aF @Qt (aF @Qs (aF @Lh (aF @DN (aF @O0 (aF @Qd (aF @Ft (aF @H8 (aF @mE (aF @xV (aF @OG (aF @OF (aF @OE (aF @OD (aF @OC (aF @OB (aF @OA (aF @O9 (aF @Lw (aF @Lv (aF @Lu (aF @Ls (aF @Qm (aF @Nv (aF @Qr (aF @R9 (aF @g_inO (aF @OI (aF @Lq (aF @O5 (aF @Ll (aF @g_lcC (aF @R1 (aF @OH (aF @Ln (aF @IF (aF @DK (aF @DL (@tR))))))))))))))))))))))))))))))))))))))))))))))))))))))))
end PH
local macro_rules
 | `(tactic| simp! [$xs,*] $[$l:location]?) => `(tactic| simp (config := { implicitDefEqProofs := false }) only [$xs,*, PH.EV0, PH.EV1, PH.EV2, bM, cE, Bool.not_true, Bool.not_false, eq_self, if_true, if_false, Bool.true_or, Bool.false_or, Bool.or_true, Bool.or_false, nP, zK, Ey, Bool.false_and, cP, bB, dQ, beq_self_eq_true, Bool.false_eq_true, PH.lk, PH.isTy, PH.fIsi, PH.fIsi2, PH.kindOf, PH.wipeE, decide_true, decide_false, Int.reduceEq, Int.reduceLT, Int.reduceLE, Int.reduceSub, Int.reduceAdd, Int.reduceNeg, Int.reduceToNat, Int.reduceNe, Nat.reduceAdd, Nat.reduceLT, Nat.reduceLeDiff, String.reduceEq, String.reduceBEq] $[$l:location]?)
namespace PH
open PySem PySem.Spec PyProof.Rows L2
section
variable {X : Cx} {W : WX} {e a b c o i : Expr} {es rest : List Expr} {pos pos' p q p2 tpos apos cpos : Pos} {x y z C f : Str} {K : aD} {ma mb mc mo me mi mv : FE} {mt mu : FT} {mas : FA} {B : Addr -> Prop} {φ φ' : List Addr} {S S' : aN} {H H' : Hp} {σ : L2.St} {Q : VK} {m n : FS} {st : Stmt} {wX : List Stmt} {D : Ends} {t t1 : Tg}
def CW (x y z : Vl) (S : aN) : Res Vl := match x, y, z with
 | .cel n, .dat (.int k), .dat d => (match S[n]? with
  | some (.lst ds) => if ds.length < sizeLine /\ 0 <= k /\ k < 2 ^ 63 then .ok (.dat .non) (S.set n (.lst (ds.take k.toNat ++ [d] ++ ds.drop k.toNat))) else .stuck
  | _ => .stuck)
 | _, _, _ => .stuck
def Q5 (a i b : FE) : FE := fun ρ S => (a ρ S).bind fun x S1 => match jE S1 x with
 | some _ => (i ρ S1).bind fun y S2 => (b ρ S2).bind fun z S3 => CW x y z S3
 | none => .stuck
theorem f_ins (ha : PE X a (cO X.K W ma)) (hi : PE X i (cO X.K W mi)) (hb : PE X b (cO X.K W mb)) (hs : starEach [i, b] X.env = (false, eval i X.env) :: starEach [b] X.env := by rfl) (hs2 : starEach [b] X.env = (false, eval b X.env) :: starEach [] X.env := by rfl) (hbase : attributeBase a "insert" X.env (eval a X.env) = eval a X.env := by rfl) (hline : (apos.endLine == cpos.line) = true := by rfl)
  (hfew : ((backTo cpos (starEach [i, b] X.env)).all (fun x => !x.1) && (backToKw cpos (keywordEach [] X.env)).all (fun x => x.1.isSome)
   && decide ([i, b].length + ([] : List Keyword).length + (if ([] : List Keyword).isEmpty then 0 else 1) < 30)) = true := by rfl)
  (hpl : (backTo cpos (starEach [b] X.env)).any (·.1) = false := by rfl) : PE X (.Call (.Attribute a "insert" apos) [i, b] [] cpos) (cO X.K W (Q5 ma mi mb)) :=
 dF (pe_bm PySem.F.plainAttrs_list PySem.F.slot_list_insert PySem.F.type_list_insert mt_insert ha (pa_cons hi (pa_cons hb pa_nil hs2) hs) hbase hfew hline hs hpl) fun σ H Q h =>
  bV (k := fun x ρ S1 => match jE S1 x with | some _ => (mi ρ S1).bind fun y S2 => (mb ρ S2).bind fun z S3 => CW x y z S3 | none => .stuck) h fun B φ S ρ d v H1 I E r f => by
   split at f
   ·rename_i ds q
    refine ⟨HK (e := d) I r ⟨ds, q⟩, fC (k := fun y S2 => (mb ρ S2).bind fun z S3 => CW d y z S3) I E f fun φ' S' d2 v2 H2 I2 X2 E2 r2 f2 => fC (k := fun z S3 => CW d d2 z S3) I2 E2 f2 fun φ3 S3 d3 v3 H3 I3 X3 E3 r3 f3 => ?_⟩
    have r' := (r.ext X2 I).ext X3 I2;have r2' := r2.ext X3 I2;unfold CW at f3;split at f3
    ·rename_i n k d
     obtain ⟨a, rfl, h1⟩ := r';obtain rfl : v2 = .int k := r2';split at f3
     ·rename_i ds q
      obtain ⟨vs, h2, l⟩ := I3.ok n _ a q h1;split at f3
      ·rename_i hc
       exact ⟨a, vs, k, v3, rfl, rfl, h2, by rw [l.len]; exact hc.1, hc.2.1, hc.2.2, yO (v := .non) (v' := .non) (d' := .dat .non) (vs := vs) I3 q h1 (((l.take _).snoc r3).append (l.drop _)) rfl f3⟩
      ·exact f3.elim
     ·exact f3.elim
    ·exact f3.elim
   ·exact f.elim
end
def I6 (b : FE) (ρ : Ev) (x y : Vl) (S : aN) : Res Vl := (b ρ S).bind (CW x y)
def I7 (i b : FE) (ρ : Ev) (x : Vl) (S : aN) : Res Vl := match jE S x with
 | some _ => (i ρ S).bind (I6 b ρ x)
 | none => .stuck
theorem g_ins {a i b : FE} {ρ : Ev} {S : aN} : Q5 a i b ρ S = (a ρ S).bind (I7 i b ρ) := rfl
theorem Nz {i b : FE} {ρ : Ev} {S : aN} {n : Nat} {ds : List D} (h : S[n]? = some (.lst ds)) : I7 i b ρ (.cel n) S = (i ρ S).bind (I6 b ρ (.cel n)) := by
 unfold I7 jE;simp only [h]
theorem Ny {b : FE} {ρ : Ev} {S : aN} {x y : Vl} : I6 b ρ x y S = (b ρ S).bind (CW x y) := rfl
theorem RA {S : aN} {n k : Nat} {ds : List D} {d : D} (h : S[n]? = some (.lst ds)) (hl : ds.length < sizeLine) (hk : k <= 1000000) : CW (.cel n) (.dat (.int (k : Int))) (.dat d) S = .ok (.dat .non) (S.set n (.lst (ds.take k ++ [d] ++ ds.drop k))) := by
 unfold CW;simp only [h];rw [if_pos ⟨hl, by omega, by omega⟩, mK]
section
variable {X : Cx} {W : WX} {e a b c o i : Expr} {es rest : List Expr} {pos pos' p q p2 tpos apos cpos : Pos} {x y z C f : Str} {K : aD} {ma mb mc mo me mi mv : FE} {mt mu : FT} {mas : FA} {B : Addr -> Prop} {φ φ' : List Addr} {S S' : aN} {H H' : Hp} {σ : L2.St} {Q : VK} {m n : FS} {st : Stmt} {wX : List Stmt} {D : Ends} {t t1 : Tg}
def lvL (S : aN) : Vl -> Option (List Vl)
 | .cel n => match S[n]? with
  | some (.lv xs) => some xs
  | _ => none
 | _ => none
def Je (x y : Vl) (S : aN) : Res Vl := match lvL S x, y with
 | some xs, .dat (.int i) => (match atI xs i with
  | some d => .ok d S
  | none => .stuck)
 | _, _ => .stuck
def fLenV (x : Vl) (S : aN) : Res Vl := match lvL S x with
 | some xs => .ok (.dat (.int xs.length)) S
 | none => .stuck
def fAppV (x y : Vl) (S : aN) : Res Vl := match x with
 | .cel n => (match S[n]? with
  | some (.lv ds) => if ds.length < sizeLine then .ok (.dat .non) (S.set n (.lv (ds ++ [y]))) else .stuck
  | _ => .stuck)
 | _ => .stuck
def Ov (a b : FE) : FE := fun ρ S => (a ρ S).bind fun x S1 => match lvL S1 x with
 | some _ => (b ρ S1).bind fun y S2 => fAppV x y S2
 | none => .stuck
end
def isNone {α : Type} : Option α -> Bool
 | none => true
 | some _ => false
section
variable {X : Cx} {C : Str} {md : FD} {j k : Nat} {ps : List Str} {K : aD} {mn : Str}
theorem HH {Q : Value -> Shared -> Prop} {z : L2.V} {u : Value} {s : Shared} (r : RelV z u) (q : Q u s) : PySem.W.CmpBack Q u s := by
 cases z with
 | non => cases r; exact q
 | bl b => cases r; exact q
 | int i => obtain ⟨t, rfl⟩ := r; exact q
 | str i => obtain ⟨t, rfl⟩ := r; exact q
 | byt i => obtain ⟨t, rfl⟩ := r; exact q
 | flt i => obtain ⟨t, rfl⟩ := r; exact q
 | ref a => cases r; exact q
 | ty n => cases r; exact q
def Oo (r : Res Vl) : Res Vl := match r with
 | .ok d S => .ok d S
 | _ => .stuck
end
section
variable {X : Cx} {W : WX} {e a b c o i f : Expr} {es rest : List Expr} {pos pos' p q p2 tpos apos cpos : Pos} {x y z C : Str} {K : aD} {ma mb mc mo me mi mv mf : FE} {mt mu : FT} {mas : FA} {B : Addr -> Prop} {φ φ' : List Addr} {S S' : aN} {H H' : Hp} {σ : L2.St} {Q : VK} {m n : FS} {st : Stmt} {wX : List Stmt} {D : Ends} {t t1 : Tg}
def setV (x : Vl) (k : Int) (d : Vl) (S : aN) : Option aN := match x with
 | .cel n => (match S[n]? with
  | some (.lv ds) => if 0 <= k /\ k.toNat < ds.length then some (S.set n (.lv (ds.set k.toNat d))) else none
  | _ => none)
 | _ => none
def mSetIV (a o i : FE) : FS := fun ρ S => (a ρ S).toS ρ fun v S1 => (o ρ S1).toS ρ fun x S2 => (i ρ S2).toS ρ fun k S3 => match k with
 | .dat (.int k) => (match setV x k v S3 with
  | some S4 => .next ρ S4
  | none => .stuck)
 | _ => .stuck
def Ow : List (Int × Int) -> List Vl -> Int × Int -> Option Vl
 | k' :: ks, x :: xs, k => if k' = k then some x else Ow ks xs k
 | _, _, _ => none
def dktL (S : aN) : Vl -> Option (List (Int × Int) × List Vl)
 | .cel n => match S[n]? with
  | some (.dkt ks xs) => if ks.length = xs.length /\ ks.length < 1000000 then some (ks, xs) else none
  | _ => none
 | _ => none
def fDGetT (x y : Vl) (S : aN) : Res Vl := match dktL S x, y with
 | some (ks, xs), .dat (.tup [.int j, .int k]) => (match Ow ks xs (j, k) with
  | some d => .ok d S
  | none => .stuck)
 | _, _ => .stuck
def QF (x y : Vl) (S : aN) : Res (List PH.D) := match x, y with
 | .dat (.tup ds), .dat (.tup es) => .ok (Ig ds es) S
 | _, _ => .stuck
def QG (b : FE) (ρ : Ev) (x : Vl) (S : aN) : Res (List PH.D) := (b ρ S).bind (QF x)
def mZipT (a b : FE) : FI := fun ρ S => (a ρ S).bind (QG b ρ)
end
section
variable {K : aD} {Bk : Addr -> Prop} {H : Hp}
theorem RepL.rep {ds : List PH.D} {vs : List L2.V} (h : RepL K Bk H ds vs) : ∀ n : Nat, RepL K Bk H (bR n ds).flatten (bR n vs).flatten
 | 0 => rfl
 | n + 1 => by
  rw [K0, K0, List.flatten_cons, List.flatten_cons];exact h.append (RepL.rep h n)
end
def IL (x y : Vl) (S : aN) : Res Vl := match x, y with
 | .dat (.lst xs), .dat (.int k) => if 0 <= k /\ k < 1000000 /\ xs.length * k.toNat <= sizeLine then .ok (.dat (.lst (bR k.toNat xs).flatten)) S else .stuck
 | _, _ => .stuck
theorem s_rep {K : aD} : gN K rRep IL := fun {W σ B φ S H x y d e Q} I r1 r2 f => by
 unfold IL at f;split at f
 ·rename_i xs k
  split at f
  ·rename_i h
   obtain ⟨a, vs, rfl, nb, h1, l⟩ := r1;cases r2;refine ⟨a, k, vs, rfl, rfl, h1, by omega, by omega, by rw [l.len]; exact h.2.2, fun p hp => ?_⟩
   exact f φ _ _ (I.new hp) (Ext.new I hp) ⟨p, _, rfl, I.nblk hp, upd_same, (Ext.new I hp).repL I (l.rep _)⟩
  ·exact f.elim
 ·exact f.elim
abbrev MU := Ev -> aN -> Res (List PH.D)
abbrev FDG := List Vl -> aN -> Res (List PH.D)
section
variable {X : Cx} {W : WX} {e a : Expr} {es : List Expr} {rest wX : List Stmt} {st : Stmt} {pos p yp : Pos} {x kw : Str} {K : aD} {ma me : FE} {mas : FA} {B : Addr -> Prop} {φ φ' : List Addr} {S S' : aN} {H H' : Hp} {σ : L2.St} {Q : VK} {m : FS} {n : MU}
def kYf (x : Vl) (S : aN) : Res (List PH.D) := match x with
 | .dat (.lst zs) => if zs.length <= 1000000 then .ok zs S else .stuck
 | _ => .stuck
def mYf (me : FE) : MU := fun ρ S => (me ρ S).bind kYf
def runG (n np : Nat) (mb : MU) : FDG := fun ds S => if ds.length = np then mb (envOf n ds) S else .stuck
end
section
variable {ρ : Ev} {S : aN} {m : FS} {n : MU} {me ma : FE} {mas : FA} {md : FDG}
theorem g_yf : mYf me ρ S = (me ρ S).bind kYf := rfl
end
end PH
namespace L2
open PySem PySem.Spec PyProof.Rows GenW
abbrev EndP := End -> Shared -> Prop
def GTurn (M : Model) (A : Around) (F : EndP) (c : Code) (t : Sem PySem.Fin) (fs : List Frame) (s : Shared) : Prop :=
 ∀ Γ p, Γ.code = c -> Γ.Woken A -> ∃ e s', Runs M Γ p t fs s e s' /\ F e s'
def KB (it : Addr) (s s' : Shared) : Prop := s'.os = s.os /\ s'.gens = s.gens /\ ∀ b o, b ≠ it -> s.heap.get? b = some o -> s'.heap.get? b = some o
def FR (M : Model) (A : Around) (it a : Addr) (its : Array Value) : Nat -> Shared -> EndP
 | 0, s => fun e s' => e = .ret (.ok (.ret .none)) /\ KB it s s'
 | r + 1, s => fun e s' => match e with
  | .ret _ => False
  | .susp v g l k c p fs => (End.susp v g l k c p fs).quiet = true /\ its[its.size - (r + 1)]? = some v /\ KB it s s' /\ s'.heap.get? it = some (GNX.itObj a (its.size - r)) /\
    ∀ s'' : Shared, s''.heap.get? it = some (GNX.itObj a (its.size - r)) -> s''.heap.IsList a its -> GTurn M A (FR M A it a its r s'') c (k (.send .none)) fs s''
abbrev TQ := Addr -> List V -> Hp -> Prop
end L2
namespace PH
open PySem PySem.Spec PyProof.Rows L2
section
variable {X : Cx} {W : WX} {e a : Expr} {es : List Expr} {rest wX : List Stmt} {st : Stmt} {pos p yp : Pos} {x kw : Str} {K : aD} {ma me : FE} {mas : FA} {B : Addr -> Prop} {φ φ' : List Addr} {S S' : aN} {H H' : Hp} {σ : L2.St} {Q : TQ} {m : FS} {n : MU} {D : Ends} {EX : XK}
def L3 (n : MU) (o : Out) : Res (List PH.D) := match o with
 | .next ρ' S' => n ρ' S'
 | .err e _ S' => .err e S'
 | _ => .stuck
def Hs (m : FS) (n : MU) : MU := fun ρ S => L3 n (m ρ S)
end
section
variable {ρ : Ev} {S : aN} {m : FS} {n : MU} {me ma : FE} {mas : FA} {md : FDG} {cs : List Str} {ix il nn : Nat}
theorem Qb : Hs m n ρ S = L3 n (m ρ S) := rfl
end
end PH
namespace L2
open PySem PySem.Spec PyProof.Rows
abbrev HV := Value × Option Nat × (Addr -> Value -> Option Addr -> TS)
def Ends.gone (D : Ends) (i : Nat) : Ends := { nx := fun σ H => D.nx (σ.set i none) H, rt := D.rt, bk := fun σ H => D.bk (σ.set i none) H, ct := fun σ H => D.ct (σ.set i none) H }
def wishA (ts : Addr -> Value -> Option Addr -> TS) (o : Option Nat) (D : Ends) (a : Addr) (cls : Value) (d : Option Addr) (σ : St) (H : Hp) : Prop := match o with
 | none => ts a cls d D σ H
 | some i => ts a cls d (D.gone i) (σ.set i (some (.ref a))) H
def zM (K : aD) (Wout : WX) (D : Ends) : List HV -> WX
 | [] => Wout
 | z :: r => fun cls d σ H => ∃ b, CL K cls z.1 = some b /\ (b = true -> ∀ a, H a = none -> wishA z.2.2 z.2.1 D a cls d σ H) /\ (b = false -> zM K Wout D r cls d σ H)
inductive HdsA (X : Cx) : List ExceptHandler -> List HV -> Prop
 | nil : HdsA X [] []
 | cons {x : Str} {c : Value} {ts : Addr -> Value -> Option Addr -> TS} {b₀ : Stmt} {suite : List Stmt} {np pos' : Pos} {hds : List ExceptHandler} {l : List HV} (hc : Names X x c)
   (hsu : ∀ (a : Addr) (oe : Obj) (cls : Value) (d : Option Addr) (pn : List (Addr × Obj)), Zc cls d oe -> (∃ vs, oe.data = .fields vs) -> PSs (X.suite a ((a, oe) :: pn)) (b₀ :: suite) (ts a cls d)) (r : HdsA X hds l) :
   HdsA X (.ExceptHandler (some (.Name x np)) none (b₀ :: suite) pos' :: hds) ((c, none, ts) :: l)
 | consA {x n : Str} {i : Nat} {c : Value} {ts : Addr -> Value -> Option Addr -> TS} {b₀ : Stmt} {suite : List Stmt} {np pos' : Pos} {hds : List ExceptHandler} {l : List HV} (hc : Names X x c) (hN : X.N.Nodup) (hi : X.N[i]? = some n) (hln : X.env.kindOf n = some .local)
   (hsu : ∀ (a : Addr) (oe : Obj) (cls : Value) (d : Option Addr) (pn : List (Addr × Obj)), Zc cls d oe -> (∃ vs, oe.data = .fields vs) -> PSs (X.suite a ((a, oe) :: pn)) (b₀ :: suite) (ts a cls d)) (r : HdsA X hds l) :
   HdsA X (.ExceptHandler (some (.Name x np)) (some n) (b₀ :: suite) pos' :: hds) ((c, some i, ts) :: l)
section
variable {X : Cx} {body : List Stmt} {h₀ : ExceptHandler} {hds : List ExceptHandler} {l : List HV} {pos : Pos} {tb : WX -> TS} {Wout : WX}
theorem EA (hs : X.stack = X.env :: X.outer) (hf : X.env.frame = some X.env.locals) (tk : Takes X Wout)
  (hb : ∀ (W : WX) (pn : List (Addr × Obj)) (xe : Value -> Shared -> Prop), Takes (X.tr pn xe) W -> PassesOwn (model X.prog X.w) X.A X.env xe -> PSs (X.tr pn xe) body (tb W))
  (hh : HdsA X (h₀ :: hds) l) : PS X (.Try body (h₀ :: hds) [] [] pos) (fun D σ H => tb (zM X.K Wout D l) D σ H) := by
 refine ⟨fun pins s σ H D I hq => ?_⟩
 have okX := I.ok;have frm : X.A.frames = some (X.env :: X.outer) := by rw [okX.frames, hs]
 refine wpAny_Try_except ?_
 refine wpAny_mono ((hb (zM X.K Wout D l) (X.pn ++ pins) (fun x s₁ => wpAny (model X.prog X.w) X.A (noteFrame x X.env) (fun _ s₂ => wpAny (model X.prog X.w) X.A (setFlight x none) (fun _ s₃ =>
  wpAny (model X.prog X.w) X.A (handleBy x X.env (h₀ :: hds)) (SP X pins D) X.xe s₃) X.xe s₂) X.xe s₁) (fun u s' xx => ?_) PassesOwn.looking).run [] s σ H D (I.toTry _) hq) (fun fl s1 hsp => ?_) (fun _ _ z => z)
 ·obtain ⟨ea, G, sI, pinT, σT, HT, cls, ed, rfl, JT, keepG, upT, skyT, noneA, osT, bareT, wish⟩ := xx
  have JI : Inv X pins σT HT sI := JT.ofTry okX;have skyE : Sky G (X.env :: X.outer) ea (Zc cls ed) X.env.locals s'.heap := by rw [<- hs]; exact skyT
  show wpAny (model X.prog X.w) X.A (noteFrame (.ref ea) X.env) _ _ _
  refine Sky.land Zc.steady frm hf skyE fun hA flA upA => ?_
  have JA : Inv X pins σT HT { s' with heap := hA } := JI.landed keepG flA.1 (upT.trans upA) osT bareT
  obtain ⟨oA, vA, atA, zA, dA⟩ := flA.there;have ea_fr : ea ∉ frs (X.env :: X.outer) := fun hm => by
   obtain ⟨_, o', e', hnf⟩ := flA.2.2.1.mem hm;rw [atA] at e'; cases e';exact hnf _ dA
  have ea_L : ea ≠ X.env.locals := fun z => ea_fr (AH.mpr ⟨X.env, bD, by rw [hf, z]⟩)
  have ea_F : ea ∉ X.fs := fun hm => by
   obtain ⟨e1, he1, q1⟩ := AH.mp hm;exact ea_fr (AH.mpr ⟨e1, aU _ he1, q1⟩)
  have SA := JA.suite atA dA noneA ea_L ea_F;have tested : ∀ {x : Str} {c : Value} {np : Pos} (hc : Names X x c) {Q : Value -> Shared -> Prop} {E : Value -> Shared -> Prop}, Q c { s' with heap := hA } -> wpAny (model X.prog X.w) (X.A.mark (some (.ref ea))) (eval (.Name x np) X.env) Q E { s' with heap := hA } := fun {x c np} hc {Q E} q => by
   obtain ⟨hg, hdbg, hm | ⟨hm, hv, hnn⟩⟩ := hc
   ·exact ld_glob (X := X.suite ea ((ea, oA) :: (X.pn ++ pins))) SA hg hm q hdbg
   ·exact ld_blt (X := X.suite ea ((ea, oA) :: (X.pn ++ pins))) SA hg hm hv q hnn hdbg
  have lookA : PySem.W.Looks (model X.prog X.w) hA (typeOf (.ref ea)) cls := fun A Q E s k q => wpAny_typeOf_ref (k _ _ atA) (by rw [zA.1]; exact q)
  have clauses : ∀ {hds' : List ExceptHandler} {l' : List HV}, HdsA X hds' l' -> zM X.K Wout D l' cls ed σT HT -> wpAny (model X.prog X.w) X.A (handleBy (.ref ea) X.env hds') (SP X pins D) X.xe { s' with heap := hA } := by
   intro hds' l' hk
   induction hk with
   | nil =>
    intro w;refine wpAny_handleBy_nil ?_
    obtain ⟨_, _, _, oB, vB, T, oT, tB, atB, zB, dB, h1B, _⟩ := id flA;unfold PySem.passOn;refine wpAny_bind (wpAny_field atB dB h1B ?_)
    rw [if_neg (show ¬ ((Value.ref T == Value.none) = true) from by simp)]
    have on : wpAny (model X.prog X.w) X.A (setFlight (.ref ea) X.env.frame) (fun _ sB => wpAny (model X.prog X.w) X.A (throw (.ref ea) : Sem Flow) (SP X pins D) X.xe sB) X.xe { s' with heap := hA } := by
     rw [hf];refine HandSPX.setFlight_upZ flA fun hB landB upB => wpAny_throw (tk _ _ ?_)
     exact ⟨ea, G, sI, pins, σT, HT, cls, ed, rfl, JI, keepG, (upT.trans upA).trans upB, .inr (.inr (by rw [hs]; exact landB)), noneA, osT, bareT, w⟩
    first
     | exact wpAny_bind (wpAny_pure (wpAny_bind on))
     | exact wpAny_bind on
   | @cons x c ts b₀ suite np pos' hds2 l2 hc hsu r ih =>
    intro w;obtain ⟨b, hb1, hyes, hno⟩ := w;refine wpAny_handleBy_cons (codeAny_handlers_test (tested hc ((PySem.W.exm_one (M := model X.prog X.w) JA.kIn lookA hb1).here ?_))) (by intro q; cases q)
    cases b with
    | true =>
     refine codeAny_handlers_suite (HandSPX.lands_againZ flA fun hB flB upB => ?_)
     obtain ⟨oB, vB, atB, zB, dB⟩ := flB.there;have JB : Inv X pins σT HT { s' with heap := hB } := JI.landed keepG flB.1 ((upT.trans upA).trans upB) osT bareT
     have SB := JB.suite atB dB noneA ea_L ea_F;refine wpAny_mono ((hsu ea oB cls ed (X.pn ++ pins) zB ⟨_, dB⟩).run [] _ _ HT _ SB (hyes rfl ea noneA)) (fun fl s6 hsp => ?_) (fun _ _ z => False.elim z)
     cases fl with
     | next => obtain ⟨σ6, H6, S6, q6⟩ := hsp; exact ⟨_, _, S6.unsuite okX, q6⟩
     | brk => obtain ⟨σ6, H6, S6, q6⟩ := hsp; exact ⟨_, _, S6.unsuite okX, q6⟩
     | cont => obtain ⟨σ6, H6, S6, q6⟩ := hsp; exact ⟨_, _, S6.unsuite okX, q6⟩
     | ret u => obtain ⟨v6, σ6, H6, S6, r6, q6⟩ := hsp; exact ⟨_, _, _, S6.unsuite okX, r6, q6⟩
    | false => exact ih (hno rfl)
   | @consA x n i c ts b₀ suite np pos' hds2 l2 hc hN hi hln hsu r ih =>
    intro w;obtain ⟨b, hb1, hyes, hno⟩ := w;refine wpAny_handleBy_cons (codeAny_handlers_test (tested hc ((PySem.W.exm_one (M := model X.prog X.w) JA.kIn lookA hb1).here ?_))) (by intro q; cases q)
    cases b with
    | true =>
     refine codeAny_handlers_suite_as (HandSPX.lands_againZ flA fun hB flB upB => ?_)
     obtain ⟨oB, vB, atB, zB, dB⟩ := flB.there;have JB : Inv X pins σT HT { s' with heap := hB } := JI.landed keepG flB.1 ((upT.trans upA).trans upB) osT bareT
     have SB := JB.suite atB dB noneA ea_L ea_F;refine store_ok (X := X.suite ea ((ea, oB) :: (X.pn ++ pins))) (v := .ref ea) SB hN hi (.inl hln) rfl (fun s5 S5 => ?_) (.inr hln)
     refine wpAny_mono ((hsu ea oB cls ed (X.pn ++ pins) zB ⟨_, dB⟩).run [] s5 _ HT _ S5 (hyes rfl ea noneA)) (fun fl s6 hsp => ?_) (fun _ _ z => False.elim z)
     have unbound : ∀ {σ6 : St} {H6 : Hp} {Q : Shared -> Prop}, Inv (X.suite ea ((ea, oB) :: (X.pn ++ pins))) [] σ6 H6 s6 -> (∀ s7, Inv X pins (σ6.set i none) H6 s7 -> Q s7) ->
       wpAny (model X.prog X.w) X.A (do bindName X.env n .none; unbindBehindTheSuite X.env n pos') (fun _ s7 => Q s7) X.xe s6 := fun {σ6 H6 Q} S6 hq => gone_ok (S6.unsuite okX) hN hi hln hq
     cases fl with
     | next => obtain ⟨σ6, H6, S6, q6⟩ := hsp; exact unbound S6 fun s7 J7 => ⟨_, _, J7, q6⟩
     | brk => obtain ⟨σ6, H6, S6, q6⟩ := hsp; exact unbound S6 fun s7 J7 => ⟨_, _, J7, q6⟩
     | cont => obtain ⟨σ6, H6, S6, q6⟩ := hsp; exact unbound S6 fun s7 J7 => ⟨_, _, J7, q6⟩
     | ret u => obtain ⟨v6, σ6, H6, S6, r6, q6⟩ := hsp; exact unbound S6 fun s7 J7 => ⟨_, _, _, J7, r6, q6⟩
    | false => exact ih (hno rfl)
  exact clauses hh wish
 ·cases fl with
  | next => obtain ⟨σ1, H1, J1, q1⟩ := hsp; exact wpAny_execs_nil ⟨σ1, H1, J1.ofTry okX, q1⟩
  | brk => obtain ⟨σ1, H1, J1, q1⟩ := hsp; exact ⟨σ1, H1, J1.ofTry okX, q1⟩
  | cont => obtain ⟨σ1, H1, J1, q1⟩ := hsp; exact ⟨σ1, H1, J1.ofTry okX, q1⟩
  | ret u => obtain ⟨v1, σ1, H1, J1, r1, q1⟩ := hsp; exact ⟨v1, σ1, H1, J1.ofTry okX, r1, q1⟩
end
end L2
namespace PH
open PySem PySem.Spec PyProof.Rows L2
inductive XJ where
 | c (v : L2.V) (d : PH.D) | f (n : Str) | v (i : Nat) | fl (n : Str) (i : Nat)
section
variable {X : Cx} {W : WX} {e : Expr} {es : List Expr} {pos : Pos} {K : aD} {B : Addr -> Prop} {φ φ' : List Addr} {S S' : aN} {H H' : Hp} {σ : L2.St} {m : FS} {D : Ends} {cs : List Str} {x : Str}
inductive HJ where
 | m (f : FS) | j (k : Nat) (its : List XJ)
theorem RepE.wipe1 {ρ : Ev} {v : L2.V} (E : RepE K B φ S H ρ σ) (k : Nat) : RepE K B φ S H (ρ.set k none) (σ.set k (some v)) := by
 refine ⟨by simp [E.1], fun i d h => ?_⟩
 by_cases e : k = i
 ·subst e
  rw [aQ, if_pos rfl] at h;split at h
  ·cases h
  ·cases h
 ·rw [aQ, if_neg e] at h ⊢
  exact E.2 i d h
end
end PH
namespace PH
open PySem PySem.Spec PyProof PyProof.Rows L2
section
variable {X : Cx} {W : WX}
theorem fI {i j pos} : PE X (.Constant (.int i) j pos) (cO X.K W (mC (.int i))) := M5 pe_int fun _ _ => rfl
theorem fS {x j pos} : PE X (.Constant (.str x) j pos) (cO X.K W (mC (.str x))) := M5 pe_str fun _ _ => rfl
theorem fB {b j pos} : PE X (.Constant (.bool b) j pos) (cO X.K W (mC (.bl b))) := M5 pe_bl fun _ _ => rfl
theorem fN {j pos} : PE X (.Constant .none j pos) (cO X.K W (mC .non)) := M5 pe_non fun _ _ => rfl
end
section
variable {P : Program} {w : World} {K : aD} {mg : Str -> Option Value} {base : Heap}
theorem hQ {x : Str} {st : Stmt} {N ps : List Str} {k : Nat} {md : FD} {mb : FS} (F : qQ K x st) (g : mg x = some (.ref (He.ga K x))) (S : FnScope N ps (defScope st)) (R : Runs md N.length ps.length mb)
  (bnd : ∀ (kV doc pm : Value) (an : Option Addr) (cdv ct : Value) (us : List Value), us.length = ps.length -> bindArgs (dP x x (defArgs st) (defBody st) (defScope st) .none kV doc pm an cdv ct) ⟨us, []⟩ = pure (ps.zip us))
  (hbody : ∀ (cdv : Value) (A : Around) (outer : List Env) (s : Shared) (H : Hp) (E : XK), Room k (A.deeper (envOfC x (defScope st) s.heap.objs.size (He.ga K x) cdv)) ->
   Takes (cxOf (L2.CX P w) P w K mg base N x (defScope st) (He.ga K x) cdv A outer s H E) (fun c x _ H => E c x H) -> N.Nodup ->
   PSs (cxOf (L2.CX P w) P w K mg base N x (defScope st) (He.ga K x) cdv A outer s H E) (defBody st) (jQ K (fun c x _ H => E c x H) mb)) : pZ P w K mg base (k + 1) x ps (spF K md) :=
 okF F g S R bnd fun cdv A outer s H E hr => hbody cdv A outer s H E hr (takes_of (X := cxOf (L2.CX P w) P w K mg base N x (defScope st) (He.ga K x) cdv A outer s H E) (E := E) rfl rfl rfl rfl) S.nd
theorem oL {C m q : Str} {st : Stmt} {N ps : List Str} {k : Nat} {md : FD} {mb : FS} (F : CK K C m q st) (g : Meth K (He.ga K C) m (He.ma K (He.ga K C) m)) (S : FnScope N ps (defScope st)) (R : Runs md N.length ps.length mb)
  (bnd : ∀ (kV doc pm : Value) (an : Option Addr) (cdv ct : Value) (us : List Value), us.length = ps.length -> bindArgs (dP m q (defArgs st) (defBody st) (defScope st) .none kV doc pm an cdv ct) ⟨us, []⟩ = pure (ps.zip us))
  (hbody : ∀ (cdv : Value) (A : Around) (outer : List Env) (s : Shared) (H : Hp) (E : XK), Room k (A.deeper (envOfC q (defScope st) s.heap.objs.size (He.ma K (He.ga K C) m) cdv)) ->
   Takes (cxOf (L2.CX P w) P w K mg base N q (defScope st) (He.ma K (He.ga K C) m) cdv A outer s H E) (fun c x _ H => E c x H) -> N.Nodup ->
   PSs (cxOf (L2.CX P w) P w K mg base N q (defScope st) (He.ma K (He.ga K C) m) cdv A outer s H E) (defBody st) (jQ K (fun c x _ H => E c x H) mb)) : OkMX P w K mg base (k + 1) C m ps (spF K md) :=
 okFM F g S R bnd fun cdv A outer s H E hr => hbody cdv A outer s H E hr (takes_of (X := cxOf (L2.CX P w) P w K mg base N q (defScope st) (He.ma K (He.ga K C) m) cdv A outer s H E) (E := E) rfl rfl rfl rfl) S.nd
end
end PH
namespace PH
open PySem PySem.Spec PyProof.Rows L2
structure XsF (K : aD) (D : Addr) : Prop where
 cl : (Dk K D).isSome = true
 hg : cQ K (.ref D) "__getattribute__" = some (some (.builtin "BaseException.__getattribute__"))
 hk : cQ K (.ref D) "__getattr__" = some none
 hs : qS K (.ref D) (.type "BaseException") = some true
 ha : cQ K (.ref D) "__class__" = some (some (.builtin "object.__class__"))
 hn : zG K (.builtin "object.__class__") "__get__" = some (some (.builtin "getset_descriptor.__get__"))
 ht : BA K (.builtin "object.__class__") = some true
 hm : PySem.W.mroIn K D (.type "object") = some true
theorem Pb {K : aD} {D : Addr} (h : xsB K D = true) : XsF K D := by
 obtain ⟨h1, h⟩ := He.ba h;obtain ⟨h2, h⟩ := He.ba h;obtain ⟨h3, h⟩ := He.ba h;obtain ⟨h4, h⟩ := He.ba h;obtain ⟨h5, h⟩ := He.ba h;obtain ⟨h6, h⟩ := He.ba h;obtain ⟨h7, h8⟩ := He.ba h;exact ⟨h1, of_decide_eq_true h2, of_decide_eq_true h3, of_decide_eq_true h4, of_decide_eq_true h5, of_decide_eq_true h6, of_decide_eq_true h7, of_decide_eq_true h8⟩
section
variable {X : Cx} {W : WX} {e : Expr} {es : List Expr} {pos : Pos} {K : aD} {B : Addr -> Prop} {φ φ' : List Addr} {S S' : aN} {H H' : Hp} {σ : L2.St} {m : FS} {D : Ends} {cs : List Str} {x : Str}
theorem RepE.unbind {ρ : Ev} (E : RepE K B φ S H ρ σ) (k : Nat) : RepE K B φ S H (ρ.set k none) (σ.set k none) := by
 refine ⟨by simp [E.1], fun i d h => ?_⟩
 by_cases e : k = i
 ·subst e
  rw [aQ, if_pos rfl] at h;split at h
  ·cases h
  ·cases h
 ·rw [aQ, if_neg e] at h ⊢
  exact E.2 i d h
end
def sO (x y : Vl) (S : aN) : Res Vl := match x, y with
 | .cel n, .dat (.int i) => (match S[n]? with
  | some (.lst ds) => if 0 <= i /\ i < 2 ^ 62 then (match ds[i.toNat]? with
   | some d => .ok (.dat d) (S.set n (.lst (ds.take i.toNat ++ ds.drop (i.toNat + 1))))
   | none => .stuck) else .stuck
  | _ => .stuck)
 | _, _ => .stuck
def Gk (a b : FE) : FE := fun ρ S => (a ρ S).bind fun x S1 => match jE S1 x with
 | some _ => (b ρ S1).bind fun y S2 => sO x y S2
 | none => .stuck
def ES (b : FE) (ρ : Ev) (x : Vl) (S1 : aN) : Res Vl := match jE S1 x with
 | some _ => (b ρ S1).bind (sO x)
 | none => .stuck
theorem Nl {a b : FE} {ρ : Ev} {S : aN} : Gk a b ρ S = (a ρ S).bind (ES b ρ) := rfl
theorem Le {b : FE} {ρ : Ev} {S : aN} {n : Nat} {ds : List PH.D} (h : S[n]? = some (.lst ds)) : ES b ρ (.cel n) S = (b ρ S).bind (sO (.cel n)) := by
 unfold ES jE;simp only [h]
theorem Lr {S : aN} {n k : Nat} {ds : List PH.D} {d : PH.D} (h : S[n]? = some (.lst ds)) (hk : k <= 1000000) (hd : ds[k]? = some d) : sO (.cel n) (.dat (.int (k : Int))) S = .ok (.dat d) (S.set n (.lst (ds.take k ++ ds.drop (k + 1)))) := by
 unfold sO;simp only [h];rw [if_pos ⟨by omega, by omega⟩, mK]
 simp only [hd]
section
variable {X : Cx} {W : WX} {a b : Expr} {ma mb : FE} {pos apos cpos : Pos}
theorem OO (ha : PE X a (cO X.K W ma)) (hb : PE X b (cO X.K W mb)) (hs : starEach [b] X.env = (false, eval b X.env) :: starEach [] X.env := by rfl) (hbase : attributeBase a "pop" X.env (eval a X.env) = eval a X.env := by rfl) (hline : (apos.endLine == cpos.line) = true := by rfl)
  (hfew : ((backTo cpos (starEach [b] X.env)).all (fun x => !x.1) && (backToKw cpos (keywordEach [] X.env)).all (fun x => x.1.isSome)
   && decide ([b].length + ([] : List Keyword).length + (if ([] : List Keyword).isEmpty then 0 else 1) < 30)) = true := by rfl)
  (hpl : (backTo cpos (starEach ([] : List Expr) X.env)).any (·.1) = false := by rfl) : PE X (.Call (.Attribute a "pop" apos) [b] [] cpos) (cO X.K W (Gk ma mb)) :=
 dF (pe_bm PySem.F.plainAttrs_list PySem.F.slot_list_pop PySem.F.type_list_pop mt_popAt ha (pa_cons hb pa_nil hs) hbase hfew hline hs hpl) fun σ H Q h =>
  bV (k := fun x ρ S1 => match jE S1 x with | some _ => (mb ρ S1).bind fun y S2 => sO x y S2 | none => .stuck) h fun B φ S ρ d v H1 I E r f => by
   split at f
   ·rename_i ds q
    refine ⟨HK (e := d) I r ⟨ds, q⟩, fC I E f fun φ' S' d2 v2 H2 I2 X2 E2 r2 f2 => ?_⟩
    have r' := r.ext X2 I;unfold sO at f2;split at f2
    ·rename_i n i
     obtain ⟨a, rfl, h1⟩ := r';obtain rfl : v2 = .int i := r2;split at f2
     ·rename_i ds2 q2
      obtain ⟨vs, h2, l⟩ := I2.ok n _ a q2 h1;split at f2
      ·rename_i hi
       split at f2
       ·rename_i z qz
        obtain ⟨v', h3, h4⟩ := l.get qz;have hlt : i.toNat < vs.length := (aJ.mp h3).1;refine ⟨a, vs, i, i.toNat, v', rfl, rfl, h2, by omega, by omega, ?_, h3, ?_⟩
        ·unfold seqIndex?
         have h0 : ¬ i < 0 := by omega
         have h2 : i < (vs.length : Int) := by omega
         simp [h0, hi.1, h2]
        ·have e : vs.eraseIdx i.toNat = vs.take i.toNat ++ vs.drop (i.toNat + 1) := List.eraseIdx_eq_take_drop_succ vs i.toNat
         rw [e];exact yO (v := .non) (d' := .dat z) (vs := vs) I2 q2 h1 ((l.take _).append (l.drop _)) h4 f2
       ·exact f2.elim
      ·exact f2.elim
     ·exact f2.elim
    ·exact f2.elim
   ·exact f.elim
end
section
variable {X : Cx} {W : WX} {C f mn : Str} {md : FD} {o i a b e : Expr} {es : List Expr} {mo mi ma mb : FE} {mas : FA} {pos p tpos : Pos} {j k : Nat} {ps : List Str} {K : aD} {B : Addr -> Prop} {φ φ' : List Addr} {S S' : aN} {H H' : Hp} {σ : L2.St} {D : Ends} {x : Str}
theorem IJ {α β : Type} {R : Rl α β} {ρ : Ev} {r : Res α} {k : α -> aN -> Out} {Q1 : β -> Hp -> Prop} (I : GInv K B φ S H) (E : RepE K B φ S H ρ σ) (f : FinS K W D B φ S H (r.toS ρ k))
  (hk : ∀ φ' S' d v H1, GInv K B φ' S' H1 -> Ext φ S H φ' S' H1 -> RepE K B φ' S' H1 ρ σ -> R B φ' S' H1 d v -> FinS K W D B φ' S' H1 (k d S') -> Q1 v H1) : Fin K W σ R B φ S H r Q1 := by
 cases r with
 | stuck => exact f
 | err x S' => exact fun φ' c d H' I' X r => f φ' σ c d H' I' X (E.ext X I) r
 | ok d S' => exact fun φ' v H' I' X r => hk φ' S' d v H' I' X (E.ext X I) r (FinS.ext f X)
structure OkPr (P : Program) (w : World) (K : aD) (mg : Str -> Option Value) (base : Heap) (k : Nat) (C f : Str) (sp : Sp) : Prop where
 ex : ∃ p g fd, PropOf K (He.ga K C) f p g /\ FnOk P w K mg base (L2.CX P w) k g fd ["self"] sp /\ Binds K fd ["self"] []
def tA (C : Str) (md : FD) (x : Vl) (S : aN) : Res Vl := if jA S C "" x = true then Oo (md [x] S) else .stuck
theorem Bz (F : OkPr X.prog X.w X.K X.mg X.base j C f (spF X.K md)) (hr : Room k X.A) (c : Cls X.K (He.ga X.K C)) (ho : PE X o (cO X.K W mo)) (hjk : j + 1 <= k := by decide)
  (hab : attributeBase o f X.env (eval o X.env) = eval o X.env := by rfl) : PE X (.Attribute o f pos) (cO X.K W (m1 (tA C md) mo)) := by
 obtain ⟨p, g, fd, hp, F, hb⟩ := F;refine ⟨fun pins s σ H Q I h => ?_⟩
 have h' : cO X.K W mo σ H fun x H1 => ∃ a dx fs, x = .ref a /\ H1 a = some (.ins (He.ga X.K C) dx fs) /\ spF X.K md [x] H1 Q E0 :=
  bV (k := fun x _ S => tA C md x S) h fun B φ S ρ d v H1 I E r f => by
   unfold tA at f;split at f
   ·rename_i hh
    obtain ⟨a, dx, fs, rfl, h1, h2⟩ := sJ I r hh;refine ⟨a, dx, fs, rfl, h1, B, φ, S, [d], I, ⟨_, _, rfl, r, rfl⟩, ?_⟩
    unfold Oo at f;split at f
    ·rename_i q
     rw [q];exact fun φ' v H' I' X' r' => f φ' v H' I' X' r'
    ·exact f.elim
   ·exact f.elim
 refine attr_of hab (thn (ho.run pins s σ H _ I h') fun u s1 ⟨x, H1, I1, rx, a, dx, fs, ex, ea, q⟩ => ?_)
 subst ex;obtain rfl : u = Value.ref a := rx;obtain ⟨mA, O, _⟩ := ins_get I1.hok ea;obtain ⟨od, J, _⟩ := O.look;obtain ⟨rest, hrec⟩ := hp.rec_;have I2 := I1.tok (s1.toks + 1);have hr' : Room (j + 1) X.A := hr.mono hjk;have b1 := hb { s1 with toks := s1.toks + 1 } [.ref a] I2.kIn rfl
 have hc : (Dk X.K (He.ga X.K C)).isSome = true := by
  obtain ⟨cd, hc, _⟩ := PySem.W.any_some c.hd;rw [hc];rfl
 refine PySem.W.get_bind I1.kIn J (HZ (c.get f)).1 (PySem.W.findObj_data hc hp.at_ hp.get hp.tak) (HZ (c.get f)).2 (wpAny_call (PySem.W.prop_get (s := { s1 with toks := s1.toks + 1 }) I1.kIn hrec ?_))
 refine codeAny_mono (F.run X.A.in1 X.stack { s1 with toks := s1.toks + 1 } H1 ⟨[.ref a], []⟩ [.ref a] [.ref a] Q E0 hr'.in1 I2.env0.in1 (by simpa using b1) (.cons rfl .nil) q) fun r s' hq => ?_
 cases r with
 | error er => obtain ⟨_, _, _, _, _, _, _, _, _, _, _, _, z⟩ := hq; exact z.elim
 | ok fl =>
  cases fl with
  | ret u =>
   obtain ⟨v, H', I3, rv, q3⟩ := I2.after hq
   show wpAny _ _ (handedOut u) _ _ _
   rw [PySem.W.handedOut_of (handed_of rv)];exact wpAny_pure ⟨v, H', I3, rv, q3⟩
  | next => exact False.elim hq
  | brk => exact False.elim hq
  | cont => exact False.elim hq
theorem setItem_K {M : Model} {A : Around} {E : Value -> Shared -> Prop} {s : Shared} {x C L f : Addr} {h₀ : Heap} {m : Str -> Option Value} {ox : Obj} {od : Option Obj} {v u : Value} {Q : Unit -> Shared -> Prop} (F : PyProof.Rows.Fr h₀ L s.heap m) (X₀ : K.In h₀) (I : CN s.heap x ox C od) (hq : qT K C = true) (hs : cQ K (.ref C) "__setitem__" = some (some (.ref f))) (hf : PySem.W.isFn K (.ref f) = true)
  (h : wpAny M A (call (.ref f) [.ref x, v, u]) (fun _ s' => Q () s') E s) : wpAny M A (setItem (.ref x) v u) Q E s := by
 have X := X₀.keeps F.keep;unfold setItem sequenceKey;refine wpAny_holding (wpAny_bind (wpAny_bind (I.type.here ?_)))
 refine wpAny_bind ((PySem.W.anyM_none X hq).here ?_)
 rw [if_pos (show (!false) = true from rfl)]
 exact wpAny_pure (wpAny_bind (PySem.W.special_fn X I hs (beq_iff_eq.mp hf) (wpAny_mono h (fun _ _ z => wpAny_pure z) fun _ _ z => z)))
def gSetO (W : WX) (K : aD) (C : Str) (md : FD) (to ti : TE) : TG := fun v σ H Q => to σ H fun x H1 => ti σ H1 fun y H2 => ∃ a dx fs, x = .ref a /\ H2 a = some (.ins (He.ga K C) dx fs) /\ spF K md [x, y, v] H2 (fun _ H3 => Q σ H3) (WE W σ)
theorem N2 {to ti : TE} (F : OkMX X.prog X.w X.K X.mg X.base j C "__setitem__" ps (spF X.K md)) (hr : Room k X.A) (tk : Takes X W) (nq : qT X.K (He.ga X.K C) = true) (ho : PE X o to) (hi : PE X i ti) (hjk : j <= k := by decide)
  (hz : ∀ v, assign (.Subscript o i pos) X.env v = (do
   let ov <- holding [v] (eval o X.env)
   let iv <- holding [v, ov] (eval i X.env)
   standAt pos
   holding [v, ov, iv] (setItem ov iv v)
   release [v, ov, iv] []) := by intro _; rfl) : PG X (.Subscript o i pos) (gSetO W X.K C md to ti) := by
 obtain ⟨⟨fd, F, hb⟩, mt⟩ := F;refine ⟨fun pins s σ H v u Q I r h => ?_⟩
 rw [hz];refine wpAny_bind (wpAny_holding (thn (ho.run pins s σ H _ I h) fun ov s1 ⟨x, H1, I1, r1, q1⟩ => ?_))
 refine wpAny_bind (wpAny_holding (thn (hi.run pins s1 σ H1 _ I1 q1) fun iv s2 ⟨y, H2, I2, r2, q2⟩ => ?_))
 obtain ⟨a, dx, fs, rfl, ea, q⟩ := q2;cases r1;refine wpAny_bind (wpAny_standAt (wpAny_bind (wpAny_holding ?_)))
 obtain ⟨mA, O, _⟩ := ins_get I2.hok ea;obtain ⟨od, J, _⟩ := O.look;obtain ⟨fm, hF⟩ := I2.fr;have e := I2.env0;have hl := F.len _ _ _ _ q;have b1 := hb s2 [.ref a, iv, u] I2.kIn (by simpa using hl)
 have run := F.run X.A X.stack s2 H2 ⟨[.ref a, iv, u], []⟩ [.ref a, iv, u] [.ref a, y, v] _ (WE W σ) (hr.mono hjk) e (by simpa using b1) (.cons rfl (.cons r2 (.cons r .nil))) q
 refine setItem_K hF I2.ok.mod.kin J nq mt.at_ mt.fn (wpAny_call (codeAny_mono run fun rr s' hq => ?_))
 cases rr with
 | error er => exact passAt tk σ pins H2 s2 er s' I2 hq
 | ok fl =>
  cases fl with
  | ret w =>
   obtain ⟨z, H3, I3, rz, hz⟩ := I2.after hq;exact wpAny_release ⟨σ, H3, I3, hz⟩
  | next => exact False.elim hq
  | brk => exact False.elim hq
  | cont => exact False.elim hq
def uH (C : Str) (md : FD) (ρ : Ev) (v x k : Vl) (S : aN) : Out := if jA S C "" x = true then (md [x, k, v] S).toS ρ fun _ S4 => .next ρ S4 else .stuck
def Cy (C : Str) (md : FD) (a o i : FE) : FS := fun ρ S => (a ρ S).toS ρ fun v S1 => (o ρ S1).toS ρ fun x S2 => (i ρ S2).toS ρ fun k S3 => uH C md ρ v x k S3
theorem OM (F : OkMX X.prog X.w X.K X.mg X.base j C "__setitem__" ps (spF X.K md)) (hr : Room k X.A) (tk : Takes X W) (nq : qT X.K (He.ga X.K C) = true) (ha : PE X a (cO X.K W ma)) (ho : PE X o (cO X.K W mo)) (hi : PE X i (cO X.K W mi)) (hjk : j <= k := by decide) (hs : swapsWithSole [.Subscript o i tpos] a pos.line X.env = pure false := by rfl) (hw : swappedStores [.Subscript o i tpos] a X.env = pure none := by rfl)
  (h1 : (assignEach [.Subscript o i tpos] X.env).map (·.2) = [assign (.Subscript o i tpos) X.env] := by rfl)
  (hz : ∀ v, assign (.Subscript o i tpos) X.env v = (do
   let ov <- holding [v] (eval o X.env)
   let iv <- holding [v, ov] (eval i X.env)
   standAt tpos
   holding [v, ov, iv] (setItem ov iv v)
   release [v, ov, iv] []) := by intro _; rfl) : PS X (.Assign [.Subscript o i tpos] a pos) (jQ X.K W (Cy C md ma mo mi)) := fX (ps_asg ha (N2 F hr tk nq ho hi hjk hz) hs hw h1) fun D σ H h => by
 obtain ⟨B, φ, S, ρ, I, E, f⟩ := h;refine cD I E f fun φ1 S1 d1 v1 H1 I1 X1 E1 r1 f1 => cD I1 E1 f1 fun φ2 S2 d2 v2 H2 I2 X2 E2 r2 f2 => cD I2 E2 f2 fun φ3 S3 d3 v3 H3 I3 X3 E3 r3 f3 => ?_
 unfold uH at f3;split at f3
 ·rename_i hh
  have r2' := r2.ext X3 I2;have r1' := (r1.ext X2 I1).ext X3 I2;obtain ⟨a, dx, fs, rfl, e1, e2⟩ := sJ I3 r2' hh;exact ⟨a, dx, fs, rfl, e1, B, φ3, S3, [d2, d3, d1], I3, ⟨_, _, rfl, r2', _, _, rfl, r3, _, _, rfl, r1', rfl⟩, Fin.toE (IJ (ρ := ρ) I3 E3 f3 fun φ4 S4 d4 v4 H4 I4 X4 E4 r4 f4 => f4 φ4 σ H4 I4 Ext.refl E4)⟩
 ·exact f3.elim
end
section
variable {M : Model} {A : Around} {E : Value -> Shared -> Prop} {s : Shared} {K : aD} {x C L f : Addr} {h₀ : Heap} {m : Str -> Option Value} {ox : Obj} {od : Option Obj}
open PySem.W in
theorem M0 {h : Heap} {nm : String} {add : Bool} {cd : ClassData} {rest : List Value} (X : K.In h) (hc : clsIn K C = some cd) (hm : cd.mro = .ref C :: rest) (hs : findIn K (.ref C) (PySem.dunderI nm) = some (some (.ref f))) : Looks M h (fillsInplaceSlot (.ref C) nm add) true := by
 intro A Q E s k q;unfold fillsInplaceSlot;refine wpAny_bind ((looks_clsIn X hc).andThen (f := fun cd => pure cd.mro) .now A _ E s k ?_)
 rw [hm, List.anyM_cons];refine wpAny_bind ?_
 refine wpAny_bind (looks_findIn X hs A _ E s k ?_)
 dsimp only;rw [if_pos (show (!ownNameWrapper (.ref f) (PySem.dunderI nm)) = true from rfl)]
 refine wpAny_pure ?_
 rw [if_pos rfl];exact wpAny_pure q
open PySem.W in
theorem QV {prog : Program} {w : World} {b : Value} {Q : Value -> Shared -> Prop} (F : PyProof.Rows.Fr h₀ L s.heap m) (X₀ : K.In h₀) (I : InstAt s.heap x ox C od) (hc : selfFirst K C = true)
  (hs : findIn K (.ref C) "__iadd__" = some (some (.ref f))) (hf : isFn K (.ref f) = true)
  (h : wpAny (model prog w) A (call (.ref f) [.ref x, b]) (PySem.W.CmpBack Q) E s) : wpAny (model prog w) A (inplaceOp .Add (.ref x) b) Q E s := by
 have X := X₀.keeps F.keep;obtain ⟨cd, hcd, hm⟩ := any_some hc;obtain ⟨rest, hm⟩ : ∃ rest, cd.mro = .ref C :: rest := by
  cases q : cd.mro with
  | nil => rw [q] at hm; cases hm
  | cons a r => rw [q] at hm; exact ⟨r, by rw [List.head?_cons] at hm; cases (beq_iff_eq.mp hm); rfl⟩
 have hs' : findIn K (.ref C) (PySem.dunderI "add") = some (some (.ref f)) := hs;unfold inplaceOp;refine wpAny_holding (wpAny_bind (I.type.here (wpAny_bind ((M0 X hcd hm hs').here ?_))))
 simp only [if_true];refine wpAny_bind (m := tryMethod (.ref x) _ b) ?_
 unfold tryMethod;refine wpAny_bind (special_fn X I hs (beq_iff_eq.mp hf) (wpAny_mono h (fun v s' hv => ?_) fun _ _ e => e))
 cases v <;> first | exact hv.elim | exact wpAny_pure (wpAny_bind (wpAny_rule (wpAny_pure hv)))
open PySem.W in
theorem Eo {pos : Pos} {first : List Value} {Q : Value -> Shared -> Prop} {args : List (Bool × Sem Value)} {keywords : List (Option Str × Sem Value)} (hplain : (args.any (·.1) || keywords.any (·.1.isNone)) = false)
  (h : wpAny M A (evalArgs (.ref x) true args keywords) (fun a s₁ => (∃ ox od, InstAt s₁.heap x ox C od /\ ox.data = .plain) /\ wpAny M A (call (.ref x) (first ++ a.pos) a.kw) Q E s₁) E s) : wpAny M A (callWith pos (.ref x) first args keywords) Q E s := by
 unfold callWith;refine wpAny_bind (wpAny_holding (wpAny_mono h (fun a s₁ h₁ => wpAny_bind (wpAny_standAt ?_)) fun _ _ y => y))
 obtain ⟨⟨ox, od, h1, hd⟩, h2⟩ := h₁;have L := kco_keeper (M := M) h1 hd;simp only [hplain];refine wpAny_bind (L.here ?_)
 have tail : ∀ {t : Sem Value}, wpAny M A t Q E s₁ -> wpAny M A (t >>= fun r => holding [r] point >>= fun _ => pure r) Q E s₁ :=
  fun ht => wpAny_bind (wpAny_mono ht (fun r s₂ hr => wpAny_bind (wpAny_holding (wpAny_point (wpAny_pure hr)))) fun _ _ y => y)
 exact tail (wpAny_operateT h2)
end
section
variable {X : Cx} {W : WX} {C f mn : Str} {md : FD} {o i a b e : Expr} {es : List Expr} {mo mi ma mb me : FE} {mas : FA} {pos p tpos pos' : Pos} {j k : Nat} {ps : List Str} {K : aD} {B : Addr -> Prop} {φ φ' : List Addr} {S S' : aN} {H H' : Hp} {σ : L2.St} {D : Ends} {x : Str}
def ET (C : Str) (md : FD) (k : Nat) (ρ : Ev) (x y : Vl) (S1 : aN) : Out := if jA S1 C "" x = true then (md [x, y] S1).toS ρ fun z S2 => .next (ρ.set k (some z)) S2 else .stuck
def zX (C : Str) (md : FD) (k : Nat) (e : FE) : FS := fun ρ S => match lk ρ k with
 | some x => (e ρ S).toS ρ (ET C md k ρ x)
 | none => .stuck
theorem Lz {kk : Nat} (F : OkMX X.prog X.w X.K X.mg X.base j C "__iadd__" ps (spF X.K md)) (hr : Room k X.A) (tk : Takes X W) (sf : zI X.K (He.ga X.K C) = true) (hN : X.N.Nodup) (hi : X.N[kk]? = some x) (hx : Loc X.env.scope x) (he : PE X e (cO X.K W me)) (hjk : j <= k := by decide)
  (hf : X.fn x = true \/ X.env.scope.names.lookup x = some .local := by first | exact .inl rfl | exact .inr rfl | assumption) : PS X (.AugAssign (.Name x pos') .Add e pos) (jQ X.K W (zX C md kk me)) := by
 obtain ⟨⟨fd, F, hb⟩, mt⟩ := F;refine ⟨fun pins s σ H D I h => ?_⟩
 obtain ⟨B, φ, S, ρ, IG, ER, f⟩ := h;unfold zX at f;cases ql : lk ρ kk with
 | none => rw [ql] at f; exact f.elim
 | some xv =>
  rw [ql] at f;dsimp only at f;obtain ⟨v, e1, rv⟩ := ER.2 kk _ (DA ql);obtain ⟨m, hn, hl⟩ := I.loc;have vis : Vis X.env.scope x := by rcases hx with k | k; exact .inl k; exact .inr (.inl k)
  obtain ⟨u, r, l⟩ := hl kk x v hi e1 vis;refine wpAny_AugAssign_Name ?_
  have h' : cO X.K W me σ H fun y H1 => ∃ a dx fs, v = .ref a /\ H1 a = some (.ins (He.ga X.K C) dx fs) /\ spF X.K md [v, y] H1 (fun z H2 => D.nx (σ.set kk (some z)) H2) (WE W σ) :=
   cD IG ER f fun φ1 S1 d1 v1 H1 I1 X1 E1 r1 f1 => by
    unfold ET at f1;split at f1
    ·rename_i hh
     have rv' := rv.ext X1 IG;obtain ⟨a, dx, fs, rfl, ea, _⟩ := sJ I1 rv' hh;exact ⟨a, dx, fs, rfl, ea, B, φ1, S1, [xv, d1], I1, ⟨_, _, rfl, rv', _, _, rfl, r1, rfl⟩, Fin.toE (IJ (ρ := ρ) I1 E1 f1 fun φ4 S4 d4 v4 H4 I4 X4 E4 r4 f4 => f4 φ4 _ H4 I4 Ext.refl (E4.set (d := d4) (v := v4) r4 kk))⟩
    ·exact f1.elim
  have go : wpAny (model X.prog X.w) X.A (eval e X.env) (fun w s₂ => wpAny (model X.prog X.w) X.A (inplaceOp .Add u w) (fun r s₃ => wpAny (model X.prog X.w) X.A (storeName X.env x r) (fun _ => SP X pins D .next) X.xe s₃) X.xe s₂) X.xe s := by
   refine thn (he.run pins s σ H _ I h') fun w s1 ⟨y, H1, I1, r1, a, dx, fs, ev, ea, q⟩ => ?_
   subst ev;cases r;obtain ⟨mA, O, _⟩ := ins_get I1.hok ea;obtain ⟨od, J, _⟩ := O.look;obtain ⟨fm, hF⟩ := I1.fr;have e := I1.env0;have hl := F.len _ _ _ _ q;have b1 := hb s1 [.ref a, w] I1.kIn (by simpa using hl)
   have run := F.run X.A X.stack s1 H1 ⟨[.ref a, w], []⟩ [.ref a, w] [.ref a, y] _ (WE W σ) (hr.mono hjk) e (by simpa using b1) (.cons rfl (.cons r1 .nil)) q
   refine QV I1.fr.choose_spec I1.ok.mod.kin J sf mt.at_ mt.fn (wpAny_call (codeAny_mono run fun rr s' hq => ?_))
   cases rr with
   | error er => exact passAt tk σ pins H1 s1 er s' I1 hq
   | ok fl =>
    cases fl with
    | ret w2 =>
     obtain ⟨z, H3, I3, rz, hz⟩ := I1.after hq;exact HH (Q := fun r s₃ => wpAny (model X.prog X.w) X.A (storeName X.env x r) (fun _ => SP X pins D .next) X.xe s₃) rz (store_ok I3 hN hi hx rz (fun s3 I4 => ⟨_, H3, I4, hz⟩) hf)
    | next => exact False.elim hq
    | brk => exact False.elim hq
    | cont => exact False.elim hq
  rcases l with ⟨hk, hm⟩ | ⟨hk, c, hc, hcell⟩
  ·exact wpAny_loadName_local I.ok.kind hk hn hm go
  ·rcases hk with hk | hk
   ·exact wpAny_loadName_cell I.ok.kind hk hc hcell go
   ·rcases hx with k | k
    ·have : X.env.scope.names.lookup x = some .free := hk
     rw [k] at this; cases this
    ·have : X.env.scope.names.lookup x = some .free := hk
     rw [k] at this; cases this
def EV (C : Str) (md : FD) (x : Vl) (ds : List Vl) (S1 : aN) : Res Vl := if jA S1 C "" x = true then md (x :: ds) S1 else .stuck
def zY (C : Str) (md : FD) (i : Nat) (as : FA) : FE := fun ρ S => match lk ρ i with
 | some x => if jA S C "" x = true then (as ρ S).bind (EV C md x) else .stuck
 | none => .stuck
theorem OP {ii : Nat} (F : OkMX X.prog X.w X.K X.mg X.base j C "__call__" ps (spF X.K md)) (hr : Room k X.A) (tk : Takes X W) (fi : zJ X.K (He.ma X.K (He.ga X.K C) "__call__") = true) (hN : X.N[ii]? = some x) (hv : Vis X.env.scope x) (ha : PA X (e :: es) (Ez X.K W mas)) (hjk : j <= k := by decide)
  (hdb : (x == ("__debug__" : Str)) = false := by decide) (hcd : (x == ("__classdict__" : Str)) = false := by decide)
  (he : starEach (e :: es) X.env = (false, eval e X.env) :: starEach es X.env := by rfl) (hpl : (backTo pos (starEach es X.env)).any (·.1) = false := by rfl) : PE X (.Call (.Name x p) (e :: es) [] pos) (cO X.K W (zY C md ii mas)) := by
 obtain ⟨⟨fd, F, hb⟩, mt⟩ := F;refine ⟨fun pins s σ H Q I h => ?_⟩
 obtain ⟨B, φ, S, ρ, IG, ER, f⟩ := h;unfold zY at f;cases ql : lk ρ ii with
 | none => rw [ql] at f; exact f.elim
 | some xv =>
  rw [ql] at f;dsimp only at f;split at f
  case isFalse => exact f.elim
  rename_i hh;obtain ⟨v, e1, rv⟩ := ER.2 ii _ (DA ql);obtain ⟨a, dx, fs, rfl, ea, _⟩ := sJ IG rv hh;have h' : Ez X.K W mas σ H fun vs H1 => ∃ dx fs, H1 a = some (.ins (He.ga X.K C) dx fs) /\ spF X.K md (.ref a :: vs) H1 Q (WE W σ) :=
   fC IG ER f fun φ' S' ds vs H2 I2 X2 E2 r2 f2 => by
    unfold EV at f2;split at f2
    ·rename_i hh2
     have rv' := rv.ext X2 IG;obtain ⟨a', dx', fs', ea', h1, _⟩ := sJ I2 rv' hh2;cases ea';exact ⟨dx', fs', h1, B, φ', S', xv :: ds, I2, ⟨_, _, rfl, rv', r2⟩, f2.toE⟩
    ·exact f2.elim
  refine wpAny_Call_Name_kw (thn ((pe_var (pos := p) hN hv hdb hcd).run pins s σ H (fun v H1 => v = .ref a /\ H1 = H) I ⟨.ref a, e1, rfl, rfl⟩) fun u s1 ⟨v, H1, I1, r1, q1⟩ => ?_)
  obtain ⟨rfl, rfl⟩ := q1;cases r1;have hsp := ha.run pos pins s1 σ _ _ I1 h';rw [he] at hsp ⊢;refine Eo (C := He.ga X.K C) (by show ((false || (backTo pos (starEach es X.env)).any (·.1)) || false) = false; rw [hpl]; rfl) (PySem.Calls.evalArgs_plain (thn hsp fun us s2 ⟨vs, H2, I2, r, dx2, fs2, ea2, q⟩ => ?_))
  obtain ⟨mA, O, _⟩ := ins_get I2.hok ea2;obtain ⟨od, J, _⟩ := O.look;refine ⟨⟨_, _, J, rfl⟩, ?_⟩
  have e := I2.env0;have hl := F.len _ _ _ _ q;have b1 := hb s2 (.ref a :: us) I2.kIn (by
   have e1 := r.length;rw [cZ, <- hl, bB, bB, e1])
  rw [cZ] at b1;have run := F.run X.A X.stack s2 H2 ⟨.ref a :: us, []⟩ (.ref a :: us) (.ref a :: vs) _ (WE W σ) (hr.mono hjk) e b1 (.cons rfl r) q;refine wpAny_call (PySem.W.kco_code (a := ⟨us, []⟩) I2.kIn J rfl mt.at_ mt.fn fi (codeAny_mono run fun rr s' hq => ?_))
  cases rr with
  | error er => exact passAt tk σ pins H2 s2 er s' I2 hq
  | ok fl =>
   cases fl with
   | ret w2 => exact I2.after hq
   | next => exact False.elim hq
   | brk => exact False.elim hq
   | cont => exact False.elim hq
end
structure OkMK (P : Program) (w : World) (K : aD) (mg : Str -> Option Value) (base : Heap) (k : Nat) (C : Str) (ps : List Str) (n : Nat) (kw : Str) (dv : L2.V) (sp : Sp) : Prop where
 ex : ∃ fd, FnOk P w K mg base (L2.CX P w) k (He.ma K (He.ga K C) "__init__") fd ps sp /\ (∃ ds, Vals [dv] ds /\ Binds K fd ps ds) /\ KBn K fd ps n [kw] (fun us ws => us ++ ws) (fun vs zs => vs ++ zs)
section
variable {X : Cx} {W : WX} {C f mn : Str} {md : FD} {o i a b e : Expr} {es : List Expr} {mo mi ma mb me : FE} {mas : FA} {pos p tpos pos' kpos : Pos} {j k n : Nat} {ps : List Str} {K : aD} {B : Addr -> Prop} {φ φ' : List Addr} {S S' : aN} {H H' : Hp} {σ : L2.St} {D : Ends} {x kw : Str} {dv : L2.V} {dd : PH.D} {Q : VK}
theorem GZ {C fA : Addr} {fd : FuncData} {sp : Sp} {CX : CXT} {E : L2.St -> XK} {pins : List (Addr × Obj)} {s : Shared} {us ws : List Value} {vs zs : List L2.V} (M : Mk X.K C fA) (F : FnOk X.prog X.w X.K X.mg X.base CX k fA fd ps sp) (hr : Room (k + 1) X.A) (hb : KBn X.K fd ps (n + 1) [kw] (fun us ws => us ++ ws) (fun vs zs => vs ++ zs))
  (hx : PassesAt CX X σ (E σ)) (I : Inv X pins σ H s) (r : Vals vs us) (rz : Vals zs ws) (l1 : vs.length = n) (l2 : zs.length = 1)
  (h : ∀ x dx, H x = none -> H dx = none -> dx ≠ x -> sp (.ref x :: (vs ++ zs)) (upd (upd H dx (.own x)) x (.ins C dx [])) (fun v H2 => v = .non /\ Q (.ref x) H2) (E σ)) :
  wpAny (model X.prog X.w) X.A (call (.ref C) us ([kw].zip ws)) (EP X pins σ Q) X.xe s := by
 have hq := h (s.heap.objs.size + 1) s.heap.objs.size (I.hok.fresh (Nat.le_succ _)) (I.hok.fresh (cN _)) (Nat.ne_of_lt (CM _));have I2 := Inv.made (C := C) I;have r1 : Vals (V.ref (s.heap.objs.size + 1) :: vs) (Value.ref (s.heap.objs.size + 1) :: us) := .cons rfl r;have r2 := hb.rel r1 rz;have n1 : (Value.ref (s.heap.objs.size + 1) :: us).length = n + 1 := by
  rw [bB, <- r.length, l1]
 refine wpAny_call (make_map (f := fA) I.kIn M.makes M.init (beq_iff_eq.mp M.fn) (codeAny_mono (F.run _ X.stack _ _ ⟨Value.ref (s.heap.objs.size + 1) :: us, [kw].zip ws⟩ ((Value.ref (s.heap.objs.size + 1) :: us) ++ ws) _ _ (E σ) (hr.make C us ([kw].zip ws))
  (I2.env0.make C us ([kw].zip ws)) (hb.to _ (Value.ref (s.heap.objs.size + 1) :: us) ws I2.kIn n1 (rz.length.symm.trans l2)) r2 hq) fun r s' hq' => ?_))
 cases r with
 | error e => exact hx pins _ _ e s' I2 hq'
 | ok fl =>
  cases fl with
  | ret u =>
   obtain ⟨v, H', I3, rv, ev, q3⟩ := I2.after hq';subst ev;exact ⟨rv, ⟨V.ref (s.heap.objs.size + 1), H', I3, rfl, q3⟩⟩
  | next => exact False.elim hq'
  | brk => exact False.elim hq'
  | cont => exact False.elim hq'
def sH (kp : Bool) (C : Str) (md : FD) (ds : List Vl) (d : Vl) (S2 : aN) : Res Vl := made kp S2.length (md (.cel S2.length :: (ds ++ [d])) (S2 ++ [.ins C []]))
def Bs (kp : Bool) (C : Str) (n : Nat) (md : FD) (a : FE) (ρ : Ev) (ds : List Vl) (S1 : aN) : Res Vl := if ds.length = n then (a ρ S1).bind (sH kp C md ds) else .stuck
def sF (kp : Bool) (C : Str) (n : Nat) (md : FD) (as : FA) (a : FE) : FE := fun ρ S => (as ρ S).bind (Bs kp C n md a ρ)
theorem IK {kp : Bool} (T : ClF X.K X.mg C) (F : OkMK X.prog X.w X.K X.mg X.base j C ps (n + 1) kw dv (spF X.K md)) (hr : Room k X.A) (tk : Takes X W) (ha : PA X (e :: es) (Ez X.K W mas)) (hv : PE X a (cO X.K W ma)) (hjk : j + 1 <= k := by decide) (hg : Gl X C := by rfl) (hdb : (C == ("__debug__" : Str)) = false := by decide)
  (hall : (backToKw pos (keywordEach [⟨some kw, a, kpos⟩] X.env)).all (·.1.isSome) = true := by rfl) (hks : (backToKw pos (keywordEach [⟨some kw, a, kpos⟩] X.env)).filterMap (·.1) = [kw] := by rfl)
  (he : starEach (e :: es) X.env = (false, eval e X.env) :: starEach es X.env := by rfl) (hpl : ((backTo pos (starEach (e :: es) X.env)).any (·.1) || (backToKw pos (keywordEach [⟨some kw, a, kpos⟩] X.env)).any (·.1.isNone)) = false := by rfl) : PE X (.Call (.Name C p) (e :: es) [⟨some kw, a, kpos⟩] pos) (cO X.K W (sF kp C n md mas ma)) := by
 obtain ⟨fd, F, _, hb⟩ := F;refine ⟨fun pins s σ H Q I h => ?_⟩
 have h' : Ez X.K W mas σ H fun vs H1 => tCons (cO X.K W ma) tNil σ H1 fun zs H2 => vs.length = n /\ zs.length = 1 /\ ∀ x dx, H2 x = none -> H2 dx = none -> dx ≠ x -> spF X.K md (.ref x :: (vs ++ zs)) (upd (upd H2 dx (.own x)) x (.ins (He.ga X.K C) dx [])) (fun v H3 => v = .non /\ Q (.ref x) H3) (WE W σ) := by
  refine bV (k := fun ds ρ S1 => Bs kp C n md ma ρ ds S1) h fun B φ S ρ ds vs H1 I E r f => ?_
  unfold Bs at f;split at f
  case isFalse => exact f.elim
  rename_i hl;exact fC I E f fun φ' S' d v H2 I2 X2 E2 r2 f2 => ⟨by rw [r.len]; exact hl, rfl, G1 (ds := ds ++ [d]) I2 (RepVs.snoc (r.ext X2 I) r2) f2⟩
 refine wpAny_Call_Name_kw (ld_glob I hg T.glo ?_ hdb)
 refine HY (h₀ := X.base) I.ok.mod.kin T.mak.kp hall (thn (ha.run pos pins s σ H _ I h') fun us s1 ⟨vs, H1, I1, r, q⟩ => ?_) hpl he
 refine thn ((pk_cons hv pk_nil : PK X [⟨some kw, a, kpos⟩] _).run pos pins s1 σ H1 _ I1 q) fun ws s2 ⟨zs, H2, I2, rz, l1, l2, q2⟩ => ⟨I2.kIn, ?_⟩
 rw [hks];exact GZ (E := WE W) T.mak F (hr.mono hjk) hb (passAt tk σ) I2 r rz l1 l2 q2
end
section
variable {P : Program} {w : World} {K : aD} {mg : Str -> Option Value} {base : Heap}
abbrev FnMK (K : aD) (C m q : Str) (st : Stmt) (kw : Str) (dv : L2.V) : Prop := ∃ fd, FunD K m q (defArgs st) (defBody st) (defScope st) [] [(kw, dv)] (He.ma K (He.ga K C) m) fd
theorem okMK {C q kw : Str} {dv : L2.V} {st : Stmt} {N ps : List Str} {k n : Nat} {md : FD} {mb : FS} (F : FnMK K C "__init__" q st kw dv) (S : FnScope N ps (defScope st)) (R : Runs md N.length ps.length mb) (hn : n + 1 = ps.length)
  (b0 : ∀ (D : Addr) (doc pm : Value) (an : Option Addr) (cdv ct : Value) (us ks : List Value), us.length = n -> ks.length = 1 -> KwChain D ([kw].zip ks) (bindArgs (dP "__init__" q (defArgs st) (defBody st) (defScope st) .none (.ref D) doc pm an cdv ct) ⟨us, []⟩) (ps.zip (us ++ ks)))
  (b1 : ∀ (kV doc pm : Value) (an : Option Addr) (cdv ct : Value) (us ws : List Value), us.length = n -> ws.length = 1 -> bindArgs (dP "__init__" q (defArgs st) (defBody st) (defScope st) .none kV doc pm an cdv ct) ⟨us, [kw].zip ws⟩ = pure (ps.zip (us ++ ws)))
  (hbody : ∀ (cdv : Value) (A : Around) (outer : List Env) (s : Shared) (H : Hp) (E : XK), Room k (A.deeper (envOfC q (defScope st) s.heap.objs.size (He.ma K (He.ga K C) "__init__") cdv)) -> PSs (cxOf (L2.CX P w) P w K mg base N q (defScope st) (He.ma K (He.ga K C) "__init__") cdv A outer s H E) (defBody st) (jQ K (fun c x _ H => E c x H) mb)) : OkMK P w K mg base (k + 1) C ps n kw dv (spF K md) := by
 obtain ⟨fd, F⟩ := F;refine ⟨fd, FunD.ok F S (uU R) fun cdv A outer s H vs Q E hr hsp => ⟨_, hbody cdv A outer s H E hr, qV R hsp⟩, F.binds0 n (by simp) hn b0, ⟨fun s us ws _ l1 l2 => ?_, fun r1 r2 => r1.append r2⟩⟩
 obtain ⟨oc, od, dV, kV, doc, pm, an, cdv, ct, osl, rfl, lk, hcd, hD, hK⟩ := F.ex;rcases hD with ⟨_, rfl⟩ | ⟨e, _⟩
 ·exact .of_eq (b1 kV doc pm an cdv ct us ws l1 l2)
 ·exact absurd rfl e
abbrev PZ (K : aD) (C m q : Str) (st : Stmt) : Prop := ∃ fd, FunD K m q (defArgs st) (defBody st) (defScope st) [] [] (Nh K C m) fd
theorem okP {C m q : Str} {st : Stmt} {N : List Str} {k : Nat} {md : FD} {mb : FS} (F : PZ K C m q st) (g : PropOf K (He.ga K C) m (He.ma K (He.ga K C) m) (Nh K C m)) (S : FnScope N ["self"] (defScope st)) (R : Runs md N.length 1 mb)
  (bnd : ∀ (kV doc pm : Value) (an : Option Addr) (cdv ct : Value) (us : List Value), us.length = 1 -> bindArgs (dP m q (defArgs st) (defBody st) (defScope st) .none kV doc pm an cdv ct) ⟨us, []⟩ = pure ((["self"] : List Str).zip us))
  (hbody : ∀ (cdv : Value) (A : Around) (outer : List Env) (s : Shared) (H : Hp) (E : XK), Room k (A.deeper (envOfC q (defScope st) s.heap.objs.size (Nh K C m) cdv)) -> PSs (cxOf (L2.CX P w) P w K mg base N q (defScope st) (Nh K C m) cdv A outer s H E) (defBody st) (jQ K (fun c x _ H => E c x H) mb)) : OkPr P w K mg base (k + 1) C m (spF K md) := by
 obtain ⟨fd, F⟩ := F;exact ⟨_, _, fd, g, FunD.ok F S (uU R) fun cdv A outer s H vs Q E hr hsp => ⟨_, hbody cdv A outer s H E hr, qV R hsp⟩, F.bindsN bnd⟩
end
def vK (c : Str) : XH -> Bool
 | .own y => decide (c = y)
 | .ty _ => true
structure XHs (K : aD) (b : Str) (cs : List Str) (ys : List XH) : Prop where
 ex : ∀ c ∈ cs, CL K (.ref (He.ga K c)) (.ref (He.ga K b)) = some true
 xs : ∀ c ∈ cs, XsF K (He.ga K c)
 hd : ∀ c ∈ cs, zH K (He.ga K c) = true
 kit : ∀ c ∈ cs, ∀ y ∈ ys, kitH K c y = true
theorem Ma {K : aD} {b : Str} {cs : List Str} {ys : List XH} (h : xhsB K b cs ys = true) : XHs K b cs ys := by
 obtain ⟨h1, h⟩ := He.ba h;obtain ⟨h2, h⟩ := He.ba h;obtain ⟨h3, h4⟩ := He.ba h;exact ⟨fun c hc => of_decide_eq_true (bI.mp h1 c hc), fun c hc => Pb (bI.mp h2 c hc), fun c hc => bI.mp h3 c hc, fun c hc y hy => bI.mp (bI.mp h4 c hc) y hy⟩
def rXa (K : aD) (a : Addr) (cls : Value) (d : Option Addr) : List V -> Hp -> VK -> Prop := fun xs H Q => ∃ (D : Addr) (c : V) (cv : Value) (b : Bool), xs = [.ref a, c] /\ (∀ u, RelV c u -> u = cv) /\ cls = .ref D /\ XsF K D /\ zH K D = true /\ (d = none \/ ∃ dd fs, d = some dd /\ H dd = some (.xd fs)) /\ oW K (.ref D) cv = some b /\ Q (.bl b) H
theorem OX {X : Cx} {a : Addr} {oe : Obj} {cls : Value} {d : Option Addr} {pn : List (Addr × Obj)} (hz : Zc cls d oe) (hf : ∃ vs, oe.data = .fields vs) : CallR (X.suite a ((a, oe) :: pn)) (.builtin "isinstance") (rXa X.K a cls d) := by
 intro pins s σ H xs us Q I r h;obtain ⟨D, c, cv, b, rfl, hcv, ec, C, hdct, hd, e, q⟩ := h;subst ec;cases r with
 | cons rx rr =>
  cases rr with
  | cons rt rr =>
   cases rr;cases rx;have ecv := hcv _ rt;subst ecv;obtain ⟨ha, _⟩ := I.pin (a, oe) (hZ.mpr (.inl bD));obtain ⟨vs, hdt⟩ := hf;rcases hd with rfl | ⟨dd, fs, rfl, ea⟩
   ·have J : CN s.heap a oe D none := by
     obtain ⟨oc, od, oda, osl⟩ := oe;obtain ⟨h1, h2⟩ := hz;dsimp only at h1 h2 hdt;subst h1 h2 hdt;exact ⟨ha, rfl, rfl, trivial⟩
    exact PySem.W.kia_one (PySem.W.handS_kitx_exc C.hg C.hk C.hs hdct C.ha C.hn C.ht C.hm) I.kIn J e (fun z => nomatch z) fun tk => ⟨.bl b, H, I.kept (t' := tk) fun _ _ z => z, rfl, q⟩
   ·have hx : ObjOk X.prog X.w H s.heap dd (.xd fs) := I.hok dd _ ea
    obtain ⟨mA, hns, hr⟩ := hx;obtain ⟨od, ho, hl⟩ := lookIn_ns hns;have J : CN s.heap a oe D (some od) := ⟨ha, hz.1, by unfold PySem.W.notCls; rw [hdt] <;> rfl, by rw [hz.2]; exact ho⟩
    exact PySem.W.kia_one (PySem.W.kitx_exc C.cl C.hg C.hk C.hs C.ha C.hn C.ht C.hm) I.kIn J e (fun z => nomatch z) fun tk => ⟨.bl b, H, I.kept (t' := tk) fun _ _ z => z, rfl, q⟩
def hV (K : aD) : XH -> V
 | .own y => .ref (He.ga K y)
 | .ty T => .ty T
def hVv (K : aD) : XH -> Value
 | .own y => .ref (He.ga K y)
 | .ty T => .type T
theorem QZ {K : aD} (y : XH) : ∀ u, RelV (hV K y) u -> u = hVv K y := by
 intro u r;cases y <;> cases r <;> rfl
def Bw (K : aD) (a : Addr) (cls : Value) (d : Option Addr) (k : Nat) : List XH -> TA
 | [] => tNil
 | y :: r => tCons (tCB (rXa K a cls d) (tCons (wL k) (tCons (tC (hV K y)) tNil))) (Bw K a cls d k r)
def vO (K : aD) (a : Addr) (cls : Value) (d : Option Addr) (k i : Nat) (fin : Option (List XH)) : List (List XH) -> TS
 | [] => fun D σ H => match fin with
  | none => D.nx σ H
  | some ys => tOp (Jl K) (wL i) (tLst (Bw K a cls d k ys)) σ H fun v H1 => D.rt v H1
 | ys :: r => fun D σ H => tOp (Jl K) (wL i) (tLst (Bw K a cls d k ys)) σ H fun v H1 => vO K a cls d k i fin r D (σ.set i (some v)) H1
def LL (K : aD) (a : Addr) (cls : Value) (d : Option Addr) (k i : Nat) (ys : List XH) (r : List (List XH)) (fin : Option (List XH)) : TS := fun D σ H => tLst (Bw K a cls d k ys) σ H fun v H1 => vO K a cls d k i fin r D (σ.set i (some v)) H1
section
variable {X : Cx} {W : WX} {e : Expr} {es : List Expr} {K : aD} {B : Addr -> Prop} {φ φ' : List Addr} {S S' : aN} {H H' : Hp} {σ : L2.St} {D : Ends} {x : Str} {m : FS} {cs : List Str} {pos p p2 p3 : Pos}
theorem Eb {er : Er} {c : Value} {d : Option Addr} {a : Addr} {k : Nat} {b : Str} (hc : c = .ref (He.ga K er.cls)) (hin : er.cls ∈ cs) {ally : List XH} (F : XHs K b cs ally) (hd : d = none \/ ∃ dd fs, d = some dd /\ H dd = some (.xd fs)) (hσ0 : σ[k]? = some (some (.ref a))) : ∀ (ys : List XH) {Q : List V -> Hp -> Prop}, (∀ y ∈ ys, y ∈ ally) -> Q (ys.map fun y => .bl (vK er.cls y)) H -> Bw K a c d k ys σ H Q
 | [], Q, _, q => q
 | y :: r, Q, hy, q => by
  have hσ : sl σ k = some (.ref a) := KF hσ0
  show (match sl σ k with | some v => _ | none => False)
  rw [hσ];have kt := F.kit _ hin y (hy y (bD ..));refine ⟨He.ga K er.cls, hV K y, hVv K y, vK er.cls y, rfl, QZ y, hc, F.xs _ hin, F.hd _ hin, hd, ?_, ?_⟩
  ·cases y with
   | own z => exact of_decide_eq_true kt
   | ty T => exact of_decide_eq_true kt
  ·exact Eb (Q := fun vs H' => Q (.bl (vK er.cls y) :: vs) H') hc hin F hd hσ0 r (fun z hz => hy z (aU _ hz)) q
theorem E9 {Bk : Addr -> Prop} : ∀ {bs : List Bool}, RepL K Bk H (bs.map PH.D.bl) (bs.map V.bl)
 | [] => rfl
 | b :: r => ⟨.bl b, r.map V.bl, rfl, rfl, E9⟩
def Fp (rows : List (List XH)) : Nat := (rows.map List.length).sum
theorem IB {er : Er} {c : Value} {d : Option Addr} {a : Addr} {k i : Nat} {b : Str} (hc : c = .ref (He.ga K er.cls)) (hin : er.cls ∈ cs) {ally : List XH} (F : XHs K b cs ally) {ys : List XH} (hy : ∀ y ∈ ys, y ∈ ally) {H : Hp} {bs : List Bool} {q : Addr} (h1 : σ[k]? = some (some (.ref a))) (h2 : σ[i]? = some (some (.ref q)))
  (hd : d = none \/ ∃ dd fs, d = some dd /\ H dd = some (.xd fs)) (I : GInv K B φ S H) (nb : ¬ lJ B φ S q) (hq : H q = some (.lst (bs.map V.bl))) (hz : bs.length + ys.length <= 1000) {Q : VK}
  (f : ∀ (q' : Addr) (H' : Hp), GInv K B φ S H' -> Ext φ S H φ S H' -> ¬ lJ B φ S q' -> H' q' = some (.lst ((bs ++ ys.map (vK er.cls)).map V.bl)) -> (d = none \/ ∃ dd fs, d = some dd /\ H' dd = some (.xd fs)) -> Q (.ref q') H') : tOp (Jl K) (wL i) (tLst (Bw K a c d k ys)) σ H Q := by
 have hs : sl σ i = some (.ref q) := KF h2
 show (match sl σ i with | some v => _ | none => False)
 rw [hs];refine Eb (Q := fun xs H1 => xs.length <= sizeLine /\ ∀ p, H1 p = none -> Jl K (.ref q) (.ref p) (upd H1 p (.lst xs)) Q) hc hin F hd h1 ys hy ⟨by rw [bC]; exact BC (show ys.length <= 1000 by omega) (by decide), fun p hp => ?_⟩
 have npq : q ≠ p := fun z => by rw [z, hp] at hq; cases hq
 have I1 := I.new (o := .lst (ys.map fun y => .bl (vK er.cls y))) hp
 have X1 := Ext.new (o := .lst (ys.map fun y => .bl (vK er.cls y))) I hp
 refine .inl ⟨q, p, bs.map V.bl, ys.map fun y => .bl (vK er.cls y), rfl, rfl, by rw [upd_ne npq]; exact hq, upd_same, by rw [bC, bC]; exact BC hz (by decide), fun p2 hp2 => ?_⟩
 have I2 := I1.new (o := .lst (bs.map V.bl ++ ys.map fun y => .bl (vK er.cls y))) hp2
 have X2 := Ext.new (o := .lst (bs.map V.bl ++ ys.map fun y => .bl (vK er.cls y))) I1 hp2
 refine f p2 _ I2 (X1.trans X2) (I1.nblk hp2) (by rw [upd_same, eO, fE]; rfl) ?_
 rcases hd with rfl | ⟨dd, fs, rfl, e⟩
 ·exact .inl rfl
 ·refine .inr ⟨dd, fs, rfl, ?_⟩
  have n1 : dd ≠ p := fun z => by rw [z, hp] at e; cases e
  have e1 : upd H p (.lst (ys.map fun y => .bl (vK er.cls y))) dd = some (.xd fs) := by rw [upd_ne n1]; exact e
  have n2 : dd ≠ p2 := fun z => by rw [z, hp2] at e1; cases e1
  rw [upd_ne n2]; exact e1
theorem Fo {er : Er} {c : Value} {d : Option Addr} {a : Addr} {k i : Nat} {b : Str} (hc : c = .ref (He.ga K er.cls)) (hin : er.cls ∈ cs) {ally : List XH} (F : XHs K b cs ally) (hki : k ≠ i) {fin : Option (List XH)} (hfin : ∀ ys, fin = some ys -> ∀ y ∈ ys, y ∈ ally) :
  ∀ (rows : List (List XH)) {σ : L2.St} {H : Hp} {bs : List Bool} {q : Addr}, (∀ ys ∈ rows, ∀ y ∈ ys, y ∈ ally) -> σ[k]? = some (some (.ref a)) -> σ[i]? = some (some (.ref q)) -> (d = none \/ ∃ dd fs, d = some dd /\ H dd = some (.xd fs)) -> GInv K B φ S H -> ¬ lJ B φ S q -> H q = some (.lst (bs.map V.bl)) ->
   bs.length + Fp rows + (fin.getD []).length <= 1000 ->
   (∀ (q' : Addr) (H' : Hp), GInv K B φ S H' -> Ext φ S H φ S H' -> ¬ lJ B φ S q' -> H' q' = some (.lst ((bs ++ (rows.flatten.map (vK er.cls)) ++ ((fin.getD []).map (vK er.cls))).map V.bl)) -> match fin with
    | none => D.nx (σ.set i (some (.ref q'))) H'
    | some _ => D.rt (.ref q') H') -> vO K a c d k i fin rows D σ H
 | [], σ, H, bs, q, _, h1, h2, hd, I, nb, hq, hz, f => by
  unfold vO;cases fin with
  | none =>
   have := f q H I Ext.refl nb (by simpa using hq)
   dsimp only at this;rw [FF h2] at this;exact this
  | some ys =>
   refine IB hc hin F (hfin ys rfl) h1 h2 hd I nb hq (by simp [Fp] at hz; omega) fun q' H' I' X' nb' hq' _ => ?_
   exact f q' H' I' X' nb' (by simpa using hq')
 | ys :: r, σ, H, bs, q, hy, h1, h2, hd, I, nb, hq, hz, f => by
  unfold vO;have hl : i < σ.length := (aJ.mp h2).1;have hz' : bs.length + (ys.length + Fp r) + (fin.getD []).length <= 1000 := by
   have : Fp (ys :: r) = ys.length + Fp r := by unfold Fp; rw [bA, List.sum_cons]
   omega
  refine IB hc hin F (hy ys (bD ..)) h1 h2 hd I nb hq (by omega) fun q' H' I' X' nb' hq' hd' => ?_
  refine Fo hc hin F hki hfin r (bs := bs ++ ys.map (vK er.cls)) (q := q') (fun z hz => hy z (aU _ hz)) (by rw [aQ, if_neg (Ne.symm hki)]; exact h1) (by rw [aQ, if_pos rfl, if_pos hl]) hd' I' nb' hq' (by rw [cK, bC]; omega) fun q2 H2 I2 X2 nb2 hq2 => ?_
  have := f q2 H2 I2 (X'.trans X2) nb2 (by rw [hq2]; simp [List.append_assoc])
  cases fin with
  | none =>
   dsimp only at this ⊢;rw [cP];exact this
  | some _ => exact this
def xU (k i : Nat) (ys : List XH) (r : List (List XH)) (fin : Option (List XH)) (e : Er) (ρ : Ev) (S : aN) : Out :=
 if k < ρ.length /\ i < ρ.length /\ k ≠ i then match fin with
  | none => .next (((ρ.set k none).set i (some (.dat (.lst (((ys :: r).flatten.map (vK e.cls)).map PH.D.bl))))).set k none) S
  | some zs => .ret (.dat (.lst (((ys :: r).flatten.map (vK e.cls) ++ zs.map (vK e.cls)).map PH.D.bl))) S
 else .stuck
def xT (cs : List Str) (m : FS) (k i : Nat) (ys : List XH) (r : List (List XH)) (fin : Option (List XH)) : FS := fun ρ S => match m ρ S with
 | .err e ρ' S' => if e.cls ∈ cs then xU k i ys r fin e ρ' S' else .stuck
 | o => o
def QH (cs : List Str) (k i : Nat) (ys : List XH) (r : List (List XH)) (fin : Option (List XH)) (o : Out) : Out := match o with
 | .err e ρ' S' => if e.cls ∈ cs then xU k i ys r fin e ρ' S' else .stuck
 | o => o
theorem LR {ρ : Ev} {k i : Nat} {ys : List XH} {r : List (List XH)} {fin : Option (List XH)} : xT cs m k i ys r fin ρ S = QH cs k i ys r fin (m ρ S) := by
 unfold xT QH;cases m ρ S <;> rfl
def hR (K : aD) (b : Str) (k i : Nat) (ys : List XH) (r : List (List XH)) (fin : Option (List XH)) : HV := (.ref (He.ga K b), some k, fun a cls d => LL K a cls d k i ys r fin)
theorem Gy {er : Er} {c : Value} {d : Option Addr} {Wout : WX} {b : Str} {k i : Nat} {ys : List XH} {r : List (List XH)} {fin : Option (List XH)} (F : XHs K b cs (AF ys r fin)) (hl : (AF ys r fin).length <= 1000) (he : er.cls ∈ cs) (rx : RY K B φ S H er c d) (I : GInv K B φ S H) {ρ : Ev} (E : RepE K B φ S H ρ σ) (f : FinS K Wout D B φ S H (xU k i ys r fin er ρ S)) : zM K Wout D [hR K b k i ys r fin] c d σ H := by
 have hc : c = .ref (He.ga K er.cls) := rx.1;have hd : d = none \/ ∃ dd fs, d = some dd /\ H dd = some (.xd fs) := by
  rcases rx.2 with ⟨_, h⟩ | ⟨dd, vs, h1, h2, _⟩
  ·exact .inl h
  ·exact .inr ⟨dd, _, h1, h2⟩
 refine ⟨true, by rw [hc]; exact F.ex _ he, fun _ a na => ?_, fun z => (by cases z)⟩
 unfold xU at f;split at f
 case isFalse => exact f.elim
 rename_i hh;obtain ⟨h1, h2, h3⟩ := hh;have s1 : k < σ.length := by rw [<- E.1]; exact h1
 have s2 : i < σ.length := by rw [<- E.1]; exact h2
 have a1 : (σ.set k (some (.ref a)))[k]? = some (some (.ref a)) := by rw [aQ, if_pos rfl, if_pos s1]
 have lens : (AF ys r fin).length = ys.length + Fp r + (fin.getD []).length := by
  unfold AF Fp;rw [cK, cK, List.length_flatten]
 show LL K a c d k i ys r fin (D.gone k) (σ.set k (some (.ref a))) H
 unfold LL;refine Eb (Q := fun xs H1 => xs.length <= sizeLine /\ ∀ p, H1 p = none -> vO K a c d k i fin r (D.gone k) ((σ.set k (some (.ref a))).set i (some (.ref p))) (upd H1 p (.lst xs))) hc he F hd a1 ys (fun y hy => by unfold AF; simp [hy]) ⟨by rw [bC]; exact BC (show ys.length <= 1000 by omega) (by decide), fun p hp => ?_⟩
 have I1 := I.new (o := .lst (ys.map fun y => .bl (vK er.cls y))) hp
 have X1 := Ext.new (o := .lst (ys.map fun y => .bl (vK er.cls y))) I hp
 have hd1 : d = none \/ ∃ dd fs, d = some dd /\ upd H p (.lst (ys.map fun y => .bl (vK er.cls y))) dd = some (.xd fs) := by
  rcases hd with rfl | ⟨dd, fs, rfl, e⟩
  ·exact .inl rfl
  ·refine .inr ⟨dd, fs, rfl, ?_⟩
   have n1 : dd ≠ p := fun z => by rw [z, hp] at e; cases e
   rw [upd_ne n1]; exact e
 refine Fo (D := D.gone k) hc he F h3 (fun zs e y hy => by unfold AF; rw [e]; simp [hy]) r (bs := ys.map (vK er.cls)) (q := p) (fun zs hz y hy => by
   unfold AF;exact List.mem_append_left _ (List.mem_append_right _ (List.mem_flatten.mpr ⟨zs, hz, hy⟩))) (by rw [aQ, if_neg (Ne.symm h3)]; exact a1) (by rw [aQ, if_pos rfl, if_pos (by rw [eP]; exact s2)]) hd1 I1 (I.nblk hp) (by rw [upd_same, fE]; rfl) (by rw [bC]; omega) fun q2 H2 I2 X2 nb2 hq2 => ?_
 have X := X1.trans X2;cases fin with
 | none =>
  dsimp only at f ⊢
  show D.nx ((((σ.set k (some (.ref a))).set i (some (.ref p))).set i (some (.ref q2))).set k none) H2
  rw [cP];refine f φ _ _ I2 X ((((E.wipe1 k).ext X I).set (d := .dat (.lst (((ys :: r).flatten.map (vK er.cls)).map PH.D.bl))) (v := .ref q2) ⟨q2, _, rfl, nb2, hq2, ?_⟩ i).unbind k)
  have : (ys.map (vK er.cls) ++ r.flatten.map (vK er.cls) ++ (([] : List XH).map (vK er.cls))) = (ys :: r).flatten.map (vK er.cls) := by simp
  rw [show ((none : Option (List XH)).getD []) = [] from rfl, this]
  exact E9
 | some zs =>
  dsimp only at f ⊢;refine f φ _ _ I2 X ⟨q2, _, rfl, nb2, hq2, ?_⟩
  have : (ys.map (vK er.cls) ++ r.flatten.map (vK er.cls) ++ (zs.map (vK er.cls))) = (ys :: r).flatten.map (vK er.cls) ++ zs.map (vK er.cls) := by simp
  rw [show ((some zs : Option (List XH)).getD []) = zs from rfl, this]
  exact E9
theorem KH {b : Str} {k i : Nat} {ys : List XH} {r : List (List XH)} {fin : Option (List XH)} (F : XHs K b cs (AF ys r fin)) (hl : (AF ys r fin).length <= 1000) (h : jQ K W (xT cs m k i ys r fin) D σ H) : jQ K (zM K W D [hR K b k i ys r fin]) m D σ H := by
 obtain ⟨B, φ, S, ρ, I, E, f⟩ := h;refine ⟨B, φ, S, ρ, I, E, ?_⟩
 unfold xT at f;cases q : m ρ S with
 | err e ρ' S' =>
  rw [q] at f;dsimp only at f;split at f
  ·rename_i hh
   exact fun φ' σ' c x H' I' X' E' r => Gy F hl hh r I' E' (FinS.ext f X')
  ·exact f.elim
 | next ρ S' => rw [q] at f; exact f
 | ret d S' => rw [q] at f; exact f
 | brk ρ S' => rw [q] at f; exact f
 | cnt ρ S' => rw [q] at f; exact f
 | stuck => rw [q] at f; exact f
theorem OL {body : List Stmt} {b₀ : Stmt} {suite : List Stmt} {b n : Str} {k i : Nat} {ys : List XH} {r : List (List XH)} {fin : Option (List XH)} {np pos' : Pos} (F : XHs X.K b cs (AF ys r fin)) (hl : (AF ys r fin).length <= 1000) (g : X.mg b = some (.ref (He.ga X.K b))) (hs : X.stack = X.env :: X.outer) (hf : X.env.frame = some X.env.locals) (tk : Takes X W)
  (hb : ∀ (W : WX) (pn : List (Addr × Obj)) (xe : Value -> Shared -> Prop), Takes (X.tr pn xe) W -> PassesOwn (model X.prog X.w) X.A X.env xe -> PSs (X.tr pn xe) body (jQ X.K W m)) (hN : X.N.Nodup) (hi : X.N[k]? = some n) (hln : X.env.kindOf n = some .local)
  (hsu : ∀ (a : Addr) (oe : Obj) (cls : Value) (d : Option Addr) (pn : List (Addr × Obj)), Zc cls d oe -> (∃ vs, oe.data = .fields vs) -> PSs (X.suite a ((a, oe) :: pn)) (b₀ :: suite) (LL X.K a cls d k i ys r fin)) (hg : Gl X b := by rfl) (hd : (b == ("__debug__" : Str)) = false := by decide) :
  PS X (.Try body [.ExceptHandler (some (.Name b np)) (some n) (b₀ :: suite) pos'] [] [] pos) (jQ X.K W (xT cs m k i ys r fin)) := fX (EA (tb := fun W => jQ X.K W m) hs hf tk hb (.consA ⟨hg, hd, .inl g⟩ hN hi hln hsu .nil)) fun D σ H h => KH F hl h
theorem LJ {a : Addr} {cls : Value} {d : Option Addr} {k : Nat} : PA X [] (Bw X.K a cls d k []) := pa_nil
theorem A1 {a : Addr} {oe : Obj} {cls : Value} {d : Option Addr} {k : Nat} {pn : List (Addr × Obj)} {y : Str} {ys : List XH} (hm : X.mg "isinstance" = none) (g : X.mg y = some (.ref (He.ga X.K y))) (hz : Zc cls d oe) (hf : ∃ vs, oe.data = .fields vs) (he : PE (X.suite a ((a, oe) :: pn)) e (wL k)) (r : PA (X.suite a ((a, oe) :: pn)) es (Bw X.K a cls d k ys))
  (hgi : Gl X "isinstance" := by rfl) (hgy : Gl X y := by rfl) (hdb : (y == ("__debug__" : Str)) = false := by decide)
  (h1 : starEach [e, .Name y p2] X.env = (false, eval e X.env) :: starEach [.Name y p2] X.env := by rfl) (h2 : starEach [.Name y p2] X.env = (false, eval (.Name y p2) X.env) :: starEach [] X.env := by rfl) (hpl : (backTo p3 (starEach [.Name y p2] X.env)).any (·.1) = false := by rfl)
  (hs : starEach (.Call (.Name "isinstance" p) [e, .Name y p2] [] p3 :: es) X.env = (false, eval (.Call (.Name "isinstance" p) [e, .Name y p2] [] p3) X.env) :: starEach es X.env := by rfl) : PA (X.suite a ((a, oe) :: pn)) (.Call (.Name "isinstance" p) [e, .Name y p2] [] p3 :: es) (Bw X.K a cls d k (.own y :: ys)) :=
 pa_cons (pe_callB (OX hz hf) hgi hm boot_isinstance (pa_cons he (pa_cons (pe_glob (v := .ref (He.ga X.K y)) hgy g rfl hdb) pa_nil h2) h1) (he := h1) (hpl := hpl)) r hs
theorem QX {a : Addr} {cls : Value} {d : Option Addr} {k i : Nat} : PSs X [] (vO X.K a cls d k i none []) := sW pss_nil fun D σ H h => h
theorem QY {a : Addr} {oe : Obj} {cls : Value} {d : Option Addr} {k i : Nat} {pn : List (Addr × Obj)} {o : Expr} {v : Str} {pv p4 : Pos} {ys : List XH} {r : List (List XH)} {fin : Option (List XH)} {wX : List Stmt} (hN : X.N.Nodup) (hi : X.N[i]? = some v) (hx : Loc X.env.scope v) (ho : PE (X.suite a ((a, oe) :: pn)) o (wL i)) (h : PA (X.suite a ((a, oe) :: pn)) es (Bw X.K a cls d k ys)) (hr : PSs (X.suite a ((a, oe) :: pn)) wX (vO X.K a cls d k i fin r))
  (hs : swapsWith (.BinOp o .Add (.List es p2) p4) (some (.Name v pv)) pos.line X.env = pure false := by rfl) (hf : X.fn v = true \/ X.env.scope.names.lookup v = some .local := by first | exact .inl rfl | exact .inr rfl | assumption) : PSs (X.suite a ((a, oe) :: pn)) (.Assign [.Name v pv] (.BinOp o .Add (.List es p2) p4) pos :: wX) (vO X.K a cls d k i fin (ys :: r)) :=
 sW (pss_cons (ps_set (X := X.suite a ((a, oe) :: pn)) hN hi hx (pe_op bN ho (pe_lst h)) hs hf) hr) fun D σ H q => q
theorem QW {a : Addr} {oe : Obj} {cls : Value} {d : Option Addr} {k i : Nat} {pn : List (Addr × Obj)} {v : Str} {pv : Pos} {ys : List XH} {r : List (List XH)} {fin : Option (List XH)} {wX : List Stmt} (hN : X.N.Nodup) (hi : X.N[i]? = some v) (hx : Loc X.env.scope v) (h : PA (X.suite a ((a, oe) :: pn)) es (Bw X.K a cls d k ys)) (hr : PSs (X.suite a ((a, oe) :: pn)) wX (vO X.K a cls d k i fin r))
  (hs : swapsWith (.List es p2) (some (.Name v pv)) pos.line X.env = pure false := by rfl) (hf : X.fn v = true \/ X.env.scope.names.lookup v = some .local := by first | exact .inl rfl | exact .inr rfl | assumption) : PSs (X.suite a ((a, oe) :: pn)) (.Assign [.Name v pv] (.List es p2) pos :: wX) (LL X.K a cls d k i ys r fin) :=
 sW (pss_cons (ps_set (X := X.suite a ((a, oe) :: pn)) hN hi hx (pe_lst h) hs hf) hr) fun D σ H q => q
end
end PH
namespace PH
open PySem PySem.Spec PyProof PyProof.Rows L2
theorem SaysG.def_ {gn : List He5.DefA} {K : aD} (c : SaysG gn K) (i : Nat) {d : He5.DefA} (h : gn[i]? = some d := by rfl) : ∃ fd, FunD K d.name d.qual d.params d.body d.scope (d.dvs K) (d.kws K) (d.at_ K) fd := by
 obtain ⟨c2, e⟩ := c;have e2 : (gn.map fun d => He5.fnA K (d.at_ K))[i]? = (gn.map He5.DefA.val)[i]? := by rw [e]
 rw [cC, cC, h] at e2;exact He5.DefA.funD (Option.some.inj e2) (bI.mp c2 d (fY h))
theorem NF {n : Nat} {fa : List He.Fa} {fn : List He.DefD} {ts : List He.Tab} {ex : aD -> Bool} {gn : List He5.DefA} {g : Addr -> Option Obj} {s : Shared} (h : ∀ a, g a = s.heap.get? a) : Pv n fa fn ts ex gn g = (P8 n fa fn ts ex gn).obs s := by
 have e : g = s.heap.get? := funext h;rw [e] <;> rfl
theorem Kd {K : aD} {C f : Str} (h : Om K C f = true) : PropOf K (He.ga K C) f (He.ma K (He.ga K C) f) (Nh K C f) := by
 obtain ⟨h1, h⟩ := He.ba h;obtain ⟨h2, h⟩ := He.ba h;obtain ⟨h3, h4⟩ := He.ba h;refine ⟨of_decide_eq_true h1, of_decide_eq_true h2, of_decide_eq_true h3, ?_⟩
 unfold Nh;split at h4
 ·rename_i g r q
  rw [q];exact ⟨r, rfl⟩
 ·cases h4
end PH
namespace PH
open PySem PySem.Spec PyProof.Rows L2
def oD : FS :=
 (bK (iH (m1 (fIsi "int") (aC 0)) (Fe (m1 (fIsi "bool") (aC 0)))))
def cY : FD := run 1 1 oD
def yS : FS :=
 (bK (iH (aM cY (aB (aC 0) aI)) (gF F0 F0 (mC (.int 0)) (aC 0) (mC (.int 1)))))
def qZ : FD := run 1 1 yS
def fD : FE :=
 (iH (aM cY (aB (aC 4) aI)) (gF F0 F0 (aC 2) (aC 4) (aC 3)))
def fW : FS :=
 (aK (bH (wD (fU (cF (m1 (fIsi "tuple") (aC 0)))) (mB (aS dZ (m1 dY (aC 0)) (mC (.int 0))))) (bK (mC (.bl false))) aX)
 (aK (bH (wD (fU (cF (m1 (fIsi "str") (aS bU (aC 0) (mC (.int 0)))))) (mB (m1 (eG true) (aS bU (aC 0) (mC (.int 0)))))) (bK (mC (.bl false))) aX)
 (aK (bJ (m1 wJ (aS bU (aC 0) (mC (.int 0)))) (.tp [1, 2, 3]))
 (aK (bH (mB (aS DP (m1 dY (aC 0)) (aS (cL false) (aC 1) (mC (.int 1))))) (bK (mC (.bl false))) aX)
 (bK (m1 wK (zW false (kQ (Az false (aC 0) (fJ (mC (.int 1))) tL)) (.nm 4) eV fD [4])))))))
def dN : FD := run 5 1 fW
def pP : FS :=
 (aK (bJ (aS bU (aC 0) (mC (.int 0))) (.nm 1))
 (aK (bH (wD (mB (aS dZ (aC 1) (mC (.str "keep")))) (mB (aS dZ (aC 1) (mC (.str "again"))))) (bK (bT false (aB (aS bU (aC 0) (mC (.int 1))) aI))) aX)
 (aK (bH (mB (aS dZ (aC 1) (mC (.str "either")))) (bK (bT false (aB (aS bU (aC 0) (mC (.int 1))) (aB (aS bU (aC 0) (mC (.int 2))) aI)))) aX)
 (aK (bH (mB (aS dZ (aC 1) (mC (.str "call")))) (bK (aS bU (aC 0) (mC (.int 3)))) aX)
 (bK (bT false aI))))))
def kE : FD := run 2 1 pP
def mF : FS :=
 (aK (bJ (aS bU (aC 0) (mC (.int 0))) (.nm 2))
 (aK (bH (wD (mB (aS dZ (aC 2) (mC (.str "keep")))) (mB (aS dZ (aC 2) (mC (.str "again"))))) (bK (bW (aB (aC 2) (aB (aS bU (aC 1) (mC (.int 0))) aI)))) aX)
 (aK (bH (mB (aS dZ (aC 2) (mC (.str "either")))) (bK (bW (aB (aC 2) (aB (aS bU (aC 1) (mC (.int 0))) (aB (aS bU (aC 1) (mC (.int 1))) aI))))) aX)
 (aK (bH (mB (aS dZ (aC 2) (mC (.str "call")))) (bK (bW (aB (aC 2) (aB (aS bU (aC 0) (mC (.int 1))) (aB (aS bU (aC 0) (mC (.int 2))) (aB (aC 1) aI)))))) aX)
 (bK (aC 0))))))
def lY : FD := run 3 2 mF
def gW (f_copied_block : FD) : FS :=
 (bK (aM lY (aB (aC 0) (aB (zW false (kQ (aM kE (aB (aC 0) aI))) (.nm 1) eV (aM (f_copied_block) (aB (aC 1) aI)) [1]) aI))))
def lB (f_copied_statement : FD) : FS :=
 (bK (zW false (kQ (aC 0)) (.nm 1) eV (aM (f_copied_statement) (aB (aC 1) aI)) [1]))
def jU : Nat -> FD × FD
 | 0 => (qB, qB)
 | n + 1 => let r := jU n
  (run 2 1 (gW r.2), run 2 1 (lB r.1))
def gP (n : Nat) : FD := (jU n).1
def eB (n : Nat) : FD := (jU n).2
def mG : FS :=
 (aK (bH (cF (aM dN (aB (aC 0) aI))) (bK (mC (.bl true))) aX)
 (aK (bH (wD (fU (cF (m1 (fIsi "tuple") (aC 0)))) (wD (mB (aS B7 (m1 dY (aC 0)) (mC (.int 2)))) (fU (cF (m1 (fIsi "str") (aS bU (aC 0) (mC (.int 0)))))))) (bK (mC (.bl false))) aX)
 (aK (bJ (aS bU (aC 0) (mC (.int 0))) (.nm 3))
 (aK (bH (mB (aS dZ (aC 3) (mC (.str "end")))) (bK (iH (aS dZ (m1 dY (aC 0)) (mC (.int 2))) (aM qZ (aB (aS bU (aC 0) (mC (.int 1))) aI)))) aX)
 (aK (bH (mB (aS dZ (aC 1) (mC (.int 3)))) (bK (mC (.bl false))) aX)
 (aK (bH (wD (mB (aS dZ (aC 3) (mC (.str "keep")))) (mB (aS dZ (aC 3) (mC (.str "again"))))) (bK (iH (aS dZ (m1 dY (aC 0)) (mC (.int 2))) (m1 (fIsi "list") (aS bU (aC 0) (mC (.int 1)))))) aX)
 (aK (bH (mB (aS dZ (aC 3) (mC (.str "either")))) (bK (iH (aS dZ (m1 dY (aC 0)) (mC (.int 3))) (iH (m1 (fIsi "list") (aS bU (aC 0) (mC (.int 1)))) (m1 (fIsi "list") (aS bU (aC 0) (mC (.int 2))))))) aX)
 (aK (bH (wD (mB (aS DP (aC 3) (mC (.str "call")))) (mB (aS DP (m1 dY (aC 0)) (mC (.int 4))))) (bK (mC (.bl false))) aX)
 (aK (bH (wD (fU (cF (aM cY (aB (aS bU (aC 0) (mC (.int 1))) aI)))) (fU (mB (gF F0 B7 (mC (.int 0)) (aS bU (aC 0) (mC (.int 1))) (aC 2))))) (bK (mC (.bl false))) aX)
 (aK (bH (wD (fU (cF (m1 (fIsi "bool") (aS bU (aC 0) (mC (.int 2)))))) (wD (fU (cF (m1 (fIsi "list") (aS bU (aC 0) (mC (.int 3)))))) (mB (aS DP (m1 dY (aS bU (aC 0) (mC (.int 3)))) (mC (.int 2)))))) (bK (mC (.bl false))) aX)
 (bK (iH (m1 (fIsi "list") (aS bU (aS bU (aC 0) (mC (.int 3))) (mC (.int 0)))) (m1 (fIsi "list") (aS bU (aS bU (aC 0) (mC (.int 3))) (mC (.int 1))))))))))))))))
def jG : FD := run 4 3 mG
def fL (f_first_fault : FD) : FS :=
 (gL [8, 9, 10] (aK (bJ (aM (f_first_fault) (aB (aC 9) (aB (aS (cL false) (aC 1) (mC (.int 1))) (aB (aC 2) (aB (aS (cL false) (aC 7) (bW (aB (aC 8) aI))) (aB (aC 4) aI)))))) (.tp [10, 4]))
 (bH (mB (aS (C0 true) (aC 10) (mC .non))) (bK (bW (aB (aC 10) (aB (aC 4) aI)))) aX)))
def jN (f_first_fault : FD) : FS :=
 (gL [5, 6, 7, 8, 9, 10] (aK (bJ (aS (cL false) (aC 3) (bW (aB (aC 5) aI))) (.nm 7))
 (aK (bH (wD (mB (aS dZ (aC 5) (mC (.int 8)))) (wD (mB (aS dZ (aC 4) (mC (.int 12)))) (fU (cF (aM jG (aB (aC 6) (aB (aC 1) (aB (aC 2) aI)))))))) (bK (bW (aB (aC 7) (aB (aC 4) aI)))) aX)
 (aK (JL (fun x y => x + y) 4 (mC (.int 1)))
 (oZ (D0 (aM kE (aB (aC 6) aI))) (.tp [8, 9]) (fL (f_first_fault)))))))
def mI (f_first_fault : FD) : FS :=
 (aK (oZ (D0 (aC 0)) (.tp [5, 6]) (jN (f_first_fault)))
 (bK (bW (aB (mC .non) (aB (aC 4) aI)))))
def cX : Nat -> FD
 | 0 => qB
 | n + 1 => run 11 5 (mI (cX n))
def dU : FS :=
 (gL [2, 3, 4, 5] (aK (bH (fU (cF (m1 (fIsi "list") (aC 3)))) (kR "NoBook" ["path", "procedure"] (aB (aC 2) (aB (bW aI) aI))) aX)
 (aK (bJ (aM (cX 10) (aB (aC 3) (aB (mC (.int 0)) (aB (m1 dY (aC 1)) (aB (bW aI) (aB (mC (.int 0)) aI)))))) (.tp [4, 5]))
 (bH (mB (aS (C0 true) (aC 4) (mC .non))) (kR "NoBook" ["path", "procedure"] (aB (aC 2) (aB (aC 4) aI))) aX))))
def pY : FS :=
 (aK (bH (wD (fU (cF (m1 (fIsi "list") (aC 1)))) (fU (mB (gF F0 F0 (mC (.int 1)) (m1 dY (aC 1)) (mC (.int 3)))))) (kR "NoBook" ["path", "procedure"] (aB (m1 qL (mC (.int 1))) (aB (bW aI) aI))) aX)
 (aK (oZ (D0 (aC 1)) (.tp [2, 3]) dU)
 (lK "Book" "own" (aC 0) (zW false (kQ (aC 1)) (.nm 3) eV (aM (eB 20) (aB (aC 3) aI)) [3]))))
def kG : FD := run 6 2 pY
def sV : FS :=
 (bK (m1 dY (eA "Book" "own" (aC 0))))
def oN : FD := run 1 1 sV
def vV : FS :=
 (bK (zW false (kQ (eA "Book" "own" (aC 0))) (.nm 1) eV (aM (eB 20) (aB (aC 1) aI)) [1]))
def vM : FD := run 2 1 vV
def yU : FS :=
 (bK (aS (cL true) (bT false (aB (mC (.int 0)) aI)) (Q3 (zW false (kQ (Az false (aC 0) tL (fJ (mC (.int 63))))) (.nm 1) eV (m1 vJ (aC 1)) [1]) (bT false (aB (mC (.int 0)) aI)))))
def xR : FD := run 2 1 yU
def yW : FS :=
 (aK (kS (fun x y => x + y) (aC 0) (mC (.int 0)) (mC (.int 1)))
 (aK (bJ (aS (cL false) (mC (.int 1)) (aS xY (m1 vJ (aS bU (aC 0) (mC (.int 0)))) (aS pA (m1 dY (aC 0)) (mC (.int 1))))) (.nm 2))
 (aK (bJ (m1 vJ (aS bU (aC 0) (aC 2))) (.nm 3))
 (aK (bH (mB (aS fGe (aC 3) (aS Ej (mC (.int 10)) (mC (.int 18))))) (aK (Bq (aS tD (aC 3) (aC 1)) (aC 0) (aC 2))
 (bK (aS xY (aC 3) (aC 1)))) aX)
 (aK (bJ (aS xY (aS qM (m1 vJ (aS (cL false) (aS (cL false) (aC 3) (aS qM (mC (.int 7919)) (aS bU (aC 0) (mC (.int 0))))) (mC (.int 1)))) (mC (.int 48271))) (mC (.int 2147483647))) (.nm 4))
 (aK (bJ (aS xY (aS qM (aC 4) (aS (cL false) (aS tD (aC 4) (mC (.int 1009))) (mC (.int 69621)))) (mC (.int 2147483647))) (.nm 4))
 (aK (bJ (aS xY (aS qM (aC 4) (aS (cL false) (aS tD (aC 4) (mC (.int 2003))) (mC (.int 40692)))) (mC (.int 2147483399))) (.nm 4))
 (bK (aS xY (aS tD (aC 4) (mC (.int 11))) (aC 1))))))))))
def bG : FD := run 5 2 yW
def pU : FS :=
 (aK (bJ (bT false (aB (bT false (aB (mC (.int 0)) (aB (mC (.int 0)) (aB (mC (.int 0)) (aB (mC (.int 1)) (aB (mC (.int 1)) aI)))))) (aB (bT false (aB (mC (.int 0)) (aB (mC (.int 0)) (aB (mC (.int 2)) (aB (mC (.int 3)) (aB (mC (.int 1)) aI)))))) (aB (bT false (aB (mC (.int 0)) (aB (mC (.int 6)) (aB (mC (.int 7)) (aB (mC (.int 8)) (aB (mC (.int 8)) aI)))))) (aB (bT false (aB (mC (.int 0)) (aB (mC (.int 4)) (aB (mC (.int 5)) (aB (mC (.int 6)) (aB (mC (.int 7)) aI)))))) (aB (bT false (aB (mC (.int 0)) (aB (mC (.int 1)) (aB (mC (.int 3)) (aB (mC (.int 6)) (aB (mC (.int 8)) aI)))))) aI)))))) (.nm 2))
 (aK (bJ (aS (cL false) (aC 2) (bT false (aB (bT false (aB (mC (.int 0)) (aB (mC (.int 1)) (aB (mC (.int 2)) (aB (mC (.int 3)) (aB (mC (.int 4)) (aB (mC (.int 5)) (aB (mC (.int 6)) (aB (mC (.int 7)) (aB (mC (.int 8)) aI)))))))))) (aB (bT false (aB (mC (.int 1)) (aB (mC (.int 1)) (aB (mC (.int 2)) (aB (mC (.int 3)) (aB (mC (.int 4)) aI)))))) (aB (bT false (aB (mC (.int 5)) (aB (mC (.int 6)) (aB (mC (.int 7)) (aB (mC (.int 8)) (aB (mC (.int 8)) aI)))))) aI))))) (.nm 2))
 (aK (bJ (aS bU (aC 2) (aC 1)) (.nm 3))
 (aK (bJ (aS bU (aC 3) (aM bG (aB (aC 0) (aB (m1 dY (aC 3)) aI)))) (.nm 4))
 (aK (bH (mB (aS dZ (aC 4) (mC (.int 0)))) (aK (bJ (aS pA (aM bG (aB (aC 0) (aB (mC (.int 19)) aI))) (mC (.int 9))) (.nm 5))
 (bK (bW (aB (mC (.str "go")) (aB (aS bU (bT false (aB (aC 5) (aB (mC (.int 2)) (aB (aS pA (aS xY (m1 vJ (aC 5)) (mC (.int 3))) (mC (.int 1))) (aB (mC (.int 1)) aI))))) (aM bG (aB (aC 0) (aB (mC (.int 4)) aI)))) aI))))) aX)
 (aK (bH (mB (aS dZ (aC 4) (mC (.int 1)))) (bK (bW (aB (mC (.str "turn")) (aB (aS (cL false) (mC (.int 1)) (aM bG (aB (aC 0) (aB (mC (.int 3)) aI)))) aI)))) aX)
 (aK (bH (mB (aS dZ (aC 4) (mC (.int 2)))) (bK (bW (aB (mC (.str "mirror")) aI))) aX)
 (aK (bH (mB (aS dZ (aC 4) (mC (.int 3)))) (bK (bW (aB (mC (.str "scale")) (aB (aS bU (bW (aB (m1 qL (mC (.int 1))) (aB (m1 qL (mC (.int 1))) (aB (m1 qL (mC (.int 1))) (aB (mC (.int 1)) (aB (mC (.int 1)) (aB (mC (.int 0)) (aB (mC (.int 2)) (aB (m1 qL (mC (.int 3))) aI))))))))) (aM bG (aB (aC 0) (aB (mC (.int 8)) aI)))) aI)))) aX)
 (aK (bH (mB (aS B7 (aC 4) (mC (.int 6)))) (bK (bW (aB (aS bU (bW (aB (mC (.str "aim")) (aB (mC (.str "place")) aI))) (aS pA (aC 4) (mC (.int 4)))) (aB (aS pA (aM bG (aB (aC 0) (aB (mC (.int 19)) aI))) (mC (.int 9))) (aB (aS pA (aM bG (aB (aC 0) (aB (mC (.int 19)) aI))) (mC (.int 9))) aI))))) aX)
 (bK (bW (aB (aS bU (bW (aB (mC (.str "mark")) (aB (mC (.str "return")) (aB (mC (.str "exchange")) aI)))) (aS pA (aC 4) (mC (.int 6)))) aI))))))))))))
def gK : FD := run 6 2 pU
def yV : FS :=
 (aK (bJ (aS (cL false) (mC (.int 1)) (aM bG (aB (aC 0) (aB (mC (.int 3)) aI)))) (.nm 2))
 (aK (bJ (aM bG (aB (aC 0) (aB (mC (.int 4)) aI))) (.nm 3))
 (aK (bH (mB (aS dZ (aC 1) (mC (.int 6)))) (bJ (aS (cL false) (mC (.int 1)) (aS xY (aC 3) (mC (.int 2)))) (.nm 3)) aX)
 (aK (bH (mB (aS dZ (aC 1) (mC (.int 7)))) (bJ (mC (.int 3)) (.nm 3)) aX)
 (aK (bJ (bT false (aB (bT false (aB (bW (aB (mC (.str "go")) (aB (aC 2) aI))) (aB (bW (aB (mC (.str "go")) (aB (m1 qL (aC 2)) aI))) aI))) (aB (bT false (aB (bW (aB (mC (.str "turn")) (aB (aC 2) aI))) (aB (bW (aB (mC (.str "turn")) (aB (aS pA (mC (.int 4)) (aC 2)) aI))) aI))) (aB (bT false (aB (bW (aB (mC (.str "mirror")) aI)) (aB (bW (aB (mC (.str "mirror")) aI)) aI))) aI)))) (.nm 4))
 (bK (aS bU (aS (cL false) (aC 4) (bT false (aB (bT false (aB (bW (aB (mC (.str "exchange")) aI)) (aB (bW (aB (mC (.str "exchange")) aI)) aI))) aI))) (aC 3))))))))
def rB : FD := run 5 2 yV
def jW (f_L_piece : FD) : FS :=
 (gL [7] (bH (mB (aS Ek (aS bU (aC 3) (mC (.int 0))) (mC (.int 0)))) (bJ (aS (cL false) (aC 6) (aM (f_L_piece) (aB (aC 0) (aB (aC 1) (aB (aC 2) (aB (aC 3) (aB (aC 4) (aB (aC 5) aI)))))))) (.nm 6)) aX))
def vF (f_L_piece : FD) : FS :=
 (aK (bJ (bT false aI) (.nm 6))
 (aK (oZ (gZ (aM bG (aB (aC 0) (aB (mC (.int 3)) aI)))) (.nm 7) (jW (f_L_piece)))
 (bK (aC 6))))
def vC (f_L_block : FD) (f_L_piece : FD) : FS :=
 (aK (bJ (aM bG (aB (aC 0) (aB (mC (.int 17)) aI))) (.nm 6))
 (aK (bH (rF (mB (aS Ek (aC 6) (mC (.int 6)))) (rF (mB (aS B7 (aC 6) (mC (.int 15)))) (mB (aS Ek (aC 2) (mC (.int 2)))))) (bJ (aS xY (aC 6) (mC (.int 6))) (.nm 6)) aX)
 (aK (bH (rF (mB (aS dZ (aC 6) (mC (.int 6)))) (mB (aS B7 (aS bU (aC 3) (mC (.int 0))) (mC (.int 2))))) (bJ (mC (.int 0)) (.nm 6)) aX)
 (aK (bH (rF (mB (aS Ek (aC 6) (mC (.int 10)))) (rF (mB (aS B7 (aC 6) (mC (.int 15)))) (wD (mB (aS B7 (aS bU (aC 4) (mC (.int 0))) (mC (.int 1)))) (mB (aS fGe (aC 5) (aS bU (aC 4) (mC (.int 1)))))))) (bJ (mC (.int 0)) (.nm 6)) aX)
 (aK (kS (fun x y => x - y) (aC 3) (mC (.int 0)) (mC (.int 1)))
 (aK (bH (mB (aS B7 (aC 6) (mC (.int 6)))) (bK (bT false (aB (aM gK (aB (aC 0) (aB (aC 1) aI))) aI))) aX)
 (aK (bH (mB (aS dZ (aC 6) (mC (.int 6)))) (aK (kS (fun x y => x - y) (aC 3) (mC (.int 0)) (mC (.int 1)))
 (aK (bJ (aM rB (aB (aC 0) (aB (aC 1) aI))) (.nm 7))
 (aK (bJ (bT false aI) (.nm 8))
 (aK (bH (mB (aS Ek (aS bU (aC 3) (mC (.int 0))) (mC (.int 0)))) (bJ (aM (f_L_piece) (aB (aC 0) (aB (aC 1) (aB (aC 2) (aB (aC 3) (aB (aC 4) (aB (aC 5) aI))))))) (.nm 8)) aX)
 (bK (aS (cL false) (aS (cL false) (Az false (aC 7) tL (fJ (mC (.int 1)))) (aC 8)) (Az false (aC 7) (fJ (mC (.int 1))) tL))))))) aX)
 (aK (bH (mB (aS B7 (aC 6) (mC (.int 9)))) (aK (bJ (aM (f_L_block) (aB (aC 0) (aB (aC 1) (aB (aS (cL false) (aC 2) (mC (.int 1))) (aB (aC 3) (aB (aC 4) (aB (mC (.int 0)) aI))))))) (.nm 9))
 (bK (bT false (aB (bW (aB (mC (.str "either")) (aB (aC 9) (aB (aM (f_L_block) (aB (aC 0) (aB (aC 1) (aB (aS (cL false) (aC 2) (mC (.int 1))) (aB (aC 3) (aB (aC 4) (aB (aC 5) aI))))))) aI)))) aI)))) aX)
 (aK (bH (mB (aS dZ (aC 6) (mC (.int 9)))) (bK (bT false (aB (bW (aB (mC (.str "again")) (aB (aM (f_L_block) (aB (aC 0) (aB (aC 1) (aB (aS (cL false) (aC 2) (mC (.int 1))) (aB (aC 3) (aB (aC 4) (aB (mC (.int 0)) aI))))))) aI))) aI))) aX)
 (aK (bH (mB (aS dZ (aC 6) (mC (.int 10)))) (bK (bT false (aB (bW (aB (mC (.str "keep")) (aB (aM (f_L_block) (aB (aC 0) (aB (aC 1) (aB (aS (cL false) (aC 2) (mC (.int 1))) (aB (aC 3) (aB (aC 4) (aB (aC 5) aI))))))) aI))) aI))) aX)
 (aK (bH (mB (aS Ek (aC 6) (mC (.int 14)))) (bK (bT false (aB (bW (aB (mC (.str "end")) (aB (aM bG (aB (aC 0) (aB (mC (.int 2)) aI))) aI))) aI))) aX)
 (aK (kS (fun x y => x - y) (aC 4) (mC (.int 0)) (mC (.int 1)))
 (aK (bJ (aS (cL false) (aC 5) (aM bG (aB (aC 0) (aB (aS pA (aS bU (aC 4) (mC (.int 1))) (aC 5)) aI)))) (.nm 10))
 (aK (bJ (aS dZ (aM bG (aB (aC 0) (aB (mC (.int 3)) aI))) (mC (.int 0))) (.nm 11))
 (aK (bJ (aM (f_L_block) (aB (aC 0) (aB (aC 1) (aB (aS (cL false) (aC 2) (mC (.int 1))) (aB (aC 3) (aB (aC 4) (aB (aC 5) aI))))))) (.nm 9))
 (bK (bT false (aB (bW (aB (mC (.str "call")) (aB (aC 10) (aB (aC 11) (aB (bT false (aB (aC 9) (aB (aM (f_L_block) (aB (aC 0) (aB (aC 1) (aB (aS (cL false) (aC 2) (mC (.int 1))) (aB (aC 3) (aB (aC 4) (aB (aC 5) aI))))))) aI))) aI))))) aI))))))))))))))))))
def A4 : Nat -> FD × FD
 | 0 => (qB, qB)
 | n + 1 => let r := A4 n
  (run 8 6 (vF r.2), run 12 6 (vC r.1 r.2))
def uW (n : Nat) : FD := (A4 n).1
def kF (n : Nat) : FD := (A4 n).2
def sU : FS :=
 (aK (kS (fun x y => x - y) (aC 2) (mC (.int 0)) (mC (.int 4)))
 (aK (kS (fun x y => x - y) (aC 3) (mC (.int 0)) (mC (.int 1)))
 (aK (bJ (aM bG (aB (aC 0) (aB (aS bU (aC 3) (mC (.int 1))) aI))) (.nm 4))
 (aK (bJ (aS dZ (aM bG (aB (aC 0) (aB (mC (.int 3)) aI))) (mC (.int 0))) (.nm 5))
 (aK (bJ (aM bG (aB (aC 0) (aB (mC (.int 2)) aI))) (.nm 6))
 (aK (bJ (bT false (aB (aM gK (aB (aC 0) (aB (aC 1) aI))) (aB (aM gK (aB (aC 0) (aB (aC 1) aI))) aI))) (.nm 7))
 (aK (bH (mB (aS dZ (aM bG (aB (aC 0) (aB (mC (.int 2)) aI))) (mC (.int 0)))) (bJ (aM rB (aB (aC 0) (aB (aC 1) aI))) (.nm 7)) aX)
 (aK (bJ (bT false (aB (bT false aI) (aB (bT false (aB (aS bU (aC 7) (mC (.int 0))) (aB (bW (aB (mC (.str "call")) (aB (aC 4) (aB (aC 5) (aB (bT false (aB (bT false aI) (aB (bT false aI) aI))) aI))))) (aB (aS bU (aC 7) (mC (.int 1))) aI)))) aI))) (.nm 8))
 (bK (bT false (aB (bW (aB (mC (.str "either")) (aB (aS bU (aC 8) (aC 6)) (aB (aS bU (aC 8) (aS pA (mC (.int 1)) (aC 6))) aI)))) aI)))))))))))
def sE : FD := run 9 4 sU
def jP : FS :=
 (gL [7] (bH (mB (aS Ek (aS bU (aC 2) (mC (.int 0))) (mC (.int 0)))) (bJ (aS (cL false) (aC 6) (aM (kF 30) (aB (aC 0) (aB (aC 1) (aB (mC (.int 0)) (aB (aC 2) (aB (aC 3) (aB (aC 4) aI)))))))) (.nm 6)) aX))
def yY : FS :=
 (aK (bJ (aM bG (aB (aC 0) (aB (mC (.int 6)) aI))) (.nm 5))
 (aK (bJ (bT false aI) (.nm 6))
 (aK (bH (rF (mB (aS dZ (aM bG (aB (aC 0) (aB (mC (.int 2)) aI))) (mC (.int 0)))) (rF (mB (aS Ek (aS bU (aC 2) (mC (.int 0))) (mC (.int 3)))) (mB (aS Ek (aS bU (aC 3) (mC (.int 0))) (mC (.int 0)))))) (bJ (aM sE (aB (aC 0) (aB (aC 1) (aB (aC 2) (aB (aC 3) aI))))) (.nm 6)) aX)
 (aK (oZ (gZ (aS (cL false) (mC (.int 1)) (aM bG (aB (aC 0) (aB (mC (.int 4)) aI))))) (.nm 7) jP)
 (aK (bJ (bT false (aB (bT false (aB (bW (aB (mC (.str "either")) (aB (bT false (aB (bW (aB (mC (.str "end")) (aB (mC (.int 1)) aI))) aI)) (aB (bT false aI) aI)))) aI)) (aB (bT false (aB (bW (aB (mC (.str "end")) (aB (mC (.int 1)) aI))) aI)) aI))) (.nm 8))
 (aK (bH (wD (mB (aS dZ (aC 5) (mC (.int 1)))) (mB (aS dZ (aC 5) (mC (.int 3))))) (bK (aS (cL false) (aC 6) (aS bU (aC 8) (aS tD (aC 5) (mC (.int 2)))))) aX)
 (aK (bH (mB (aS dZ (aC 5) (mC (.int 2)))) (bK (aS (cL false) (aS bU (aC 8) (mC (.int 0))) (aC 6))) aX)
 (bK (aC 6)))))))))
def uF : FD := run 9 5 yY
def lN : FS :=
 (gL [8, 9, 10] (aK (bJ (bT true (aB (aS pA (aS pA (aC 2) (mC (.int 2))) (m1 vJ (aS Ek (aC 5) (mC (.int 2))))) aI)) (.nm 9))
 (aK (bJ (aS (cL false) (aC 8) (mC (.int 1))) (.nm 10))
 (aK (bH (cF (aC 4)) (bJ (mC (.int 0)) (.nm 10)) aX)
 (cR (jT (aC 7) (aM uF (aB (aC 0) (aB (aC 3) (aB (aC 9) (aB (aC 6) (aB (aC 10) aI))))))))))))
def yX : FS :=
 (aK (bJ (aM bG (aB (aC 0) (aB (mC (.int 6)) aI))) (.nm 3))
 (aK (bJ (aS dZ (aM bG (aB (aC 0) (aB (mC (.int 8)) aI))) (mC (.int 0))) (.nm 4))
 (aK (bJ (aS (cL false) (mC (.int 1)) (aM bG (aB (aC 0) (aB (aC 1) aI)))) (.nm 5))
 (aK (bJ (bT true (aB (mC (.int 4)) (aB (aC 5) aI))) (.nm 6))
 (aK (bJ (bT true aI) (.nm 7))
 (aK (oZ (gZ (aC 5)) (.nm 8) lN)
 (bK (Kv (aC 7)))))))))
def xS : FD := CU 11 3 yX
def iQ : FS :=
 (gL [4, 5] (aK (bH (wD (fU (cF (aM cY (aB (aC 5) aI)))) (fU (mB (gF F0 B7 (mC (.int 0)) (aC 5) (m1 dY (aC 3)))))) (bK (mC .non)) aX)
 (bH (mB (aS dZ (aS xY (aC 4) (mC (.int 2))) (mC (.int 0)))) (aK (bJ (aS bU (aC 3) (aC 5)) (.nm 2))
 (bJ (aM kE (aB (aC 2) aI)) (.nm 3))) (bJ (aS bU (aC 3) (aC 5)) (.nm 3)))))
def hC : FS :=
 (bK (iH (aM cY (aB (aC 1) aI)) (gF F0 B7 (mC (.int 0)) (aC 1) (m1 (DQ "Book" oN) (aC 0)))))
def gY : FD := run 2 2 hC
theorem tK {x0 x1 : Vl} {S : aN} : gY [x0, x1] S = bS (hC [some x0, some x1] S) := (rfl)
def rM : FS :=
 (bK (iH (m1 (fIsi "tuple") (aC 0)) (iH (aS dZ (m1 dY (aC 0)) (mC (.int 6))) (m1 wK (zW false (kQ (aC 0)) (.nm 1) eV (aM cY (aB (aC 1) aI)) [1])))))
def mT : FD := run 2 1 rM
def kJ : FS :=
 (gL [9] (mPar 4 5 (m1 qL (aC 5)) (aC 4)))
def sP : FS :=
 (aK (bJ (aC 0) (.tp [2, 3, 4, 5, 6, 7]))
 (aK (bJ (aS bU (aC 1) (mC (.int 0))) (.nm 8))
 (aK (bH (mB (aS dZ (aC 8) (mC (.str "go")))) (bK (bW (aB (aS (cL false) (aC 2) (aS qM (aS bU (aC 1) (mC (.int 1))) (aC 4))) (aB (aS (cL false) (aC 3) (aS qM (aS bU (aC 1) (mC (.int 1))) (aC 5))) (aB (aC 4) (aB (aC 5) (aB (aC 6) (aB (aC 7) aI)))))))) aX)
 (aK (bH (mB (aS dZ (aC 8) (mC (.str "turn")))) (aK (oZ (gZ (aS bU (aC 1) (mC (.int 1)))) (.nm 9) kJ)
 (bK (bW (aB (aC 2) (aB (aC 3) (aB (aC 4) (aB (aC 5) (aB (aC 6) (aB (aC 7) aI))))))))) aX)
 (aK (bH (mB (aS dZ (aC 8) (mC (.str "mirror")))) (bK (bW (aB (aC 2) (aB (aC 3) (aB (aC 4) (aB (m1 qL (aC 5)) (aB (aC 6) (aB (aC 7) aI)))))))) aX)
 (aK (bH (mB (aS dZ (aC 8) (mC (.str "scale")))) (bK (bW (aB (aC 2) (aB (aC 3) (aB (aS qM (aS bU (aC 1) (mC (.int 1))) (aC 4)) (aB (aS qM (aS bU (aC 1) (mC (.int 1))) (aC 5)) (aB (aC 6) (aB (aC 7) aI)))))))) aX)
 (aK (bH (mB (aS dZ (aC 8) (mC (.str "aim")))) (bK (bW (aB (aC 2) (aB (aC 3) (aB (aS bU (aC 1) (mC (.int 1))) (aB (aS bU (aC 1) (mC (.int 2))) (aB (aC 6) (aB (aC 7) aI)))))))) aX)
 (aK (bH (mB (aS dZ (aC 8) (mC (.str "place")))) (bK (bW (aB (aS bU (aC 1) (mC (.int 1))) (aB (aS bU (aC 1) (mC (.int 2))) (aB (aC 4) (aB (aC 5) (aB (aC 6) (aB (aC 7) aI)))))))) aX)
 (aK (bH (mB (aS dZ (aC 8) (mC (.str "mark")))) (bK (bW (aB (aC 2) (aB (aC 3) (aB (aC 4) (aB (aC 5) (aB (aC 2) (aB (aC 3) aI)))))))) aX)
 (aK (bH (mB (aS dZ (aC 8) (mC (.str "return")))) (bK (bW (aB (aC 6) (aB (aC 7) (aB (aC 4) (aB (aC 5) (aB (aC 6) (aB (aC 7) aI)))))))) aX)
 (bK (bW (aB (aC 6) (aB (aC 7) (aB (aC 4) (aB (aC 5) (aB (aC 2) (aB (aC 3) aI))))))))))))))))))
def jS : FD := run 10 2 sP
def yA : FE :=
 (m1 vJ (aS dZ (aS xY (aC 0) (mC (.int 8))) (mC (.int 0))))
def wQ : FS :=
 (bK (zW false (gZ (mC (.int 49))) (.nm 0) eV yA [0]))
def sC : FD := run 1 0 wQ
def qN : FE :=
 (aS pA (aS bU (aC 5) (aC 6)) (aS bU (aC 1) (aC 6)))
def lU : FS :=
 (gL [3, 4, 5] (aK (bJ (m1 fTuple (zW false (gZ (mC (.int 6))) (.nm 6) eV (m1 vJ (aS dZ (aC 6) (aC 3))) [6])) (.nm 4))
 (aK (bJ (aM jS (aB (aC 4) (aB (aC 0) aI))) (.nm 5))
 (cR (jT (aC 2) (aS (cL false) (bT false (aB (mC (.int 0)) aI)) (zW false (gZ (mC (.int 6))) (.nm 6) eV qN [6])))))))
def uP : FS :=
 (aK (bH (fU (cF (aM dN (aB (aC 0) aI)))) (nI "NoCommand") aX)
 (aK (bJ (aM jS (aB (bW (aB (mC (.int 0)) (aB (mC (.int 0)) (aB (mC (.int 0)) (aB (mC (.int 0)) (aB (mC (.int 0)) (aB (mC (.int 0)) aI))))))) (aB (aC 0) aI))) (.nm 1))
 (aK (bJ (bT true (aB (bT false (aB (mC (.int 1)) (Ot (aC 1) aI))) aI)) (.nm 2))
 (aK (oZ (gZ (mC (.int 6))) (.nm 3) lU)
 (bK (Q4 false (gZ (mC (.int 7))) (.nm 7) eV (gZ (mC (.int 7))) (.nm 8) eV (aS bU (aS bU (aC 2) (aC 8)) (aC 7)) [7, 8] [8]))))))
def mS : FD := CU 9 1 uP
def kK : FS :=
 (gL [5, 6] (aK (bJ (aS bU (aC 1) (aS (cL false) (aS qM (mC (.int 7)) (aC 3)) (aC 5))) (.nm 6))
 (bH (mB (aS DP (aC 6) (mC (.int 0)))) (bJ (zW false (NK (aC 4) (Az false (aC 0) (fJ (aS qM (mC (.int 7)) (aC 5))) (fJ (aS (cL false) (aS qM (mC (.int 7)) (aC 5)) (mC (.int 7)))))) (.tp [7, 8]) eV (aS (cL false) (aC 7) (aS qM (aC 6) (aC 8))) [7, 8]) (.nm 4)) aX)))
def nQ : FS :=
 (gL [3, 4, 5, 6] (aK (bJ (bT false (aB (mC (.int 0)) (aB (mC (.int 0)) (aB (mC (.int 0)) (aB (mC (.int 0)) (aB (mC (.int 0)) (aB (mC (.int 0)) (aB (mC (.int 0)) aI)))))))) (.nm 4))
 (aK (oZ (gZ (mC (.int 7))) (.nm 5) kK)
 (bJ (aS (cL false) (aC 2) (aC 4)) (.nm 2)))))
def wR : FS :=
 (aK (bJ (bT false aI) (.nm 2))
 (aK (oZ (gZ (mC (.int 7))) (.nm 3) nQ)
 (bK (aC 2))))
def sD : FD := run 9 2 wR
def qO : FS :=
 (aK (bJ (aS bU (aC 0) (mC (.int 0))) (.nm 1))
 (aK (bJ (zW false (kQ (Az false (aM sC aI) (fJ (mC (.int 7))) (fJ (mC (.int 35))))) (.nm 3) eV (aS qM (aC 1) (aC 3)) [3]) (.nm 2))
 (bK (aS (cL false) (aS (cL false) (Az false (aC 0) tL (fJ (mC (.int 7)))) (aC 2)) (Az false (aC 0) (fJ (mC (.int 35))) tL)))))
def qJ : FD := run 4 1 qO
def rQ : FS :=
 (aK (lK "Execution" "own" (aC 0) (aC 1))
 (aK (lK "Execution" "bits" (aC 0) (aC 2))
 (aK (lK "Execution" "taken" (aC 0) (mC (.int 0)))
 (aK (lK "Execution" "deeds" (aC 0) (bT true aI))
 (aK (lK "Execution" "stack" (aC 0) (bT true aI))
 (aK (lK "Execution" "active" (aC 0) (NL (kQ (aC 1)) (.nm 3) [3]))
 (lK "Execution" "ended" (aC 0) (mC (.int 0)))))))))
def rE : FD := run 4 3 rQ
def rO : FS :=
 (aK (bH (mB (aS dZ (eA "Execution" "taken" (aC 0)) (m1 dY (eA "Execution" "bits" (aC 0))))) (kR "NoRun" ["index"] (aB (eA "Execution" "taken" (aC 0)) aI)) aX)
 (aK (Kw (fun x y => x + y) "Execution" "taken" (aC 0) (mC (.int 1)))
 (bK (aS bU (eA "Execution" "bits" (aC 0)) (aS pA (eA "Execution" "taken" (aC 0)) (mC (.int 1)))))))
def lR : FD := run 1 1 rO
def pW : FS :=
 (aK (bJ (aS bU (eA "Execution" "active" (aC 0)) (aC 1)) (.nm 3))
 (aK (bH (rF (mB (aS Ek (m1 dY (aC 3)) (mC (.int 0)))) (mB (aS dZ (aS bU (aC 3) (m1 qL (mC (.int 1)))) (eA "Execution" "taken" (aC 0))))) (kR "NoRun" ["index"] (aB (m1 qL (mC (.int 2))) aI)) aX)
 (aK (cR (jT (aS bU (eA "Execution" "active" (aC 0)) (aC 1)) (eA "Execution" "taken" (aC 0))))
 (aK (cR (jT (eA "Execution" "stack" (aC 0)) (bW (aB (mC (.str "call")) (aB (aC 1) (aB (aC 2) aI))))))
 (cR (jT (eA "Execution" "stack" (aC 0)) (bW (aB (mC (.str "list")) (aB (aS bU (eA "Execution" "own" (aC 0)) (aC 1)) (aB (mC (.int 0)) aI))))))))))
def kP : FD := run 4 3 pW
def pV : FS :=
 (aK (cR (m1 A8 (aS bU (eA "Execution" "active" (aC 0)) (aC 1))))
 (aK (bH (mB (aS (C0 false) (aC 2) (mC .non))) (aK (lK "Execution" "ended" (aC 0) (aC 3))
 (bK (mC .non))) aX)
 (aK (bH (cF (aS bU (aC 2) (mC (.int 2)))) (cR (jT (eA "Execution" "deeds" (aC 0)) (bW (aB (mC (.str "close")) aI)))) aX)
 (cR (jT (eA "Execution" "stack" (aC 0)) (bW (aB (mC (.str "list")) (aB (aS bU (aS bU (aC 2) (mC (.int 3))) (aC 3)) (aB (mC (.int 0)) aI)))))))))
def kO : FD := run 4 4 pV
def mM : FS :=
 (aK (bH (mB (aS dZ (aS bU (aC 2) (mC (.int 0))) (mC (.str "close")))) (cR (jT (eA "Execution" "deeds" (aC 0)) (aC 2))) aX)
 (bJ (m1 A8 (eA "Execution" "stack" (aC 0))) (.nm 2)))
def oV : FS :=
 (aK (bJ (m1 A8 (eA "Execution" "stack" (aC 0))) (.nm 2))
 (aK (EM 1000000 (mB (aS DP (aS bU (aC 2) (mC (.int 0))) (mC (.str "call")))) mM)
 (cR (gE "Execution" "leave" kO (aC 0) (aB (aS bU (aC 2) (mC (.int 1))) (aB (aS bU (aC 2) (mC (.int 2))) (aB (aC 1) aI)))))))
def oM : FD := run 3 2 oV
def pX : FS :=
 (aK (bJ (aS bU (aC 1) (mC (.int 0))) (.nm 2))
 (bH (cF (aM dN (aB (aC 1) aI))) (cR (jT (eA "Execution" "deeds" (aC 0)) (aC 1))) (bH (mB (aS dZ (aC 2) (mC (.str "keep")))) (aK (cR (jT (eA "Execution" "deeds" (aC 0)) (bW (aB (mC (.str "open")) aI))))
 (aK (cR (jT (eA "Execution" "stack" (aC 0)) (bW (aB (mC (.str "close")) aI))))
 (cR (jT (eA "Execution" "stack" (aC 0)) (bW (aB (mC (.str "list")) (aB (aS bU (aC 1) (mC (.int 1))) (aB (mC (.int 0)) aI)))))))) (bH (mB (aS dZ (aC 2) (mC (.str "either")))) (cR (jT (eA "Execution" "stack" (aC 0)) (bW (aB (mC (.str "list")) (aB (aS bU (aC 1) (aS (cL false) (mC (.int 1)) (gE "Execution" "take" lR (aC 0) aI))) (aB (mC (.int 0)) aI)))))) (bH (mB (aS dZ (aC 2) (mC (.str "again")))) (cR (jT (eA "Execution" "stack" (aC 0)) (bW (aB (mC (.str "again")) (aB (aS bU (aC 1) (mC (.int 1))) aI))))) (bH (mB (aS dZ (aC 2) (mC (.str "call")))) (aK (bH (cF (aS bU (aC 1) (mC (.int 2)))) (cR (jT (eA "Execution" "deeds" (aC 0)) (bW (aB (mC (.str "open")) aI)))) aX)
 (cR (gE "Execution" "enter" kP (aC 0) (aB (aS bU (aC 1) (mC (.int 1))) (aB (aC 1) aI))))) (cR (gE "Execution" "unwind" oM (aC 0) (aB (aS bU (aC 1) (mC (.int 1))) aI)))))))))
def pI : FD := run 3 2 pX
def rP : FS :=
 (aK (bJ (m1 A8 (eA "Execution" "stack" (aC 0))) (.nm 1))
 (bH (mB (aS dZ (aS bU (aC 1) (mC (.int 0))) (mC (.str "list")))) (bH (mB (aS B7 (aS bU (aC 1) (mC (.int 2))) (m1 dY (aS bU (aC 1) (mC (.int 1)))))) (aK (cR (jT (eA "Execution" "stack" (aC 0)) (bW (aB (mC (.str "list")) (aB (aS bU (aC 1) (mC (.int 1))) (aB (aS (cL false) (aS bU (aC 1) (mC (.int 2))) (mC (.int 1))) aI))))))
 (cR (gE "Execution" "begin" pI (aC 0) (aB (aS bU (aS bU (aC 1) (mC (.int 1))) (aS bU (aC 1) (mC (.int 2)))) aI)))) aX) (bH (mB (aS dZ (aS bU (aC 1) (mC (.int 0))) (mC (.str "close")))) (cR (jT (eA "Execution" "deeds" (aC 0)) (aC 1))) (bH (mB (aS dZ (aS bU (aC 1) (mC (.int 0))) (mC (.str "again")))) (bH (mB (aS dZ (gE "Execution" "take" lR (aC 0) aI) (mC (.int 1)))) (aK (cR (jT (eA "Execution" "stack" (aC 0)) (aC 1)))
 (cR (jT (eA "Execution" "stack" (aC 0)) (bW (aB (mC (.str "list")) (aB (aS bU (aC 1) (mC (.int 1))) (aB (mC (.int 0)) aI))))))) aX) (cR (gE "Execution" "leave" kO (aC 0) (aB (aS bU (aC 1) (mC (.int 1))) (aB (aS bU (aC 1) (mC (.int 2))) (aB (mC (.int 0)) aI)))))))))
def rD : FD := run 2 1 rP
def eQ : FS :=
 (gL [3, 4] (bH (fU (cF (aM qZ (aB (aC 4) aI)))) (kR "NoRun" ["index"] (aB (aC 3) aI)) aX))
def qU : FS :=
 (cR (gE "Execution" "step" rD (aC 5) aI))
def lA : FS :=
 (aK (bH (fU (cF (aM gY (aB (aC 0) (aB (aC 1) aI))))) (nI "NoProcedure") aX)
 (aK (bH (fU (cF (m1 (fIsi "list") (aC 2)))) (kR "NoRun" ["index"] (aB (m1 qL (mC (.int 1))) aI)) aX)
 (aK (oZ (D0 (aC 2)) (.tp [3, 4]) eQ)
 (aK (bJ (Ht true "Execution" rE (aB (gE "Book" "bodies" vM (aC 0) aI) (aB (aC 2) aI))) (.nm 5))
 (aK (cR (gE "Execution" "enter" kP (aC 5) (aB (aC 1) (aB (mC .non) aI))))
 (aK (EM 1000000 (mB (aS Ek (m1 dY (eA "Execution" "stack" (aC 5))) (mC (.int 0)))) qU)
 (aK (bH (mB (aS B7 (eA "Execution" "taken" (aC 5)) (m1 dY (aC 2)))) (kR "NoRun" ["index"] (aB (eA "Execution" "taken" (aC 5)) aI)) aX)
 (bK (bW (aB (eA "Execution" "ended" (aC 5)) (aB (Kv (eA "Execution" "deeds" (aC 5))) aI)))))))))))
def dW : FD := CU 6 3 lA
def eF : FS :=
 (gL [4] (bH (mB (aS dZ (aS bU (aC 4) (mC (.int 0))) (mC (.str "open")))) (cR (jT (aC 3) (Az false (aC 1) tL (fJ (mC (.int 4)))))) (bH (mB (aS dZ (aS bU (aC 4) (mC (.int 0))) (mC (.str "close")))) (bJ (aS (cL false) (m1 A8 (aC 3)) (Az false (aC 1) (fJ (mC (.int 4))) tL)) (.nm 1)) (aK (bJ (aM jS (aB (aC 1) (aB (aC 4) aI))) (.nm 1))
 (cR (jT (aC 2) (aC 1)))))))
def mH : FS :=
 (aK (bJ (bT true aI) (.nm 2))
 (aK (bJ (bT true aI) (.nm 3))
 (aK (oZ (kQ (aC 0)) (.nm 4) eF)
 (bK (bW (aB (Kv (aC 2)) (aB (aC 1) aI)))))))
def jH : FD := CU 5 2 mH
def IV : FS :=
 (aK (bJ (aM dW (aB (aC 0) (aB (aC 1) (aB (aC 2) aI)))) (.tp [4, 5]))
 (aK (bH (fU (cF (aM mT (aB (aC 3) aI)))) (nI "NoPen") aX)
 (aK (bJ (aM jH (aB (aC 5) (aB (aC 3) aI))) (.tp [6, 7]))
 (bK (bW (aB (aC 4) (aB (aC 7) (aB (m1 dY (aC 6)) aI))))))))
def Hr : FD := run 8 4 IV
def iA : FS :=
 (gL [8] (bH (mB (aS dZ (aS bU (aC 8) (mC (.int 0))) (mC (.str "open")))) (aK (cR (jT (aC 6) (aC 5)))
 (bJ (aM sC aI) (.nm 5))) (bH (mB (aS dZ (aS bU (aC 8) (mC (.int 0))) (mC (.str "close")))) (bJ (aM sD (aB (m1 A8 (aC 6)) (aB (aM qJ (aB (aC 5) aI)) aI))) (.nm 5)) (aK (bJ (aM sD (aB (aC 5) (aB (aM mS (aB (aC 8) aI)) aI))) (.nm 5))
 (JL (fun x y => x + y) 7 (mC (.int 1)))))))
theorem MW {x0 : Vl} {S : aN} : mT [x0] S = bS (rM [some x0, none] S) := (rfl)
theorem HP {x0 x1 : Vl} {S : aN} : jS [x0, x1] S = bS (sP [some x0, some x1, none, none, none, none, none, none, none, none] S) := (rfl)
theorem HN {S : aN} : sC [] S = bS (wQ [none] S) := (rfl)
theorem GL {x0 : Vl} {S : aN} : mS [x0] S = trunc S.length (bS (uP [some x0, none, none, none, none, none, none, none, none] S)) := (rfl)
theorem HQ {x0 x1 : Vl} {S : aN} : sD [x0, x1] S = bS (wR [some x0, some x1, none, none, none, none, none, none, none] S) := (rfl)
theorem Cc {x0 : Vl} {S : aN} : qJ [x0] S = bS (qO [some x0, none, none, none] S) := (rfl)
theorem CG {x0 x1 x2 : Vl} {S : aN} : dW [x0, x1, x2] S = trunc S.length (bS (lA [some x0, some x1, some x2, none, none, none] S)) := (rfl)
theorem Cb {x0 x1 : Vl} {S : aN} : jH [x0, x1] S = trunc S.length (bS (mH [some x0, some x1, none, none, none] S)) := (rfl)
theorem E_ran {x0 x1 x2 x3 : Vl} {S : aN} : Hr [x0, x1, x2, x3] S = bS (IV [some x0, some x1, some x2, some x3, none, none, none, none] S) := (rfl)
def Ca : FS :=
 (aK (cR (Ov (eA "Graph" "edges" (aC 0)) (bT true aI)))
 (aK (cR (Ov (eA "Graph" "users" (aC 0)) (bT true aI)))
 (bK (aS pA (m1 fLenV (eA "Graph" "edges" (aC 0))) (mC (.int 1))))))
def lZ : FD := run 1 1 Ca
def CP : FS :=
 (gL [5, 6] (cR (jT (aS Je (eA "Graph" "users" (aC 0)) (aC 5)) (bW (aB (aC 1) (aB (aC 3) (aB (aC 6) aI)))))))
def GA : FS :=
 (aK (cR (jT (aS Je (eA "Graph" "edges" (aC 0)) (aC 1)) (bW (aB (mC (.str "unit")) (aB (aC 2) (aB (aC 3) (aB (aC 4) aI)))))))
 (oZ (mZipT (aC 2) (aC 4)) (.tp [5, 6]) CP))
def AM : FD := run 7 5 GA
def tQ (f_Graph_statement_point : FD) : FS :=
 (gL [5] (bJ (gE "Graph" "statement_point" (f_Graph_statement_point) (aC 0) (aB (aC 5) (aB (aC 4) (aB (aC 3) aI)))) (.nm 4)))
def wU (f_Graph_statement_point : FD) : FS :=
 (aK (bJ (aC 2) (.nm 4))
 (aK (oZ (Ou (m1 (vQ false) (aC 1))) (.nm 5) (tQ (f_Graph_statement_point)))
 (bK (aC 4))))
def oX (f_Graph_list_point : FD) : FS :=
 (gL [6] (cR (jT (aS Je (eA "Graph" "edges" (aC 0)) (aC 5)) (bW (aB (mC (.str "bit")) (aB (aC 6) (aB (gE "Graph" "list_point" (f_Graph_list_point) (aC 0) (aB (aS bU (aC 1) (aS (cL false) (mC (.int 1)) (aC 6))) (aB (aC 2) (aB (aC 3) aI)))) aI)))))))
def pB (f_Graph_list_point : FD) : FE :=
 (gE "Graph" "list_point" (f_Graph_list_point) (aC 0) (aB (aC 9) (aB (aC 2) (aB (aC 3) aI))))
def rN (f_Graph_list_point : FD) : FS :=
 (aK (bJ (aS bU (aC 1) (mC (.int 0))) (.nm 4))
 (aK (bH (mB (aS dZ (aC 4) (mC (.str "end")))) (bK (aS bU (aC 3) (aS bU (aC 1) (mC (.int 1))))) aX)
 (aK (bJ (gE "Graph" "point" lZ (aC 0) aI) (.nm 5))
 (aK (bH (cF (aM dN (aB (aC 1) aI))) (cR (jT (aS Je (eA "Graph" "edges" (aC 0)) (aC 5)) (bW (aB (mC (.str "command")) (aB (aM mS (aB (aC 1) aI)) (aB (aC 2) aI)))))) (bH (mB (aS dZ (aC 4) (mC (.str "either")))) (oZ (gZ (mC (.int 2))) (.nm 6) (oX (f_Graph_list_point))) (bH (mB (aS dZ (aC 4) (mC (.str "again")))) (aK (cR (jT (aS Je (eA "Graph" "edges" (aC 0)) (aC 5)) (bW (aB (mC (.str "bit")) (aB (mC (.int 0)) (aB (aC 2) aI))))))
 (cR (jT (aS Je (eA "Graph" "edges" (aC 0)) (aC 5)) (bW (aB (mC (.str "bit")) (aB (mC (.int 1)) (aB (gE "Graph" "list_point" (f_Graph_list_point) (aC 0) (aB (aS bU (aC 1) (mC (.int 1))) (aB (aC 5) (aB (aC 3) aI)))) aI))))))) (bH (mB (aS dZ (aC 4) (mC (.str "keep")))) (aK (bJ (bW (aB (gE "Graph" "point" lZ (aC 0) aI) (aB (gE "Graph" "point" lZ (aC 0) aI) (aB (gE "Graph" "point" lZ (aC 0) aI) aI)))) (.nm 7))
 (aK (cR (jT (eA "Graph" "starts" (aC 0)) (gE "Graph" "list_point" (f_Graph_list_point) (aC 0) (aB (aS bU (aC 1) (mC (.int 1))) (aB (aS bU (aC 7) (mC (.int 0))) (aB (bW (aB (aS bU (aC 7) (mC (.int 1))) (aB (aS bU (aC 7) (mC (.int 2))) aI))) aI))))))
 (cR (gE "Graph" "use" AM (aC 0) (aB (aC 5) (aB (aC 7) (aB (mC (.bl true)) (aB (bW (aB (aC 2) (aB (aS bU (aC 3) (mC (.int 0))) (aB (aS bU (aC 3) (mC (.int 1))) aI)))) aI)))))))) (aK (bJ (zW false (kQ (aS bU (aC 1) (mC (.int 3)))) (.nm 9) eV (pB (f_Graph_list_point)) [9]) (.nm 8))
 (cR (gE "Graph" "use" AM (aC 0) (aB (aC 5) (aB (aS bU (eA "Graph" "exits" (aC 0)) (aS bU (aC 1) (mC (.int 1)))) (aB (aS bU (aC 1) (mC (.int 2))) (aB (m1 fTuple (aC 8)) aI)))))))))))
 (bK (aC 5))))))
def wG : Nat -> FD × FD
 | 0 => (qB, qB)
 | n + 1 => let r := wG n
  (run 6 4 (wU r.2), run 10 4 (rN r.1))
def yQ : FS :=
 (bK (iH (m1 (fIsi "int") (aC 0)) (Fe (m1 (fIsi "bool") (aC 0)))))
def sA : FD := run 1 1 yQ
def yP : FS :=
 (bK (iH (aM sA (aB (aC 0) aI)) (gF F0 B7 (mC (.int 0)) (aC 0) (aC 1))))
def uE : FD := run 2 2 yP
def oC (f_L_same_2 : FD) : FE :=
 (aM (f_L_same_2) (aB (aS bU (aC 0) (aC 2)) (aB (aS bU (aC 1) (aC 2)) aI)))
def sR (f_L_same_2 : FD) : FS :=
 (aK (bH (cF (m1 (fIsi2 "list" "tuple") (aC 1))) (aK (bH (wD (fU (cF (m1 (fIsi2 "list" "tuple") (aC 0)))) (mB (aS DP (m1 (fIsi "list") (aC 0)) (m1 (fIsi "list") (aC 1))))) (bK (mC (.bl false))) aX)
 (bK (iH (aS dZ (m1 dY (aC 0)) (m1 dY (aC 1))) (m1 wK (zW false (gZ (m1 dY (aC 1))) (.nm 2) eV (oC (f_L_same_2)) [2]))))) aX)
 (aK (bH (wD (cF (m1 (fIsi "bool") (aC 0))) (cF (m1 (fIsi "bool") (aC 1)))) (bK (iH (m1 (fIsi "bool") (aC 0)) (iH (m1 (fIsi "bool") (aC 1)) (aS dZ (aC 0) (aC 1))))) aX)
 (aK (bH (cF (m1 (fIsi "int") (aC 1))) (bK (iH (m1 (fIsi "int") (aC 0)) (aS dZ (aC 0) (aC 1)))) aX)
 (aK (bH (cF (m1 (fIsi "str") (aC 1))) (bK (iH (m1 (fIsi "str") (aC 0)) (aS dZ (aC 0) (aC 1)))) aX)
 (bK (iH (aS (C0 false) (aC 0) (mC .non)) (aS (C0 false) (aC 1) (mC .non))))))))
def iG : Nat -> FD
 | 0 => qB
 | n + 1 => run 3 2 (sR (iG n))
theorem IY {x0 : Vl} {S : aN} : sA [x0] S = bS (yQ [some x0] S) := (rfl)
theorem MV {x0 x1 : Vl} {S : aN} : uE [x0, x1] S = bS (yP [some x0, some x1] S) := (rfl)
theorem HS {n : Nat} {x0 x1 : Vl} {S : aN} : iG (n + 1) [x0, x1] S = bS ((sR (iG n)) [some x0, some x1, none] S) := (rfl)
def sS (f_L_copied : FD) : FS :=
 (aK (bH (cF (m1 (fIsi "list") (aC 0))) (bK (zW false (kQ (aC 0)) (.nm 1) eV (aM (f_L_copied) (aB (aC 1) aI)) [1])) aX)
 (aK (bH (cF (m1 (fIsi "tuple") (aC 0))) (bK (m1 fTuple (zW false (kQ (aC 0)) (.nm 1) eV (aM (f_L_copied) (aB (aC 1) aI)) [1]))) aX)
 (bK (aC 0))))
def dE : Nat -> FD
 | 0 => qB
 | n + 1 => run 2 1 (sS (dE n))
theorem HU {n : Nat} {x0 : Vl} {S : aN} : dE (n + 1) [x0] S = bS ((sS (dE n)) [some x0, none] S) := (rfl)
def mZ : FS :=
 (bH (fU (cF (aM mT (aB (aC 0) aI)))) (nI "NoPen") aX)
def kD : FD := run 1 1 mZ
def yR : FS :=
 (aK (cR (aM kD (aB (aC 0) aI)))
 (aK (bH (fU (cF (aM dN (aB (aC 1) aI)))) (nI "NoCommand") aX)
 (bK (aM jS (aB (aC 0) (aB (aC 1) aI))))))
def uV : FD := run 2 2 yR
def AE : MU :=
 (Hs (bJ (aM dW (aB (aC 0) (aB (aC 1) (aB (aC 2) aI)))) (.tp [4, 5]))
 (Hs (bH (fU (cF (aM mT (aB (aC 3) aI)))) (nI "NoPen") aX)
 (Hs (bJ (aM jH (aB (aC 5) (aB (aC 3) aI))) (.tp [6, 7]))
 (mYf (aC 6)))))
def Cw : FDG := runG 8 4 AE
theorem AZ {x0 : Vl} {S : aN} : kD [x0] S = bS (mZ [some x0] S) := (rfl)
theorem IZ {x0 x1 : Vl} {S : aN} : uV [x0, x1] S = bS (yR [some x0, some x1] S) := (rfl)
theorem Jp {x0 x1 x2 x3 : Vl} {S : aN} : Cw [x0, x1, x2, x3] S = AE [some x0, some x1, some x2, some x3, none, none, none, none] S := (rfl)
def iO : FS :=
 (aK (lK "Live" "place" (aC 0) (Az false (aC 1) (fJ (mC (.int 0))) (fJ (mC (.int 2)))))
 (aK (lK "Live" "heading" (aC 0) (Az false (aC 1) (fJ (mC (.int 2))) (fJ (mC (.int 4)))))
 (lK "Live" "mark" (aC 0) (Az false (aC 1) (fJ (mC (.int 4))) (fJ (mC (.int 6)))))))
def eZ : FD := run 2 2 iO
def nA : FS :=
 (aK (cR (aM kD (aB (aC 2) aI)))
 (aK (lK "Live" "book" (aC 0) (aC 1))
 (cR (gE "Live" "move_to" eZ (aC 0) (aB (aC 2) aI)))))
def dG : FD := run 3 3 nA
def sQ : FS :=
 (bK (aS (cL false) (aS (cL false) (eA "Live" "place" (aC 0)) (eA "Live" "heading" (aC 0))) (eA "Live" "mark" (aC 0))))
def eY : FD := run 1 1 sQ
def lD : FS :=
 (aK (bH (fU (cF (aM uE (aB (aC 1) (aB (mC (.int 3)) aI))))) (nI "NoPart") aX)
 (aK (bH (mB (aS dZ (aC 1) (mC (.int 0)))) (bK (eA "Live" "place" (aC 0))) aX)
 (aK (bH (mB (aS dZ (aC 1) (mC (.int 1)))) (bK (eA "Live" "heading" (aC 0))) aX)
 (bK (eA "Live" "mark" (aC 0))))))
def gD : FD := run 2 2 lD
def lC : FS :=
 (aK (bH (fU (cF (aM uE (aB (aC 1) (aB (mC (.int 3)) aI))))) (nI "NoPart") aX)
 (aK (bH (wD (fU (cF (m1 (fIsi "tuple") (aC 2)))) (mB (aS DP (m1 dY (aC 2)) (mC (.int 2))))) (nI "NoNumber") aX)
 (aK (bH (wD (fU (cF (aM sA (aB (aS bU (aC 2) (mC (.int 0))) aI)))) (fU (cF (aM sA (aB (aS bU (aC 2) (mC (.int 1))) aI))))) (nI "NoNumber") aX)
 (bH (mB (aS dZ (aC 1) (mC (.int 0)))) (lK "Live" "place" (aC 0) (aC 2)) (bH (mB (aS dZ (aC 1) (mC (.int 1)))) (lK "Live" "heading" (aC 0) (aC 2)) (lK "Live" "mark" (aC 0) (aC 2)))))))
def dM : FD := run 3 3 lC
def pQ : FS :=
 (aK (cR (gE "Live" "move_to" eZ (aC 0) (aB (aM uV (aB (m1 (tA "Live" eY) (aC 0)) (aB (aC 1) aI))) aI)))
 (bK (aC 0)))
def gJ : FD := run 2 2 pQ
def pR : FS :=
 (aK (bJ (Gm 3 Hr (aB (eA "Live" "book" (aC 0)) (aB (aC 1) (aB (aC 2) aI))) (m1 (tA "Live" eY) (aC 0))) (.nm 3))
 (aK (cR (gE "Live" "move_to" eZ (aC 0) (aB (aS bU (aC 3) (mC (.int 1))) aI)))
 (bK (aS bU (aC 3) (mC (.int 0))))))
def fT : FD := run 4 3 pR
def vD : FS :=
 (aK (bJ (bT false (aB (m1 qL (mC (.int 1))) (aB (mC (.int 3)) (aB (mC (.int 7)) (aB (mC .non) (aB (mC (.bl true)) (aB (mC (.bl false)) (aB (mC (.str "0")) (aB (mC (.str "")) (aB (bT false (aB (mC (.int 0)) aI)) (aB (bW (aB (mC (.int 0)) aI)) (aB (bW aI) (aB (bT false aI) aI))))))))))))) (.nm 1))
 (bK (aM (dE 20) (aB (aS bU (aC 1) (aM bG (aB (aC 0) (aB (m1 dY (aC 1)) aI)))) aI))))
def hL : FD := run 2 1 vD
def pT : FS :=
 (aK (bH (wD (fU (cF (m1 (fIsi "int") (aC 0)))) (cF (m1 (fIsi "bool") (aC 0)))) (bK (mC (.bl false))) aX)
 (bK (gF F0 B7 (mC (.int 0)) (aC 0) (aC 1))))
def mU : FD := run 2 2 pT
def iL : FE :=
 (iH (m1 (fIsi "int") (aC 2)) (Fe (m1 (fIsi "bool") (aC 2))))
def oE : FS :=
 (aK (bH (wD (fU (cF (m1 (fIsi "tuple") (aC 0)))) (mB (aS DP (m1 dY (aC 0)) (aC 1)))) (bK (mC (.bl false))) aX)
 (bK (m1 wK (zW false (kQ (aC 0)) (.nm 2) eV iL [2]))))
def iS : FD := run 3 2 oE
def gH : FE :=
 (gF F0 F0 (aS bU (aC 2) (mC (.int 2))) (aC 3) (aS bU (aC 2) (mC (.int 3))))
def eR : FS :=
 (gL [2] (bH (rF (mB (aS dZ (aS bU (aC 2) (mC (.int 0))) (aS bU (aC 0) (mC (.int 0))))) (cF (aM iS (aB (Az false (aC 0) (fJ (mC (.int 1))) tL) (aB (aS bU (aC 2) (mC (.int 1))) aI))))) (bK (m1 wK (zW false (kQ (Az false (aC 0) (fJ (mC (.int 1))) tL)) (.nm 3) eV gH [3]))) aX))
def lE : FS :=
 (aK (bJ (bT false (aB (bW (aB (mC (.str "go")) (aB (mC (.int 1)) (aB (m1 qL (mC (.int 9))) (aB (mC (.int 9)) aI))))) (aB (bW (aB (mC (.str "turn")) (aB (mC (.int 1)) (aB (mC (.int 1)) (aB (mC (.int 3)) aI))))) (aB (bW (aB (mC (.str "mirror")) (aB (mC (.int 0)) (aB (mC (.int 0)) (aB (mC (.int 0)) aI))))) (aB (bW (aB (mC (.str "scale")) (aB (mC (.int 1)) (aB (m1 qL (mC (.int 3))) (aB (mC (.int 3)) aI))))) (aB (bW (aB (mC (.str "aim")) (aB (mC (.int 2)) (aB (m1 qL (mC (.int 9))) (aB (mC (.int 9)) aI))))) aI)))))) (.nm 1))
 (aK (bJ (aS (cL false) (aC 1) (bT false (aB (bW (aB (mC (.str "place")) (aB (mC (.int 2)) (aB (m1 qL (mC (.int 9))) (aB (mC (.int 9)) aI))))) (aB (bW (aB (mC (.str "mark")) (aB (mC (.int 0)) (aB (mC (.int 0)) (aB (mC (.int 0)) aI))))) (aB (bW (aB (mC (.str "return")) (aB (mC (.int 0)) (aB (mC (.int 0)) (aB (mC (.int 0)) aI))))) (aB (bW (aB (mC (.str "exchange")) (aB (mC (.int 0)) (aB (mC (.int 0)) (aB (mC (.int 0)) aI))))) aI)))))) (.nm 1))
 (aK (bH (wD (fU (cF (m1 (fIsi "tuple") (aC 0)))) (wD (mB (aS B7 (m1 dY (aC 0)) (mC (.int 1)))) (fU (cF (m1 (fIsi "str") (aS bU (aC 0) (mC (.int 0)))))))) (bK (mC (.bl false))) aX)
 (aK (oZ (kQ (aC 1)) (.nm 2) eR)
 (bK (mC (.bl false)))))))
def kN : FD := run 4 1 lE
def jI : FE :=
 (aS pA (aM bG (aB (aC 0) (aB (aS (cL false) (aS qM (mC (.int 2)) (aS Ej (mC (.int 10)) (mC (.int 8)))) (mC (.int 1))) aI))) (aS Ej (mC (.int 10)) (mC (.int 8))))
def pS : FS :=
 (aK (bJ (zW true (gZ (aC 1)) (.nm 5) eV jI [5]) (.nm 2))
 (aK (bJ (aM bG (aB (aC 0) (aB (mC (.int 8)) aI))) (.nm 3))
 (aK (bJ (aM bG (aB (aC 0) (aB (aC 1) aI))) (.nm 4))
 (aK (bH (mB (aS dZ (aC 3) (mC (.int 0)))) (Bq (aM hL (aB (aC 0) aI)) (aC 2) (aC 4)) aX)
 (aK (bH (mB (aS dZ (aC 3) (mC (.int 1)))) (aK (Cz 2) (bK (aS bU (bT false (aB (aC 2) (aB (mC .non) (aB (aS bU (aC 2) (aC 4)) (aB (mC (.bl true)) (aB (mC (.str "12")) (aB (bW aI) aI))))))) (aM bG (aB (aC 0) (aB (mC (.int 6)) aI)))))) aX)
 (aK (bH (mB (aS dZ (aC 3) (mC (.int 2)))) (cR (Q5 (aC 2) (aC 4) (mC (.int 0)))) aX)
 (aK (bH (mB (aS dZ (aC 3) (mC (.int 3)))) (cR (Gk (aC 2) (aC 4))) aX)
 (bK (m1 fTuple (aC 2))))))))))
def eC : FD := CU 6 2 pS
def yT : FS :=
 (aK (bJ (aM gK (aB (aC 0) (aB (mC (.int 5)) aI))) (.nm 1))
 (aK (bJ (aM bG (aB (aC 0) (aB (mC (.int 7)) aI))) (.nm 2))
 (aK (bH (mB (aS dZ (aC 2) (mC (.int 0)))) (bK (aS (cL false) (aC 1) (bW (aB (aM hL (aB (aC 0) aI)) aI)))) aX)
 (aK (bH (rF (mB (aS dZ (aC 2) (mC (.int 1)))) (mB (aS Ek (m1 dY (aC 1)) (mC (.int 1))))) (aK (bJ (aS (cL false) (mC (.int 1)) (aM bG (aB (aC 0) (aB (aS pA (m1 dY (aC 1)) (mC (.int 1))) aI)))) (.nm 3))
 (bK (aS (cL false) (aS (cL false) (Az false (aC 1) tL (fJ (aC 3))) (bW (aB (aS pA (aM bG (aB (aC 0) (aB (mC (.int 25)) aI))) (mC (.int 12))) aI))) (Az false (aC 1) (fJ (aS (cL false) (aC 3) (mC (.int 1)))) tL)))) aX)
 (aK (bH (rF (mB (aS dZ (aC 2) (mC (.int 2)))) (mB (aS Ek (m1 dY (aC 1)) (mC (.int 1))))) (bK (aS (cL false) (Az false (aC 1) tL (fJ (m1 qL (mC (.int 1))))) (bW (aB (aM hL (aB (aC 0) aI)) aI)))) aX)
 (aK (bH (mB (aS dZ (aC 2) (mC (.int 3)))) (bK (aS bU (bT false (aB (m1 (vQ false) (aC 1)) (aB (Az false (aC 1) tL (fJ (m1 qL (mC (.int 1))))) (aB (Az false (aC 1) (fJ (mC (.int 1))) tL) (aB (mC .non) (aB (mC (.str "mark")) (aB (bW (aB (mC (.str "keep")) (aB (bT false aI) aI))) (aB (bW (aB (mC (.str "end")) (aB (mC (.int 0)) aI))) (aB (bW (aB (mC (.str "Go")) (aB (mC (.int 1)) aI))) aI))))))))) (aM bG (aB (aC 0) (aB (mC (.int 8)) aI))))) aX)
 (bK (aC 1))))))))
def rA : FD := run 4 1 yT
def mJ : FS :=
 (aK (bJ (bT false aI) (.nm 5))
 (aK (xT ["NoBook", "NoCommand", "NoNumber", "NoPart", "NoPath", "NoPen", "NoProcedure", "NoRun"] (bH (mB (aS dZ (aC 2) (mC (.int 0)))) (bJ (aS (xZ "Live" gD) (aC 0) (aC 3)) (.nm 4)) (bH (mB (aS dZ (aC 2) (mC (.int 1)))) (Cy "Live" dM (aC 4) (aC 0) (aC 3)) (bH (mB (aS dZ (aC 2) (mC (.int 2)))) (bJ (sF true "Live" 1 dG (aB (aC 1) aI) (aC 4)) (.nm 4)) (bH (mB (aS dZ (aC 2) (mC (.int 3)))) (zX "Live" gJ 0 (aC 4)) (bJ (zY "Live" fT 0 (aB (aC 3) (aB (aC 4) aI))) (.nm 4)))))) 6 5 [.own "NoPart", .own "NoNumber", .own "NoPen"] [[.own "NoCommand", .own "NoProcedure", .own "NoRun"]] none)
 (bK (aS (cL false) (zW false (gZ (m1 dY (aC 5))) (.nm 7) (cF (aS bU (aC 5) (aC 7))) (aC 7) [7]) (aS IL (bT false (aB (mC (.int 9)) aI)) (m1 vJ (aS Ek (m1 dY (aC 5)) (mC (.int 0)))))))))
def hJ : FD := CU 8 5 mJ
def vE : FS :=
 (aK (bH (mB (aS B7 (aC 1) (mC (.int 2)))) (aK (bH (fU (cF (aM mU (aB (aC 2) (aB (mC (.int 3)) aI))))) (bK (bT false (aB (mC (.int 0)) (aB (mC (.int 9)) aI)))) aX)
 (bH (rF (mB (aS dZ (aC 1) (mC (.int 1)))) (fU (cF (aM iS (aB (aC 3) (aB (mC (.int 2)) aI)))))) (bK (bT false (aB (mC (.int 1)) (aB (mC (.int 9)) aI)))) aX)) aX)
 (aK (bH (rF (mB (aS dZ (aC 1) (mC (.int 2)))) (fU (cF (aM iS (aB (aC 3) (aB (mC (.int 6)) aI)))))) (bK (bT false (aB (mC (.int 2)) (aB (mC (.int 9)) aI)))) aX)
 (aK (bH (rF (mB (aS dZ (aC 1) (mC (.int 3)))) (fU (cF (aM kN (aB (aC 3) aI))))) (bK (bT false (aB (mC (.int 3)) (aB (mC (.int 9)) aI)))) aX)
 (aK (bH (rF (mB (aS dZ (aC 1) (mC (.int 4)))) (fU (cF (aM mU (aB (aC 2) (aB (m1 dY (aC 0)) aI)))))) (bK (bT false (aB (mC (.int 4)) (aB (mC (.int 9)) aI)))) aX)
 (aK (bH (mB (aS dZ (aC 1) (mC (.int 4)))) (bK (bT false (aB (mC (.int 5)) (aB (mC (.int 9)) aI)))) aX)
 (bK (bT false aI)))))))
def rC : FD := run 4 4 vE
def mY : FE :=
 (aS pA (aM bG (aB (aC 1) (aB (aS (cL false) (aS qM (mC (.int 2)) (aS Ej (mC (.int 10)) (mC (.int 8)))) (mC (.int 1))) aI))) (aS Ej (mC (.int 10)) (mC (.int 8))))
def mL : FS :=
 (gL [6, 7, 8, 9, 10, 11] (aK (bJ (m1 (tA "Live" eY) (aC 5)) (.nm 7))
 (aK (bJ (aM bG (aB (aC 1) (aB (mC (.int 5)) aI))) (.nm 8))
 (aK (bJ (aM bG (aB (aC 1) (aB (mC (.int 3)) aI))) (.nm 9))
 (aK (bH (mB (aS dZ (aM bG (aB (aC 1) (aB (mC (.int 4)) aI))) (mC (.int 0)))) (bJ (aM hL (aB (aC 1) aI)) (.nm 9)) aX)
 (aK (bH (mB (aS B7 (aC 8) (mC (.int 2)))) (bJ (aM eC (aB (aC 1) (aB (mC (.int 2)) aI))) (.nm 10)) (bH (mB (aS dZ (aC 8) (mC (.int 2)))) (bJ (aM eC (aB (aC 1) (aB (mC (.int 6)) aI))) (.nm 10)) (bH (mB (aS dZ (aC 8) (mC (.int 3)))) (bJ (aM rA (aB (aC 1) aI)) (.nm 10)) (bJ (aS bU (bT false (aB (mC .non) (aB (mC (.int 0)) (aB (bW (aB (mC (.int 0)) (aB (mC (.int 1)) aI))) (aB (bT false (aB (mC (.int 0)) (aB (mC (.int 1)) (aB (mC (.bl true)) aI)))) (aB (bT false (aB (mC (.int 0)) (aB (mC .non) aI))) (aB (bT false (aB (mC (.str "0")) aI)) (aB (bT false (aB (mC (.int 2)) aI)) (aB (mC (.str "01")) aI))))))))) (aM bG (aB (aC 1) (aB (mC (.int 8)) aI)))) (.nm 10)))))
 (aK (bJ (aM rC (aB (aC 2) (aB (aC 8) (aB (aC 9) (aB (aC 10) aI))))) (.nm 11))
 (aK (bH (mB (aS DP (aM hJ (aB (aC 5) (aB (aC 3) (aB (aC 8) (aB (aC 9) (aB (aM (dE 20) (aB (aC 10) aI)) aI)))))) (aC 11))) (bK (mC (.bl false))) aX)
 (bH (rF (cF (aC 11)) (fU (cF (aM (iG 20) (aB (m1 (tA "Live" eY) (aC 5)) (aB (aC 7) aI)))))) (bK (mC (.bl false))) aX)))))))))
def pF : FS :=
 (aK (oZ (gZ (mC (.int 8))) (.nm 6) mL)
 (bK (mC (.bl true))))
def rL : FS :=
 (aK (bJ (aM xR (aB (aC 0) aI)) (.nm 1))
 (aK (bJ (aM xS (aB (aC 1) (aB (mC (.int 3)) (aB (mC (.int 6)) aI)))) (.nm 2))
 (aK (bJ (Ht false "Book" kG (aB (aM (dE 20) (aB (aC 2) aI)) aI)) (.nm 3))
 (aK (bJ (m1 fTuple (zW false (gZ (mC (.int 6))) (.nm 12) eV mY [12])) (.nm 4))
 (aK (bJ (sF true "Live" 1 dG (aB (aC 3) aI) (aC 4)) (.nm 5))
 (aK (bH (fU (cF (aM (iG 20) (aB (m1 (tA "Live" eY) (aC 5)) (aB (aC 4) aI))))) (bK (mC (.bl false))) aX)
 pF))))))
def m_law_k97 : FD := CU 13 1 rL
theorem uQ {x0 x1 : Vl} {S : aN} : eZ [x0, x1] S = bS (iO [some x0, some x1] S) := (rfl)
theorem Aa {x0 x1 x2 : Vl} {S : aN} : dG [x0, x1, x2] S = bS (nA [some x0, some x1, some x2] S) := (rfl)
theorem HR {x0 : Vl} {S : aN} : eY [x0] S = bS (sQ [some x0] S) := (rfl)
theorem CI {x0 x1 : Vl} {S : aN} : gD [x0, x1] S = bS (lD [some x0, some x1] S) := (rfl)
theorem CH {x0 x1 x2 : Vl} {S : aN} : dM [x0, x1, x2] S = bS (lC [some x0, some x1, some x2] S) := (rfl)
theorem GM {x0 x1 : Vl} {S : aN} : gJ [x0, x1] S = bS (pQ [some x0, some x1] S) := (rfl)
theorem GN {x0 x1 x2 : Vl} {S : aN} : fT [x0, x1, x2] S = bS (pR [some x0, some x1, some x2, none] S) := (rfl)
theorem Jr {x0 : Vl} {S : aN} : hL [x0] S = bS (vD [some x0, none] S) := (rfl)
theorem GP {x0 x1 : Vl} {S : aN} : mU [x0, x1] S = bS (pT [some x0, some x1] S) := (rfl)
theorem Ew {x0 x1 : Vl} {S : aN} : iS [x0, x1] S = bS (oE [some x0, some x1, none] S) := (rfl)
theorem CJ {x0 : Vl} {S : aN} : kN [x0] S = bS (lE [some x0, none, none, none] S) := (rfl)
theorem GO {x0 x1 : Vl} {S : aN} : eC [x0, x1] S = trunc S.length (bS (pS [some x0, some x1, none, none, none, none] S)) := (rfl)
theorem MX {x0 : Vl} {S : aN} : rA [x0] S = bS (yT [some x0, none, none, none] S) := (rfl)
theorem Cd {x0 x1 x2 x3 x4 : Vl} {S : aN} : hJ [x0, x1, x2, x3, x4] S = trunc S.length (bS (mJ [some x0, some x1, some x2, some x3, some x4, none, none, none] S)) := (rfl)
theorem Js {x0 x1 x2 x3 : Vl} {S : aN} : rC [x0, x1, x2, x3] S = bS (vE [some x0, some x1, some x2, some x3] S) := (rfl)
theorem Jq {x0 : Vl} {S : aN} : m_law_k97 [x0] S = trunc S.length (bS (rL [some x0, none, none, none, none, none, none, none, none, none, none, none, none] S)) := (rfl)
end PH
namespace PHZ
open PH PySem PySem.Spec PyProof.Rows L2
theorem CQ : FnScope ["value"] ["value"] (defScope rV) := ⟨rfl, rfl, rfl, by decide +kernel, rfl, by decide +kernel, by decide +kernel⟩
theorem Ir : FnScope ["value"] ["value"] (defScope BQ) := ⟨rfl, rfl, rfl, by decide +kernel, rfl, by decide +kernel, by decide +kernel⟩
theorem Iq : FnScope ["value", "number"] ["value"] (defScope xF) := ⟨rfl, rfl, rfl, by decide +kernel, rfl, by decide +kernel, by decide +kernel⟩
theorem CS : FnScope ["value", "many", "low", "high", "number"] ["value"] (defScope nR) := ⟨rfl, rfl, rfl, by decide +kernel, rfl, by decide +kernel, by decide +kernel⟩
theorem FH : FnScope ["pen", "command", "x", "y", "u", "v", "p", "q", "word", "step"] ["pen", "command"] (defScope wA) := ⟨rfl, rfl, rfl, by decide +kernel, rfl, by decide +kernel, by decide +kernel⟩
theorem Dq : FnScope ["pen"] ["pen"] (defScope tV) := ⟨rfl, rfl, rfl, by decide +kernel, rfl, by decide +kernel, by decide +kernel⟩
theorem KP : FnScope ["pen", "command"] ["pen", "command"] (defScope E7) := ⟨rfl, rfl, rfl, by decide +kernel, rfl, by decide +kernel, by decide +kernel⟩
theorem Ds : FnScope ["statement", "word"] ["statement"] (defScope tW) := ⟨rfl, rfl, rfl, by decide +kernel, rfl, by decide +kernel, by decide +kernel⟩
theorem BI : FnScope ["statement", "blocks", "word"] ["statement", "blocks"] (defScope qC) := ⟨rfl, rfl, rfl, by decide +kernel, rfl, by decide +kernel, by decide +kernel⟩
theorem sX : FnScope ["block", "statement"] ["block"] (defScope kL) := ⟨rfl, rfl, rfl, by decide +kernel, rfl, by decide +kernel, by decide +kernel⟩
theorem nM : FnScope ["statement", "block"] ["statement"] (defScope gO) := ⟨rfl, rfl, rfl, by decide +kernel, rfl, by decide +kernel, by decide +kernel⟩
theorem BJ : FnScope ["value", "level", "many", "word"] ["value", "level", "many"] (defScope qD) := ⟨rfl, rfl, rfl, by decide +kernel, rfl, by decide +kernel, by decide +kernel⟩
theorem tT : FnScope ["block", "level", "many", "path", "met", "at", "statement", "here", "number", "inner", "fault"] ["block", "level", "many", "path", "met"] (defScope qF) := ⟨rfl, rfl, rfl, by decide +kernel, rfl, by decide +kernel, by decide +kernel⟩
theorem Dz : FnScope ["self", "bodies", "procedure", "body", "fault", "met"] ["self", "bodies"] (defScope jZ) := ⟨rfl, rfl, rfl, by decide +kernel, rfl, by decide +kernel, by decide +kernel⟩
theorem FK : FnScope ["self"] ["self"] (defScope oI) := ⟨rfl, rfl, rfl, by decide +kernel, rfl, by decide +kernel, by decide +kernel⟩
theorem BO : FnScope ["self", "body"] ["self"] (defScope hI) := ⟨rfl, rfl, rfl, by decide +kernel, rfl, by decide +kernel, by decide +kernel⟩
theorem zO : FnScope ["book", "procedure"] ["book", "procedure"] (defScope nF) := ⟨rfl, rfl, rfl, by decide +kernel, rfl, by decide +kernel, by decide +kernel⟩
theorem xD : FnScope ["self", "bodies", "bits", "body"] ["self", "bodies", "bits"] (defScope eT) := ⟨rfl, rfl, rfl, by decide +kernel, rfl, by decide +kernel, by decide +kernel⟩
theorem xB : FnScope ["self"] ["self"] (defScope gB) := ⟨rfl, rfl, rfl, by decide +kernel, rfl, by decide +kernel, by decide +kernel⟩
theorem vX : FnScope ["self", "procedure", "statement", "earlier"] ["self", "procedure", "statement"] (defScope fP) := ⟨rfl, rfl, rfl, by decide +kernel, rfl, by decide +kernel, by decide +kernel⟩
theorem vW : FnScope ["self", "procedure", "statement", "way"] ["self", "procedure", "statement", "way"] (defScope fO) := ⟨rfl, rfl, rfl, by decide +kernel, rfl, by decide +kernel, by decide +kernel⟩
theorem vG : FnScope ["self", "way", "task"] ["self", "way"] (defScope eX) := ⟨rfl, rfl, rfl, by decide +kernel, rfl, by decide +kernel, by decide +kernel⟩
theorem vY : FnScope ["self", "statement", "word"] ["self", "statement"] (defScope fQ) := ⟨rfl, rfl, rfl, by decide +kernel, rfl, by decide +kernel, by decide +kernel⟩
theorem xC : FnScope ["self", "task"] ["self"] (defScope gC) := ⟨rfl, rfl, rfl, by decide +kernel, rfl, by decide +kernel, by decide +kernel⟩
theorem Ab : FnScope ["book", "procedure", "bits", "index", "bit", "execution"] ["book", "procedure", "bits"] (defScope oG) := ⟨rfl, rfl, rfl, by decide +kernel, rfl, by decide +kernel, by decide +kernel⟩
theorem BK : FnScope ["deeds", "pen", "pens", "held", "deed"] ["deeds", "pen"] (defScope qE) := ⟨rfl, rfl, rfl, by decide +kernel, rfl, by decide +kernel, by decide +kernel⟩
theorem sc_ran : FnScope ["book", "procedure", "bits", "pen", "way", "deeds", "pens", "last"] ["book", "procedure", "bits", "pen"] (defScope Cm) := ⟨rfl, rfl, rfl, by decide +kernel, rfl, by decide +kernel, by decide +kernel⟩
theorem KO : FnScope ["value"] ["value"] (defScope E5) := ⟨rfl, rfl, rfl, by decide +kernel, rfl, by decide +kernel, by decide +kernel⟩
theorem Ip : FnScope ["value", "bound"] ["value", "bound"] (defScope BP) := ⟨rfl, rfl, rfl, by decide +kernel, rfl, by decide +kernel, by decide +kernel⟩
theorem Ad : FnScope ["self", "pen"] ["self", "pen"] (defScope iD) := ⟨rfl, rfl, rfl, by decide +kernel, rfl, by decide +kernel, by decide +kernel⟩
theorem sc_Live_init : FnScope ["self", "book", "pen"] ["self", "book", "pen"] (defScope jY) := ⟨rfl, rfl, rfl, by decide +kernel, rfl, by decide +kernel, by decide +kernel⟩
theorem sc_Live_pen : FnScope ["self"] ["self"] (defScope lP) := ⟨rfl, rfl, rfl, by decide +kernel, rfl, by decide +kernel, by decide +kernel⟩
theorem Ae : FnScope ["self", "part"] ["self", "part"] (defScope iE) := ⟨rfl, rfl, rfl, by decide +kernel, rfl, by decide +kernel, by decide +kernel⟩
theorem Ac : FnScope ["self", "part", "value"] ["self", "part", "value"] (defScope iC) := ⟨rfl, rfl, rfl, by decide +kernel, rfl, by decide +kernel, by decide +kernel⟩
theorem Dt : FnScope ["self", "command"] ["self", "command"] (defScope mO) := ⟨rfl, rfl, rfl, by decide +kernel, rfl, by decide +kernel, by decide +kernel⟩
theorem Du : FnScope ["self", "procedure", "bits", "told"] ["self", "procedure", "bits"] (defScope mP) := ⟨rfl, rfl, rfl, by decide +kernel, rfl, by decide +kernel, by decide +kernel⟩
theorem Iv : FnScope ["_law_script", "_law_cell"] ["_law_script"] (defScope xG) := ⟨rfl, rfl, rfl, by decide +kernel, rfl, by decide +kernel, by decide +kernel⟩
theorem Iy : FnScope ["_law_pool_here", "_law_many", "_law_at", "_law_cell", "_law_number"] ["_law_pool_here", "_law_many"] (defScope BV) := ⟨rfl, rfl, rfl, by decide +kernel, rfl, by decide +kernel, by decide +kernel⟩
theorem Dy : FnScope ["_law_pool_here", "_law_mood", "_law_menus", "_law_menu", "_law_kind", "_law_far"] ["_law_pool_here", "_law_mood"] (defScope tY) := ⟨rfl, rfl, rfl, by decide +kernel, rfl, by decide +kernel, by decide +kernel⟩
theorem Iw : FnScope ["_law_pool_here", "_law_mood", "_law_k", "_law_kind", "_law_rows"] ["_law_pool_here", "_law_mood"] (defScope BU) := ⟨rfl, rfl, rfl, by decide +kernel, rfl, by decide +kernel, by decide +kernel⟩
theorem BM : FnScope ["_law_pool_here", "_law_mood", "_law_level", "_law_room", "_law_calls", "_law_low", "_law_kind", "_law_pair_here", "_law_inner", "_law_one", "_law_goal", "_law_saved"] ["_law_pool_here", "_law_mood", "_law_level", "_law_room", "_law_calls", "_law_low"] (defScope zP) := ⟨rfl, rfl, rfl, by decide +kernel, rfl, by decide +kernel, by decide +kernel⟩
theorem BN : FnScope ["_law_pool_here", "_law_mood", "_law_level", "_law_room", "_law_calls", "_law_low", "_law_block_here", "_law_turn"] ["_law_pool_here", "_law_mood", "_law_level", "_law_room", "_law_calls", "_law_low"] (defScope zS) := ⟨rfl, rfl, rfl, by decide +kernel, rfl, by decide +kernel, by decide +kernel⟩
theorem FJ : FnScope ["_law_pool_here", "_law_mood", "_law_room", "_law_calls", "_law_goal", "_law_saved", "_law_at", "_law_pair_here", "_law_rows"] ["_law_pool_here", "_law_mood", "_law_room", "_law_calls"] (defScope wB) := ⟨rfl, rfl, rfl, by decide +kernel, rfl, by decide +kernel, by decide +kernel⟩
theorem J0 : FnScope ["_law_pool_here", "_law_mood", "_law_room", "_law_calls", "_law_low", "_law_ending", "_law_body_here", "_law_turn", "_law_rows"] ["_law_pool_here", "_law_mood", "_law_room", "_law_calls", "_law_low"] (defScope BX) := ⟨rfl, rfl, rfl, by decide +kernel, rfl, by decide +kernel, by decide +kernel⟩
theorem Iz : FnScope ["_law_pool_here", "_law_most", "_law_size", "_law_mood", "_law_wild", "_law_many", "_law_calls", "_law_bodies", "_law_procedure", "_law_room", "_law_low"] ["_law_pool_here", "_law_most", "_law_size"] (defScope BW) := ⟨rfl, rfl, rfl, by decide +kernel, rfl, by decide +kernel, by decide +kernel⟩
theorem AJ : FnScope ["_law_value", "_law_item"] ["_law_value"] (defScope oH) := ⟨rfl, rfl, rfl, by decide +kernel, rfl, by decide +kernel, by decide +kernel⟩
theorem AI : FnScope ["_law_one", "_law_other", "_law_k"] ["_law_one", "_law_other"] (defScope rW) := ⟨rfl, rfl, rfl, by decide +kernel, rfl, by decide +kernel, by decide +kernel⟩
theorem GW : FnScope ["_law_pool_here", "_law_odds"] ["_law_pool_here"] (defScope zQ) := ⟨rfl, rfl, rfl, by decide +kernel, rfl, by decide +kernel, by decide +kernel⟩
theorem Dx : FnScope ["_law_thing", "_law_bound"] ["_law_thing", "_law_bound"] (defScope tX) := ⟨rfl, rfl, rfl, by decide +kernel, rfl, by decide +kernel, by decide +kernel⟩
theorem CT : FnScope ["_law_thing", "_law_many", "_law_number"] ["_law_thing", "_law_many"] (defScope nS) := ⟨rfl, rfl, rfl, by decide +kernel, rfl, by decide +kernel, by decide +kernel⟩
theorem Af : FnScope ["_law_thing", "_law_rows", "_law_row", "_law_number"] ["_law_thing"] (defScope kM) := ⟨rfl, rfl, rfl, by decide +kernel, rfl, by decide +kernel, by decide +kernel⟩
theorem Dw : FnScope ["_law_pool_here", "_law_many", "_law_row", "_law_kind", "_law_at", "_law_k"] ["_law_pool_here", "_law_many"] (defScope pE) := ⟨rfl, rfl, rfl, by decide +kernel, rfl, by decide +kernel, by decide +kernel⟩
theorem Iu : FnScope ["_law_pool_here", "_law_step_here", "_law_kind", "_law_at"] ["_law_pool_here"] (defScope BS) := ⟨rfl, rfl, rfl, by decide +kernel, rfl, by decide +kernel, by decide +kernel⟩
theorem BL : FnScope ["_law_live", "_law_book_here", "_law_kind", "_law_part", "_law_thing", "_law_sorts", "e", "_law_k"] ["_law_live", "_law_book_here", "_law_kind", "_law_part", "_law_thing"] (defScope lW) := ⟨rfl, rfl, rfl, by decide +kernel, rfl, by decide +kernel, by decide +kernel⟩
theorem GX : FnScope ["_law_bodies", "_law_kind", "_law_part", "_law_thing"] ["_law_bodies", "_law_kind", "_law_part", "_law_thing"] (defScope zR) := ⟨rfl, rfl, rfl, by decide +kernel, rfl, by decide +kernel, by decide +kernel⟩
theorem sc_law_k97 : FnScope ["_law_script", "_law_pool_here", "_law_bodies", "_law_book_here", "_law_start", "_law_live", "_law_turn", "_law_before", "_law_kind", "_law_part", "_law_thing", "_law_due_here", "_law_k"] ["_law_script"] (defScope qX) := ⟨rfl, rfl, rfl, by decide +kernel, rfl, by decide +kernel, by decide +kernel⟩
theorem GV : FnScope ["self", "procedure", "path"] ["self", "procedure", "path"] (defScope qW) := ⟨rfl, rfl, rfl, by decide +kernel, rfl, by decide +kernel, by decide +kernel⟩
theorem Io : FnScope ["self", "index"] ["self", "index"] (defScope tS) := ⟨rfl, rfl, rfl, by decide +kernel, rfl, by decide +kernel, by decide +kernel⟩
structure Txt (w : World) (K : aD) (mg : Str -> Option Value) : Prop where
 n_isinstance : mg "isinstance" = none
 n_int : mg "int" = none
 n_bool : mg "bool" = none
 n_tuple : mg "tuple" = none
 n_len : mg "len" = none
 n_all : mg "all" = none
 n_str : mg "str" = none
 lim : Lim K
 k_LIMITS : ∃ es n, KDict K w (He.ga K "LIMITS") es n
 g_LIMITS : mg "LIMITS" = some (.ref (He.ga K "LIMITS"))
 n_range : mg "range" = none
 x_NoPen : XcF K mg "NoPen"
 x_NoCommand : XcF K mg "NoCommand"
 i_DEEPEST : ∃ t, mg "DEEPEST" = some (.int 3 t)
 n_list : mg "list" = none
 n_enumerate : mg "enumerate" = none
 i_MOST_IN_LIST : ∃ t, mg "MOST_IN_LIST" = some (.int 8 t)
 i_MOST_IN_PROCEDURE : ∃ t, mg "MOST_IN_PROCEDURE" = some (.int 12 t)
 i_MOST_PROCEDURES : ∃ t, mg "MOST_PROCEDURES" = some (.int 3 t)
 xa_NoBook : XaF K mg "NoBook" ["procedure", "path"]
 fx_NoBook : CK K "NoBook" "__init__" "NoBook.__init__" qW
 c_Book : Cls K (He.ga K "Book")
 a_Book_own : NoAttr K (He.ga K "Book") "own"
 c_Execution : Cls K (He.ga K "Execution")
 a_Execution_own : NoAttr K (He.ga K "Execution") "own"
 a_Execution_bits : NoAttr K (He.ga K "Execution") "bits"
 a_Execution_taken : NoAttr K (He.ga K "Execution") "taken"
 a_Execution_deeds : NoAttr K (He.ga K "Execution") "deeds"
 a_Execution_stack : NoAttr K (He.ga K "Execution") "stack"
 a_Execution_active : NoAttr K (He.ga K "Execution") "active"
 a_Execution_ended : NoAttr K (He.ga K "Execution") "ended"
 xa_NoRun : XaF K mg "NoRun" ["index"]
 fx_NoRun : CK K "NoRun" "__init__" "NoRun.__init__" tS
 x_NoProcedure : XcF K mg "NoProcedure"
 T_Execution : ClF K mg "Execution"
 c_Live : Cls K (He.ga K "Live")
 a_Live_place : NoAttr K (He.ga K "Live") "place"
 a_Live_heading : NoAttr K (He.ga K "Live") "heading"
 a_Live_mark : NoAttr K (He.ga K "Live") "mark"
 a_Live_book : NoAttr K (He.ga K "Live") "book"
 x_NoPart : XcF K mg "NoPart"
 x_NoNumber : XcF K mg "NoNumber"
 nq_Live : qT K (He.ga K "Live") = true
 T_Live : ClF K mg "Live"
 sf_Live : zI K (He.ga K "Live") = true
 g_NoRun : mg "NoRun" = some (.ref (He.ga K "NoRun"))
 g_NoProcedure : mg "NoProcedure" = some (.ref (He.ga K "NoProcedure"))
 g_NoCommand : mg "NoCommand" = some (.ref (He.ga K "NoCommand"))
 g_NoPen : mg "NoPen" = some (.ref (He.ga K "NoPen"))
 g_NoNumber : mg "NoNumber" = some (.ref (He.ga K "NoNumber"))
 g_NoPart : mg "NoPart" = some (.ref (He.ga K "NoPart"))
 xb_L_requested : XHs K "HomeError" ["NoBook", "NoCommand", "NoNumber", "NoPart", "NoPath", "NoPen", "NoProcedure", "NoRun"] (AF [.own "NoPart", .own "NoNumber", .own "NoPen"] [[.own "NoCommand", .own "NoProcedure", .own "NoRun"]] none)
 g_HomeError : mg "HomeError" = some (.ref (He.ga K "HomeError"))
 T_Book : ClF K mg "Book"
 G_is_integer : mg "is_integer" = some (.ref (He.ga K "is_integer"))
 f_is_integer : qQ K "is_integer" rV
 G_is_bit : mg "is_bit" = some (.ref (He.ga K "is_bit"))
 f_is_bit : qQ K "is_bit" BQ
 G_is_pen : mg "is_pen" = some (.ref (He.ga K "is_pen"))
 f_is_pen : qQ K "is_pen" xF
 G_is_command : mg "is_command" = some (.ref (He.ga K "is_command"))
 f_is_command : qQ K "is_command" nR
 G_executed : mg "executed" = some (.ref (He.ga K "executed"))
 f_executed : qQ K "executed" wA
 G_check_pen : mg "check_pen" = some (.ref (He.ga K "check_pen"))
 f_check_pen : qQ K "check_pen" tV
 G_moved : mg "moved" = some (.ref (He.ga K "moved"))
 f_moved : qQ K "moved" E7
 G_blocks_of : mg "blocks_of" = some (.ref (He.ga K "blocks_of"))
 f_blocks_of : qQ K "blocks_of" tW
 G_with_blocks : mg "with_blocks" = some (.ref (He.ga K "with_blocks"))
 f_with_blocks : qQ K "with_blocks" qC
 G_copied_block : mg "copied_block" = some (.ref (He.ga K "copied_block"))
 f_copied_block : qQ K "copied_block" kL
 G_copied_statement : mg "copied_statement" = some (.ref (He.ga K "copied_statement"))
 f_copied_statement : qQ K "copied_statement" gO
 G_well_formed : mg "well_formed" = some (.ref (He.ga K "well_formed"))
 f_well_formed : qQ K "well_formed" qD
 G_first_fault : mg "first_fault" = some (.ref (He.ga K "first_fault"))
 f_first_fault : qQ K "first_fault" qF
 M_Book_init : Meth K (He.ga K "Book") "__init__" (He.ma K (He.ga K "Book") "__init__")
 f_Book_init : CK K "Book" "__init__" "Book.__init__" jZ
 M_Book_len : Meth K (He.ga K "Book") "__len__" (He.ma K (He.ga K "Book") "__len__")
 f_Book_len : CK K "Book" "__len__" "Book.__len__" oI
 M_Book_bodies : Meth K (He.ga K "Book") "bodies" (He.ma K (He.ga K "Book") "bodies")
 f_Book_bodies : CK K "Book" "bodies" "Book.bodies" hI
 G_has_procedure : mg "has_procedure" = some (.ref (He.ga K "has_procedure"))
 f_has_procedure : qQ K "has_procedure" nF
 M_Execution_init : Meth K (He.ga K "Execution") "__init__" (He.ma K (He.ga K "Execution") "__init__")
 f_Execution_init : CK K "Execution" "__init__" "Execution.__init__" eT
 M_Execution_take : Meth K (He.ga K "Execution") "take" (He.ma K (He.ga K "Execution") "take")
 f_Execution_take : CK K "Execution" "take" "Execution.take" gB
 M_Execution_enter : Meth K (He.ga K "Execution") "enter" (He.ma K (He.ga K "Execution") "enter")
 f_Execution_enter : CK K "Execution" "enter" "Execution.enter" fP
 M_Execution_leave : Meth K (He.ga K "Execution") "leave" (He.ma K (He.ga K "Execution") "leave")
 f_Execution_leave : CK K "Execution" "leave" "Execution.leave" fO
 M_Execution_unwind : Meth K (He.ga K "Execution") "unwind" (He.ma K (He.ga K "Execution") "unwind")
 f_Execution_unwind : CK K "Execution" "unwind" "Execution.unwind" eX
 M_Execution_begin : Meth K (He.ga K "Execution") "begin" (He.ma K (He.ga K "Execution") "begin")
 f_Execution_begin : CK K "Execution" "begin" "Execution.begin" fQ
 M_Execution_step : Meth K (He.ga K "Execution") "step" (He.ma K (He.ga K "Execution") "step")
 f_Execution_step : CK K "Execution" "step" "Execution.step" gC
 G_executed_run : mg "executed_run" = some (.ref (He.ga K "executed_run"))
 f_executed_run : qQ K "executed_run" oG
 G_pens_behind : mg "pens_behind" = some (.ref (He.ga K "pens_behind"))
 f_pens_behind : qQ K "pens_behind" qE
 G_ran : mg "ran" = some (.ref (He.ga K "ran"))
 f_ran : FnK K "ran" Cm "pen" (.ref (He.ga K "HOME"))
 G_whole : mg "whole" = some (.ref (He.ga K "whole"))
 f_whole : qQ K "whole" E5
 G_within : mg "within" = some (.ref (He.ga K "within"))
 f_within : qQ K "within" BP
 M_Live_move_to : Meth K (He.ga K "Live") "move_to" (He.ma K (He.ga K "Live") "move_to")
 f_Live_move_to : CK K "Live" "move_to" "Live.move_to" iD
 f_Live_init : FnMK K "Live" "__init__" "Live.__init__" jY "pen" (.ref (He.ga K "HOME"))
 P_Live_pen : PropOf K (He.ga K "Live") "pen" (He.ma K (He.ga K "Live") "pen") (Nh K "Live" "pen")
 f_Live_pen : PZ K "Live" "pen" "Live.pen" lP
 M_Live_getitem : Meth K (He.ga K "Live") "__getitem__" (He.ma K (He.ga K "Live") "__getitem__")
 f_Live_getitem : CK K "Live" "__getitem__" "Live.__getitem__" iE
 M_Live_setitem : Meth K (He.ga K "Live") "__setitem__" (He.ma K (He.ga K "Live") "__setitem__")
 f_Live_setitem : CK K "Live" "__setitem__" "Live.__setitem__" iC
 M_Live_iadd : Meth K (He.ga K "Live") "__iadd__" (He.ma K (He.ga K "Live") "__iadd__")
 f_Live_iadd : CK K "Live" "__iadd__" "Live.__iadd__" mO
 M_Live_call : Meth K (He.ga K "Live") "__call__" (He.ma K (He.ga K "Live") "__call__")
 f_Live_call : CK K "Live" "__call__" "Live.__call__" mP
 G_L_pool : mg "_law_pool" = some (.ref (He.ga K "_law_pool"))
 f_L_pool : qQ K "_law_pool" xG
 G_L_draw : mg "_law_draw" = some (.ref (He.ga K "_law_draw"))
 f_L_draw : qQ K "_law_draw" BV
 G_L_command : mg "_law_command" = some (.ref (He.ga K "_law_command"))
 f_L_command : qQ K "_law_command" tY
 G_L_pair : mg "_law_pair" = some (.ref (He.ga K "_law_pair"))
 f_L_pair : qQ K "_law_pair" BU
 G_L_piece : mg "_law_piece" = some (.ref (He.ga K "_law_piece"))
 f_L_piece : qQ K "_law_piece" zP
 G_L_block : mg "_law_block" = some (.ref (He.ga K "_law_block"))
 f_L_block : qQ K "_law_block" zS
 G_L_around : mg "_law_around" = some (.ref (He.ga K "_law_around"))
 f_L_around : qQ K "_law_around" wB
 G_L_body : mg "_law_body" = some (.ref (He.ga K "_law_body"))
 f_L_body : qQ K "_law_body" BX
 G_L_book : mg "_law_book" = some (.ref (He.ga K "_law_book"))
 f_L_book : qQ K "_law_book" BW
 G_L_copied : mg "_law_copied" = some (.ref (He.ga K "_law_copied"))
 f_L_copied : qQ K "_law_copied" oH
 G_L_same_2 : mg "_law_same" = some (.ref (He.ga K "_law_same"))
 f_L_same_2 : qQ K "_law_same" rW
 G_L_odd_3 : mg "_law_odd" = some (.ref (He.ga K "_law_odd"))
 f_L_odd_3 : qQ K "_law_odd" zQ
 G_L_index_3 : mg "_law_index" = some (.ref (He.ga K "_law_index"))
 f_L_index_3 : qQ K "_law_index" tX
 G_L_integers : mg "_law_integers" = some (.ref (He.ga K "_law_integers"))
 f_L_integers : qQ K "_law_integers" nS
 G_L_is_command : mg "_law_is_command" = some (.ref (He.ga K "_law_is_command"))
 f_L_is_command : qQ K "_law_is_command" kM
 G_L_numbers : mg "_law_numbers" = some (.ref (He.ga K "_law_numbers"))
 f_L_numbers : qQ K "_law_numbers" pE
 G_L_step : mg "_law_step" = some (.ref (He.ga K "_law_step"))
 f_L_step : qQ K "_law_step" BS
 G_L_requested : mg "_law_requested" = some (.ref (He.ga K "_law_requested"))
 f_L_requested : qQ K "_law_requested" lW
 G_L_due_5 : mg "_law_due" = some (.ref (He.ga K "_law_due"))
 f_L_due_5 : qQ K "_law_due" zR
 G_law_k97 : mg "law" = some (.ref (He.ga K "law"))
 f_law_k97 : qQ K "law" qX
section
variable {P : Program} {w : World} {K : aD} {mg : Str -> Option Value} {base : Heap}
theorem xa_NoBook (T : Txt w K mg) : XcA P w K mg base 1 "NoBook" ["self", "procedure", "path"] (Pi (He.ga K "NoBook") "procedure" "path") :=
 Kq (m := "__init__") T.xa_NoBook T.fx_NoBook GV KD (fun _ _ _ _ _ _ us hl => match us, hl with | [_, _, _], _ => rfl) fun cdv A outer s H vs Q E hr hsp => by
  obtain ⟨a, y, z, e, ha, h⟩ := hsp;subst e;exact ⟨_, (pss_cons (ps_ost (cv 0) (cv 1)) (pss_one (ps_ost (cv 0) (cv 2)))), rd_X2 T.xa_NoBook (by simp) (by simp) ha (fun _ _ => rfl) h⟩
theorem xa_NoRun (T : Txt w K mg) : XcA P w K mg base 1 "NoRun" ["self", "index"] (Pj (He.ga K "NoRun") "index") :=
 Kq (m := "__init__") T.xa_NoRun T.fx_NoRun Io KE (fun _ _ _ _ _ _ us hl => match us, hl with | [_, _], _ => rfl) fun cdv A outer s H vs Q E hr hsp => by
  obtain ⟨a, y, e, ha, h⟩ := hsp;subst e;exact ⟨_, (pss_one (ps_ost (cv 0) (cv 1))), rd_X1 T.xa_NoRun (by simp) ha (fun _ _ => rfl) h⟩
theorem jF (T : Txt w K mg) : pZ P w K mg base 1 "is_integer" ["value"] (spF K cY) :=
 hQ (k := 0) T.f_is_integer T.G_is_integer CQ (Runs.plain (n := 1) (np := 1)) (fun _ _ _ _ _ _ us hl => match us, hl with | [_], _ => rfl) fun _ _ _ _ _ _ hr tk nd => by
  unfold oD;exact (aH (aR (gG (dX (T := "int") T.n_isinstance T.n_int (fv 0)) (pe_one (HG (dX (T := "bool") T.n_isinstance T.n_bool (fv 0)))))))
theorem Cr (T : Txt w K mg) : pZ P w K mg base 2 "is_bit" ["value"] (spF K qZ) :=
 hQ (k := 1) T.f_is_bit T.G_is_bit Ir (Runs.plain (n := 1) (np := 1)) (fun _ _ _ _ _ _ us hl => match us, hl with | [_], _ => rfl) fun _ _ _ _ _ _ hr tk nd => by
  unfold yS;exact (aH (aR (gG (aP (jF T) hr tk (aA (fv 0) aG)) (pe_one (uY nG Ag nG Ag fI (fv 0) fI)))))
theorem Cq (T : Txt w K mg) : pZ P w K mg base 2 "is_pen" ["value"] (spF K mT) :=
 hQ (k := 1) T.f_is_pen T.G_is_pen Iq (Runs.plain (n := 2) (np := 1)) (fun _ _ _ _ _ _ us hl => match us, hl with | [_], _ => rfl) fun _ _ _ _ _ _ hr tk nd => by
  unfold rM;exact (aH (aR (gG (dX (T := "tuple") T.n_isinstance T.n_tuple (fv 0)) (gG (oQ (aZ hr.units) s_eq (eJ T.n_len (fv 0)) fI) (pe_one (G4 T.n_all (xW (own := [("number", 1)]) (t := (.nm 1)) rfl nd (kZ (fv 0)) (blkOk_by (own := [("number", 1)]) (N := ["value", "number"]) (sc := defScope xF) (by decide +kernel)) (fun _ _ _ _ _ => (pg_name (i := 1) nd rfl (.inl rfl))) (fun _ _ _ _ _ => gU) (fun _ _ _ _ _ => (aP (jF T) hr takes0 (aA (fv 1) aG))))))))))
theorem qG (T : Txt w K mg) : pZ P w K mg base 2 "is_command" ["value"] (spF K dN) :=
 hQ (k := 1) T.f_is_command T.G_is_command CS (Runs.plain (n := 5) (np := 1)) (fun _ _ _ _ _ _ us hl => match us, hl with | [_], _ => rfl) fun _ _ _ _ _ _ hr tk nd => by
  unfold fW fD;exact (aE (aW (PW.pt (hY (cW (bX (dX (T := "tuple") T.n_isinstance T.n_tuple (fv 0)))) (pw_or1 (aO (aZ hr.units) s_eq (eJ T.n_len (fv 0)) fI)))) (aH (aR fB)) aL)
  (aE (aW (PW.pt (hY (cW (bX (dX (T := "str") T.n_isinstance T.n_str (bP (fv 0) fI)))) (pw_or1 (Jc T.lim T.k_LIMITS T.g_LIMITS (bP (fv 0) fI))))) (aH (aR fB)) aL)
  (aE (A7 (t := (.tp [1, 2, 3])) (f_lim T.lim T.k_LIMITS T.g_LIMITS (bP (fv 0) fI)) (pg_tup rfl (pgs_cons (pg_name (i := 1) nd rfl (.inl rfl)) (pgs_cons (pg_name (i := 2) nd rfl (.inr rfl)) (pgs_cons (pg_name (i := 3) nd rfl (.inr rfl)) pgs_nil)))))
  (aE (aW (aO (rX hr.units) E6 (eJ T.n_len (fv 0)) (bZ bN cV (fv 1) fI)) (aH (aR fB)) aL)
  (aH (aR (G4 T.n_all (xW (own := [("number", 4)]) (t := (.nm 4)) rfl nd (kZ (vI (fv 0) (eN fI) iY)) (blkOk_by (own := [("number", 4)]) (N := ["value", "many", "low", "high", "number"]) (sc := defScope nR) (by decide +kernel)) (fun _ _ _ _ _ => (pg_name (i := 4) nd rfl (.inl rfl))) (fun _ _ _ _ _ => gU) (fun _ _ _ _ _ => (gG (aP (jF T) hr takes0 (aA (fv 4) aG)) (pe_one (uY nG Ag nG Ag (fv 2) (fv 4) (fv 3)))))))))))))
theorem AL (T : Txt w K mg) : pZ P w K mg base 1 "executed" ["pen", "command"] (spF K jS) :=
 hQ (k := 0) T.f_executed T.G_executed FH (Runs.plain (n := 10) (np := 2)) (fun _ _ _ _ _ _ us hl => match us, hl with | [_, _], _ => rfl) fun _ _ _ _ _ _ hr tk nd => by
  unfold sP kJ;exact (aE (A7 (t := (.tp [2, 3, 4, 5, 6, 7])) (fv 0) (pg_tup rfl (pgs_cons (pg_name (i := 2) nd rfl (.inl rfl)) (pgs_cons (pg_name (i := 3) nd rfl (.inl rfl)) (pgs_cons (pg_name (i := 4) nd rfl (.inl rfl)) (pgs_cons (pg_name (i := 5) nd rfl (.inl rfl)) (pgs_cons (pg_name (i := 6) nd rfl (.inl rfl)) (pgs_cons (pg_name (i := 7) nd rfl (.inl rfl)) pgs_nil))))))))
  (aE (aY (i := 8) nd rfl (.inl rfl) (bP (fv 1) fI))
  (aE (aW (aO (aZ hr.units) s_eq (fv 8) fS) (aH (aR (bO (aA (bZ bN cV (fv 2) (bZ lX vL (bP (fv 1) fI) (fv 4))) (aA (bZ bN cV (fv 3) (bZ lX vL (bP (fv 1) fI) (fv 5))) (aA (fv 4) (aA (fv 5) (aA (fv 6) (aA (fv 7) aG))))))))) aL)
  (aE (aW (aO (aZ hr.units) s_eq (fv 8) fS) (aE (oO (t := (.nm 9)) (passes_of rfl) rfl (nZ (by rfl) T.n_range (bP (fv 1) fI)) (pg_name (i := 9) nd rfl (.inl rfl)) (iK [9] (aH (RG (i := 4) (j := 5) (by rfl) nd rfl rfl (by decide) rfl rfl (lL (fv 5)) (fv 4) (by rfl)))))
  (aH (aR (bO (aA (fv 2) (aA (fv 3) (aA (fv 4) (aA (fv 5) (aA (fv 6) (aA (fv 7) aG)))))))))) aL)
  (aE (aW (aO (aZ hr.units) s_eq (fv 8) fS) (aH (aR (bO (aA (fv 2) (aA (fv 3) (aA (fv 4) (aA (lL (fv 5)) (aA (fv 6) (aA (fv 7) aG))))))))) aL)
  (aE (aW (aO (aZ hr.units) s_eq (fv 8) fS) (aH (aR (bO (aA (fv 2) (aA (fv 3) (aA (bZ lX vL (bP (fv 1) fI) (fv 4)) (aA (bZ lX vL (bP (fv 1) fI) (fv 5)) (aA (fv 6) (aA (fv 7) aG))))))))) aL)
  (aE (aW (aO (aZ hr.units) s_eq (fv 8) fS) (aH (aR (bO (aA (fv 2) (aA (fv 3) (aA (bP (fv 1) fI) (aA (bP (fv 1) fI) (aA (fv 6) (aA (fv 7) aG))))))))) aL)
  (aE (aW (aO (aZ hr.units) s_eq (fv 8) fS) (aH (aR (bO (aA (bP (fv 1) fI) (aA (bP (fv 1) fI) (aA (fv 4) (aA (fv 5) (aA (fv 6) (aA (fv 7) aG))))))))) aL)
  (aE (aW (aO (aZ hr.units) s_eq (fv 8) fS) (aH (aR (bO (aA (fv 2) (aA (fv 3) (aA (fv 4) (aA (fv 5) (aA (fv 2) (aA (fv 3) aG))))))))) aL)
  (aE (aW (aO (aZ hr.units) s_eq (fv 8) fS) (aH (aR (bO (aA (fv 6) (aA (fv 7) (aA (fv 4) (aA (fv 5) (aA (fv 6) (aA (fv 7) aG))))))))) aL)
  (aH (aR (bO (aA (fv 6) (aA (fv 7) (aA (fv 4) (aA (fv 5) (aA (fv 2) (aA (fv 3) aG)))))))))))))))))))
theorem xJ (T : Txt w K mg) : pZ P w K mg base 3 "check_pen" ["pen"] (spF K kD) :=
 hQ (k := 2) T.f_check_pen T.G_check_pen Dq (Runs.plain (n := 1) (np := 1)) (fun _ _ _ _ _ _ us hl => match us, hl with | [_], _ => rfl) fun _ _ _ _ _ _ hr tk nd => by
  unfold mZ;exact (aH (aW (cW (bX (aP (Cq T) hr tk (aA (fv 0) aG)))) (aH (mW T.x_NoPen tk)) aL))
theorem Kn (T : Txt w K mg) : pZ P w K mg base 4 "moved" ["pen", "command"] (spF K uV) :=
 hQ (k := 3) T.f_moved T.G_moved KP (Runs.plain (n := 2) (np := 2)) (fun _ _ _ _ _ _ us hl => match us, hl with | [_, _], _ => rfl) fun _ _ _ _ _ _ hr tk nd => by
  unfold yR;exact (aE (cG (aP (xJ T) hr tk (aA (fv 0) aG)))
  (aE (aW (cW (bX (aP (qG T) hr tk (aA (fv 1) aG)))) (aH (mW T.x_NoCommand tk)) aL)
  (aH (aR (aP (AL T) hr tk (aA (fv 0) (aA (fv 1) aG)))))))
theorem xK (T : Txt w K mg) : pZ P w K mg base 1 "blocks_of" ["statement"] (spF K kE) :=
 hQ (k := 0) T.f_blocks_of T.G_blocks_of Ds (Runs.plain (n := 2) (np := 1)) (fun _ _ _ _ _ _ us hl => match us, hl with | [_], _ => rfl) fun _ _ _ _ _ _ hr tk nd => by
  unfold pP;exact (aE (aY (i := 1) nd rfl (.inl rfl) (bP (fv 0) fI))
  (aE (aW (PW.pt (hY (aO (aZ hr.units) s_eq (fv 1) fS) (pw_or1 (aO (aZ hr.units) s_eq (fv 1) fS)))) (aH (aR (bQ (aA (bP (fv 0) fI) aG)))) aL)
  (aE (aW (aO (aZ hr.units) s_eq (fv 1) fS) (aH (aR (bQ (aA (bP (fv 0) fI) (aA (bP (fv 0) fI) aG))))) aL)
  (aE (aW (aO (aZ hr.units) s_eq (fv 1) fS) (aH (aR (bP (fv 0) fI))) aL)
  (aH (aR (bQ aG)))))))
theorem Be (T : Txt w K mg) : pZ P w K mg base 1 "with_blocks" ["statement", "blocks"] (spF K lY) :=
 hQ (k := 0) T.f_with_blocks T.G_with_blocks BI (Runs.plain (n := 3) (np := 2)) (fun _ _ _ _ _ _ us hl => match us, hl with | [_, _], _ => rfl) fun _ _ _ _ _ _ hr tk nd => by
  unfold mF;exact (aE (aY (i := 2) nd rfl (.inl rfl) (bP (fv 0) fI))
  (aE (aW (PW.pt (hY (aO (aZ hr.units) s_eq (fv 2) fS) (pw_or1 (aO (aZ hr.units) s_eq (fv 2) fS)))) (aH (aR (bO (aA (fv 2) (aA (bP (fv 1) fI) aG))))) aL)
  (aE (aW (aO (aZ hr.units) s_eq (fv 2) fS) (aH (aR (bO (aA (fv 2) (aA (bP (fv 1) fI) (aA (bP (fv 1) fI) aG)))))) aL)
  (aE (aW (aO (aZ hr.units) s_eq (fv 2) fS) (aH (aR (bO (aA (fv 2) (aA (bP (fv 0) fI) (aA (bP (fv 0) fI) (aA (fv 1) aG))))))) aL)
  (aH (aR (fv 0)))))))
theorem mQ (T : Txt w K mg) : ∀ n, (pZ P w K mg base (1 + n + 1) "copied_statement" ["statement"] (spF K (gP n))) /\ (pZ P w K mg base (1 + n + 1) "copied_block" ["block"] (spF K (eB n)))
 | 0 => ⟨rZ T.f_copied_statement T.G_copied_statement nM (fun _ _ _ _ _ _ us hl => match us, hl with | [_], _ => rfl), rZ T.f_copied_block T.G_copied_block sX (fun _ _ _ _ _ _ us hl => match us, hl with | [_], _ => rfl)⟩
 | n + 1 => by
  have ih := mQ T n;have ih_copied_statement := ih.1;have ih_copied_block := ih.2;refine ⟨?_, ?_⟩
  ·exact hQ (k := 1 + n + 1) T.f_copied_statement T.G_copied_statement nM (Runs.plain (n := 2) (np := 1)) (fun _ _ _ _ _ _ us hl => match us, hl with | [_], _ => rfl) fun _ _ _ _ _ _ hr tk nd => by
    unfold gW;exact (aH (aR (aP (Be T) hr tk (aA (fv 0) (aA (xW (own := [("block", 1)]) (t := (.nm 1)) rfl nd (kZ (aP (xK T) hr tk (aA (fv 0) aG) (by omega))) (blkOk_by (own := [("block", 1)]) (N := ["statement", "block"]) (sc := defScope gO) (by decide +kernel)) (fun _ _ _ _ _ => (pg_name (i := 1) nd rfl (.inl rfl))) (fun _ _ _ _ _ => gU) (fun _ _ _ _ _ => (aP ih_copied_block hr takes0 (aA (fv 1) aG) (by omega)))) aG)) (by omega))))
  ·exact hQ (k := 1 + n + 1) T.f_copied_block T.G_copied_block sX (Runs.plain (n := 2) (np := 1)) (fun _ _ _ _ _ _ us hl => match us, hl with | [_], _ => rfl) fun _ _ _ _ _ _ hr tk nd => by
    unfold lB;exact (aH (aR (xW (own := [("statement", 1)]) (t := (.nm 1)) rfl nd (kZ (fv 0)) (blkOk_by (own := [("statement", 1)]) (N := ["block", "statement"]) (sc := defScope kL) (by decide +kernel)) (fun _ _ _ _ _ => (pg_name (i := 1) nd rfl (.inl rfl))) (fun _ _ _ _ _ => gU) (fun _ _ _ _ _ => (aP ih_copied_statement hr takes0 (aA (fv 1) aG) (by omega))))))
theorem sY (T : Txt w K mg) (n : Nat) : pZ P w K mg base (1 + n + 1) "copied_block" ["block"] (spF K (eB n)) := (mQ T n).2
theorem Bg (T : Txt w K mg) : pZ P w K mg base 3 "well_formed" ["value", "level", "many"] (spF K jG) :=
 hQ (k := 2) T.f_well_formed T.G_well_formed BJ (Runs.plain (n := 4) (np := 3)) (fun _ _ _ _ _ _ us hl => match us, hl with | [_, _, _], _ => rfl) fun _ _ _ _ _ _ hr tk nd => by
  unfold mG;exact (aE (aW (bX (aP (qG T) hr tk (aA (fv 0) aG))) (aH (aR fB)) aL)
  (aE (aW (PW.pt (hY (cW (bX (dX (T := "tuple") T.n_isinstance T.n_tuple (fv 0)))) (hY (aO iF tU (eJ T.n_len (fv 0)) fI) (pw_or1 (cW (bX (dX (T := "str") T.n_isinstance T.n_str (bP (fv 0) fI)))))))) (aH (aR fB)) aL)
  (aE (aY (i := 3) nd rfl (.inl rfl) (bP (fv 0) fI))
  (aE (aW (aO (aZ hr.units) s_eq (fv 3) fS) (aH (aR (gG (oQ (aZ hr.units) s_eq (eJ T.n_len (fv 0)) fI) (pe_one (aP (Cr T) hr tk (aA (bP (fv 0) fI) aG)))))) aL)
  (aE (aW (aO (aZ hr.units) s_eq (fv 1) (Ei T.i_DEEPEST)) (aH (aR fB)) aL)
  (aE (aW (PW.pt (hY (aO (aZ hr.units) s_eq (fv 3) fS) (pw_or1 (aO (aZ hr.units) s_eq (fv 3) fS)))) (aH (aR (gG (oQ (aZ hr.units) s_eq (eJ T.n_len (fv 0)) fI) (pe_one (dX (T := "list") T.n_isinstance T.n_list (bP (fv 0) fI)))))) aL)
  (aE (aW (aO (aZ hr.units) s_eq (fv 3) fS) (aH (aR (gG (oQ (aZ hr.units) s_eq (eJ T.n_len (fv 0)) fI) (gG (dX (T := "list") T.n_isinstance T.n_list (bP (fv 0) fI)) (pe_one (dX (T := "list") T.n_isinstance T.n_list (bP (fv 0) fI))))))) aL)
  (aE (aW (PW.pt (hY (aO (rX hr.units) E6 (fv 3) fS) (pw_or1 (aO (rX hr.units) E6 (eJ T.n_len (fv 0)) fI)))) (aH (aR fB)) aL)
  (aE (aW (PW.pt (hY (cW (bX (aP (jF T) hr tk (aA (bP (fv 0) fI) aG)))) (pw_or1 (cW (Fy nG Ag iF tU fI (bP (fv 0) fI) (fv 2)))))) (aH (aR fB)) aL)
  (aE (aW (PW.pt (hY (cW (bX (dX (T := "bool") T.n_isinstance T.n_bool (bP (fv 0) fI)))) (hY (cW (bX (dX (T := "list") T.n_isinstance T.n_list (bP (fv 0) fI)))) (pw_or1 (aO (rX hr.units) E6 (eJ T.n_len (bP (fv 0) fI)) fI))))) (aH (aR fB)) aL)
  (aH (aR (gG (dX (T := "list") T.n_isinstance T.n_list (bP (bP (fv 0) fI) fI)) (pe_one (dX (T := "list") T.n_isinstance T.n_list (bP (bP (fv 0) fI) fI))))))))))))))))
theorem uB (T : Txt w K mg) : ∀ n, pZ P w K mg base (3 + n + 1) "first_fault" ["block", "level", "many", "path", "met"] (spF K (cX n))
 | 0 => rZ T.f_first_fault T.G_first_fault tT (fun _ _ _ _ _ _ us hl => match us, hl with | [_, _, _, _, _], _ => rfl)
 | n + 1 => by
  have ih_first_fault := uB T n;exact hQ (k := 3 + n + 1) T.f_first_fault T.G_first_fault tT (Runs.plain (n := 11) (np := 5)) (fun _ _ _ _ _ _ us hl => match us, hl with | [_, _, _, _, _], _ => rfl) fun _ _ _ _ _ _ hr tk nd => by
   unfold mI jN fL;exact (aE (oO (t := (.tp [5, 6])) (passes_of rfl) rfl (B5 (by rfl) T.n_enumerate (fv 0)) (pg_tup rfl (pgs_cons (pg_name (i := 5) nd rfl (.inl rfl)) (pgs_cons (pg_name (i := 6) nd rfl (.inl rfl)) pgs_nil))) (iK [5, 6, 7, 8, 9, 10] (aE (aY (i := 7) nd rfl (.inl rfl) (bZ bN cV (fv 3) (bO (aA (fv 5) aG))))
  (aE (aW (PW.pt (hY (aO (aZ hr.units) s_eq (fv 5) (Ei T.i_MOST_IN_LIST)) (hY (aO (aZ hr.units) s_eq (fv 4) (Ei T.i_MOST_IN_PROCEDURE)) (pw_or1 (cW (bX (aP (Bg T) hr tk (aA (fv 6) (aA (fv 1) (aA (fv 2) aG))) (by omega)))))))) (aH (aR (bO (aA (fv 7) (aA (fv 4) aG))))) aL)
  (aE (Jd (k := 4) nd rfl (.inl rfl) fI)
  (aH (oO (t := (.tp [8, 9])) (passes_of rfl) rfl (B5 (by rfl) T.n_enumerate (aP (xK T) hr tk (aA (fv 6) aG) (by omega))) (pg_tup rfl (pgs_cons (pg_name (i := 8) nd rfl (.inl rfl)) (pgs_cons (pg_name (i := 9) nd rfl (.inl rfl)) pgs_nil))) (iK [8, 9, 10] (aE (A7 (t := (.tp [10, 4])) (aP ih_first_fault hr tk (aA (fv 9) (aA (bZ bN cV (fv 1) fI) (aA (fv 2) (aA (bZ bN cV (fv 7) (bO (aA (fv 8) aG))) (aA (fv 4) aG))))) (by omega)) (pg_tup rfl (pgs_cons (pg_name (i := 10) nd rfl (.inl rfl)) (pgs_cons (pg_name (i := 4) nd rfl (.inl rfl)) pgs_nil))))
  (aH (aW (aO FY KQ (fv 10) fN) (aH (aR (bO (aA (fv 10) (aA (fv 4) aG))))) aL)))))))))))
  (aH (aR (bO (aA fN (aA (fv 4) aG))))))
theorem EH (T : Txt w K mg) : OkMX P w K mg base 23 "Book" "__init__" ["self", "bodies"] (spF K kG) :=
 oL (k := 22) T.f_Book_init T.M_Book_init Dz (Runs.plain (n := 6) (np := 2)) (fun _ _ _ _ _ _ us hl => match us, hl with | [_, _], _ => rfl) fun _ _ _ _ _ _ hr tk nd => by
  unfold pY dU;exact (aE (aW (PW.pt (hY (cW (bX (dX (T := "list") T.n_isinstance T.n_list (fv 1)))) (pw_or1 (cW (Fy nG Ag nG Ag fI (eJ T.n_len (fv 1)) (Ei T.i_MOST_PROCEDURES)))))) (aH (A6 (xa_NoBook T) hr tk (aA (lL fI) (aA (bO aG) aG)))) aL)
  (aE (oO (t := (.tp [2, 3])) (passes_of rfl) rfl (B5 (by rfl) T.n_enumerate (fv 1)) (pg_tup rfl (pgs_cons (pg_name (i := 2) nd rfl (.inl rfl)) (pgs_cons (pg_name (i := 3) nd rfl (.inl rfl)) pgs_nil))) (iK [2, 3, 4, 5] (aE (aW (cW (bX (dX (T := "list") T.n_isinstance T.n_list (fv 3)))) (aH (A6 (xa_NoBook T) hr tk (aA (fv 2) (aA (bO aG) aG)))) aL)
  (aE (A7 (t := (.tp [4, 5])) (aP (uB T 10) hr tk (aA (fv 3) (aA fI (aA (eJ T.n_len (fv 1)) (aA (bO aG) (aA fI aG)))))) (pg_tup rfl (pgs_cons (pg_name (i := 4) nd rfl (.inl rfl)) (pgs_cons (pg_name (i := 5) nd rfl (.inl rfl)) pgs_nil))))
  (aH (aW (aO FY KQ (fv 4) fN) (aH (A6 (xa_NoBook T) hr tk (aA (fv 2) (aA (fv 4) aG)))) aL))))))
  (aH (gA T.c_Book T.a_Book_own (fv 0) (xW (own := [("body", 3)]) (t := (.nm 3)) rfl nd (kZ (fv 1)) (blkOk_by (own := [("body", 3)]) (N := ["self", "bodies", "procedure", "body", "fault", "met"]) (sc := defScope jZ) (by decide +kernel)) (fun _ _ _ _ _ => (pg_name (i := 3) nd rfl (.inl rfl))) (fun _ _ _ _ _ => gU) (fun _ _ _ _ _ => (aP (sY T 20) hr takes0 (aA (fv 3) aG))))))))
theorem Fb (T : Txt w K mg) : OkMX P w K mg base 1 "Book" "__len__" ["self"] (spF K oN) :=
 oL (k := 0) T.f_Book_len T.M_Book_len FK (Runs.plain (n := 1) (np := 1)) (fun _ _ _ _ _ _ us hl => match us, hl with | [_], _ => rfl) fun _ _ _ _ _ _ hr tk nd => by
  unfold sV;exact (aH (aR (eJ T.n_len (dH T.c_Book T.a_Book_own (fv 0)))))
theorem Bj (T : Txt w K mg) : OkMX P w K mg base 23 "Book" "bodies" ["self"] (spF K vM) :=
 oL (k := 22) T.f_Book_bodies T.M_Book_bodies BO (Runs.plain (n := 2) (np := 1)) (fun _ _ _ _ _ _ us hl => match us, hl with | [_], _ => rfl) fun _ _ _ _ _ _ hr tk nd => by
  unfold vV;exact (aH (aR (xW (own := [("body", 1)]) (t := (.nm 1)) rfl nd (kZ (dH T.c_Book T.a_Book_own (fv 0))) (blkOk_by (own := [("body", 1)]) (N := ["self", "body"]) (sc := defScope hI) (by decide +kernel)) (fun _ _ _ _ _ => (pg_name (i := 1) nd rfl (.inl rfl))) (fun _ _ _ _ _ => gU) (fun _ _ _ _ _ => (aP (sY T 20) hr takes0 (aA (fv 1) aG))))))
theorem zV (T : Txt w K mg) : pZ P w K mg base 3 "has_procedure" ["book", "procedure"] (spF K gY) :=
 hQ (k := 2) T.f_has_procedure T.G_has_procedure zO (Runs.plain (n := 2) (np := 2)) (fun _ _ _ _ _ _ us hl => match us, hl with | [_, _], _ => rfl) fun _ _ _ _ _ _ hr tk nd => by
  unfold hC;exact (aH (aR (gG (aP (jF T) hr tk (aA (fv 1) aG)) (pe_one (uY nG Ag iF tU fI (fv 1) (RK T.n_len (Fb T) hr (fv 0)))))))
theorem xQ (T : Txt w K mg) : OkMX P w K mg base 1 "Execution" "__init__" ["self", "bodies", "bits"] (spF K rE) :=
 oL (k := 0) T.f_Execution_init T.M_Execution_init xD (Runs.plain (n := 4) (np := 3)) (fun _ _ _ _ _ _ us hl => match us, hl with | [_, _, _], _ => rfl) fun _ _ _ _ _ _ hr tk nd => by
  unfold rQ;exact (aE (gA T.c_Execution T.a_Execution_own (fv 0) (fv 1))
  (aE (gA T.c_Execution T.a_Execution_bits (fv 0) (fv 2))
  (aE (gA T.c_Execution T.a_Execution_taken (fv 0) fI)
  (aE (gA T.c_Execution T.a_Execution_deeds (fv 0) (bQ aG))
  (aE (gA T.c_Execution T.a_Execution_stack (fv 0) (bQ aG))
  (aE (gA T.c_Execution T.a_Execution_active (fv 0) (f_lcC (own := [("body", 3)]) (t := (.nm 3)) rfl nd (kZ (fv 1)) (blkOk_by (own := [("body", 3)]) (N := ["self", "bodies", "bits", "body"]) (sc := defScope eT) (by decide +kernel)) (fun _ _ _ _ _ => (pg_name (i := 3) nd rfl (.inl rfl)))))
  (aH (gA T.c_Execution T.a_Execution_ended (fv 0) fI))))))))
theorem pH (T : Txt w K mg) : OkMX P w K mg base 3 "Execution" "take" ["self"] (spF K lR) :=
 oL (k := 2) T.f_Execution_take T.M_Execution_take xB (Runs.plain (n := 1) (np := 1)) (fun _ _ _ _ _ _ us hl => match us, hl with | [_], _ => rfl) fun _ _ _ _ _ _ hr tk nd => by
  unfold rO;exact (aE (aW (aO (aZ hr.units) s_eq (dH T.c_Execution T.a_Execution_taken (fv 0)) (eJ T.n_len (dH T.c_Execution T.a_Execution_bits (fv 0)))) (aH (rG (xa_NoRun T) hr tk (aA (dH T.c_Execution T.a_Execution_taken (fv 0)) aG))) aL)
  (aE (HF T.c_Execution T.a_Execution_taken (fv 0) fI)
  (aH (aR (bP (dH T.c_Execution T.a_Execution_bits (fv 0)) (bZ fR mN (dH T.c_Execution T.a_Execution_taken (fv 0)) fI))))))
theorem oK (T : Txt w K mg) : OkMX P w K mg base 3 "Execution" "enter" ["self", "procedure", "statement"] (spF K kP) :=
 oL (k := 2) T.f_Execution_enter T.M_Execution_enter vX (Runs.plain (n := 4) (np := 3)) (fun _ _ _ _ _ _ us hl => match us, hl with | [_, _, _], _ => rfl) fun _ _ _ _ _ _ hr tk nd => by
  unfold pW;exact (aE (aY (i := 3) nd rfl (.inl rfl) (bP (dH T.c_Execution T.a_Execution_active (fv 0)) (fv 1)))
  (aE (aW (PW.pt (jC (aO jR vZ (eJ T.n_len (fv 3)) fI) (pw_and1 (aO (aZ hr.units) s_eq (bP (fv 3) (lL fI)) (dH T.c_Execution T.a_Execution_taken (fv 0)))))) (aH (rG (xa_NoRun T) hr tk (aA (lL fI) aG))) aL)
  (aE (cG (kH (bP (dH T.c_Execution T.a_Execution_active (fv 0)) (fv 1)) (dH T.c_Execution T.a_Execution_taken (fv 0))))
  (aE (cG (kH (dH T.c_Execution T.a_Execution_stack (fv 0)) (bO (aA fS (aA (fv 1) (aA (fv 2) aG))))))
  (aH (cG (kH (dH T.c_Execution T.a_Execution_stack (fv 0)) (bO (aA fS (aA (bP (dH T.c_Execution T.a_Execution_own (fv 0)) (fv 1)) (aA fI aG)))))))))))
theorem oJ (T : Txt w K mg) : OkMX P w K mg base 1 "Execution" "leave" ["self", "procedure", "statement", "way"] (spF K kO) :=
 oL (k := 0) T.f_Execution_leave T.M_Execution_leave vW (Runs.plain (n := 4) (np := 4)) (fun _ _ _ _ _ _ us hl => match us, hl with | [_, _, _, _], _ => rfl) fun _ _ _ _ _ _ hr tk nd => by
  unfold pV;exact (aE (cG (G3 (bP (dH T.c_Execution T.a_Execution_active (fv 0)) (fv 1))))
  (aE (aW (aO EE KS (fv 2) fN) (aE (gA T.c_Execution T.a_Execution_ended (fv 0) (fv 3))
  (aH ON)) aL)
  (aE (aW (bX (bP (fv 2) fI)) (aH (cG (kH (dH T.c_Execution T.a_Execution_deeds (fv 0)) (bO (aA fS aG))))) aL)
  (aH (cG (kH (dH T.c_Execution T.a_Execution_stack (fv 0)) (bO (aA fS (aA (bP (bP (fv 2) fI) (fv 3)) (aA fI aG))))))))))
theorem vH (T : Txt w K mg) : OkMX P w K mg base 2 "Execution" "unwind" ["self", "way"] (spF K oM) :=
 oL (k := 1) T.f_Execution_unwind T.M_Execution_unwind vG (Runs.plain (n := 3) (np := 2)) (fun _ _ _ _ _ _ us hl => match us, hl with | [_, _], _ => rfl) fun _ _ _ _ _ _ hr tk nd => by
  unfold oV mM;exact (aE (aY (i := 2) nd rfl (.inl rfl) (G3 (dH T.c_Execution T.a_Execution_stack (fv 0))))
  (aE (Fz (k := 1000000) (passes_of rfl) (aO (rX hr.units) E6 (bP (fv 2) fI) fS) (aE (aW (aO (aZ hr.units) s_eq (bP (fv 2) fI) fS) (aH (cG (kH (dH T.c_Execution T.a_Execution_deeds (fv 0)) (fv 2)))) aL)
  (aH (aY (i := 2) nd rfl (.inl rfl) (G3 (dH T.c_Execution T.a_Execution_stack (fv 0)))))))
  (aH (cG (sN (oJ T) hr tk T.c_Execution (fv 0) (aA (bP (fv 2) fI) (aA (bP (fv 2) fI) (aA (fv 1) aG))))))))
theorem wC (T : Txt w K mg) : OkMX P w K mg base 4 "Execution" "begin" ["self", "statement"] (spF K pI) :=
 oL (k := 3) T.f_Execution_begin T.M_Execution_begin vY (Runs.plain (n := 3) (np := 2)) (fun _ _ _ _ _ _ us hl => match us, hl with | [_, _], _ => rfl) fun _ _ _ _ _ _ hr tk nd => by
  unfold pX;exact (aE (aY (i := 2) nd rfl (.inl rfl) (bP (fv 1) fI))
  (aH (aW (bX (aP (qG T) hr tk (aA (fv 1) aG))) (aH (cG (kH (dH T.c_Execution T.a_Execution_deeds (fv 0)) (fv 1)))) (aH (aW (aO (aZ hr.units) s_eq (fv 2) fS) (aE (cG (kH (dH T.c_Execution T.a_Execution_deeds (fv 0)) (bO (aA fS aG))))
  (aE (cG (kH (dH T.c_Execution T.a_Execution_stack (fv 0)) (bO (aA fS aG))))
  (aH (cG (kH (dH T.c_Execution T.a_Execution_stack (fv 0)) (bO (aA fS (aA (bP (fv 1) fI) (aA fI aG))))))))) (aH (aW (aO (aZ hr.units) s_eq (fv 2) fS) (aH (cG (kH (dH T.c_Execution T.a_Execution_stack (fv 0)) (bO (aA fS (aA (bP (fv 1) (bZ bN cV fI (B6 (pH T) hr tk T.c_Execution (fv 0)))) (aA fI aG))))))) (aH (aW (aO (aZ hr.units) s_eq (fv 2) fS) (aH (cG (kH (dH T.c_Execution T.a_Execution_stack (fv 0)) (bO (aA fS (aA (bP (fv 1) fI) aG)))))) (aH (aW (aO (aZ hr.units) s_eq (fv 2) fS) (aE (aW (bX (bP (fv 1) fI)) (aH (cG (kH (dH T.c_Execution T.a_Execution_deeds (fv 0)) (bO (aA fS aG))))) aL)
  (aH (cG (sN (oK T) hr tk T.c_Execution (fv 0) (aA (bP (fv 1) fI) (aA (fv 1) aG)))))) (aH (cG (sN (vH T) hr tk T.c_Execution (fv 0) (aA (bP (fv 1) fI) aG)))))))))))))))
theorem xP (T : Txt w K mg) : OkMX P w K mg base 5 "Execution" "step" ["self"] (spF K rD) :=
 oL (k := 4) T.f_Execution_step T.M_Execution_step xC (Runs.plain (n := 2) (np := 1)) (fun _ _ _ _ _ _ us hl => match us, hl with | [_], _ => rfl) fun _ _ _ _ _ _ hr tk nd => by
  unfold rP;exact (aE (aY (i := 1) nd rfl (.inl rfl) (G3 (dH T.c_Execution T.a_Execution_stack (fv 0))))
  (aH (aW (aO (aZ hr.units) s_eq (bP (fv 1) fI) fS) (aH (aW (aO iF tU (bP (fv 1) fI) (eJ T.n_len (bP (fv 1) fI))) (aE (cG (kH (dH T.c_Execution T.a_Execution_stack (fv 0)) (bO (aA fS (aA (bP (fv 1) fI) (aA (bZ bN cV (bP (fv 1) fI) fI) aG))))))
  (aH (cG (sN (wC T) hr tk T.c_Execution (fv 0) (aA (bP (bP (fv 1) fI) (bP (fv 1) fI)) aG))))) aL)) (aH (aW (aO (aZ hr.units) s_eq (bP (fv 1) fI) fS) (aH (cG (kH (dH T.c_Execution T.a_Execution_deeds (fv 0)) (fv 1)))) (aH (aW (aO (aZ hr.units) s_eq (bP (fv 1) fI) fS) (aH (aW (aO (aZ hr.units) s_eq (B6 (pH T) hr tk T.c_Execution (fv 0)) fI) (aE (cG (kH (dH T.c_Execution T.a_Execution_stack (fv 0)) (fv 1)))
  (aH (cG (kH (dH T.c_Execution T.a_Execution_stack (fv 0)) (bO (aA fS (aA (bP (fv 1) fI) (aA fI aG)))))))) aL)) (aH (cG (sN (oJ T) hr tk T.c_Execution (fv 0) (aA (bP (fv 1) fI) (aA (bP (fv 1) fI) (aA fI aG)))))))))))))
theorem Ai (T : Txt w K mg) : pZ P w K mg base 24 "executed_run" ["book", "procedure", "bits"] (spF K dW) :=
 hQ (k := 23) T.f_executed_run T.G_executed_run Ab (Runs.cut (n := 6) (np := 3)) (fun _ _ _ _ _ _ us hl => match us, hl with | [_, _, _], _ => rfl) fun _ _ _ _ _ _ hr tk nd => by
  unfold lA qU eQ;exact (aE (aW (cW (bX (aP (zV T) hr tk (aA (fv 0) (aA (fv 1) aG))))) (aH (mW T.x_NoProcedure tk)) aL)
  (aE (aW (cW (bX (dX (T := "list") T.n_isinstance T.n_list (fv 2)))) (aH (rG (xa_NoRun T) hr tk (aA (lL fI) aG))) aL)
  (aE (oO (t := (.tp [3, 4])) (passes_of rfl) rfl (B5 (by rfl) T.n_enumerate (fv 2)) (pg_tup rfl (pgs_cons (pg_name (i := 3) nd rfl (.inl rfl)) (pgs_cons (pg_name (i := 4) nd rfl (.inl rfl)) pgs_nil))) (iK [3, 4] (aH (aW (cW (bX (aP (Cr T) hr tk (aA (fv 4) aG)))) (aH (rG (xa_NoRun T) hr tk (aA (fv 3) aG))) aL))))
  (aE (aY (i := 5) nd rfl (.inl rfl) (M7 T.T_Execution (xQ T) hr tk (aA (B6 (Bj T) hr tk T.c_Book (fv 0)) (aA (fv 2) aG))))
  (aE (cG (sN (oK T) hr tk T.c_Execution (fv 5) (aA (fv 1) (aA fN aG))))
  (aE (Fz (k := 1000000) (passes_of rfl) (aO jR vZ (eJ T.n_len (dH T.c_Execution T.a_Execution_stack (fv 5))) fI) (aH (cG (B6 (xP T) hr tk T.c_Execution (fv 5)))))
  (aE (aW (aO iF tU (dH T.c_Execution T.a_Execution_taken (fv 5)) (eJ T.n_len (fv 2))) (aH (rG (xa_NoRun T) hr tk (aA (dH T.c_Execution T.a_Execution_taken (fv 5)) aG))) aL)
  (aH (aR (bO (aA (dH T.c_Execution T.a_Execution_ended (fv 5)) (aA (M9 (dH T.c_Execution T.a_Execution_deeds (fv 5))) aG))))))))))))
theorem Bh (T : Txt w K mg) : pZ P w K mg base 2 "pens_behind" ["deeds", "pen"] (spF K jH) :=
 hQ (k := 1) T.f_pens_behind T.G_pens_behind BK (Runs.cut (n := 5) (np := 2)) (fun _ _ _ _ _ _ us hl => match us, hl with | [_, _], _ => rfl) fun _ _ _ _ _ _ hr tk nd => by
  unfold mH eF;exact (aE (aY (i := 2) nd rfl (.inl rfl) (bQ aG))
  (aE (aY (i := 3) nd rfl (.inl rfl) (bQ aG))
  (aE (oO (t := (.nm 4)) (passes_of rfl) rfl (kZ (fv 0)) (pg_name (i := 4) nd rfl (.inl rfl)) (iK [4] (aH (aW (aO (aZ hr.units) s_eq (bP (fv 4) fI) fS) (aH (cG (kH (fv 3) (vI (fv 1) iY (eN fI))))) (aH (aW (aO (aZ hr.units) s_eq (bP (fv 4) fI) fS) (aH (aY (i := 1) nd rfl (.inl rfl) (bZ bN cV (G3 (fv 3)) (vI (fv 1) (eN fI) iY)))) (aE (aY (i := 1) nd rfl (.inl rfl) (aP (AL T) hr tk (aA (fv 1) (aA (fv 4) aG))))
  (aH (cG (kH (fv 2) (fv 1)))))))))))
  (aH (aR (bO (aA (M9 (fv 2)) (aA (fv 1) aG))))))))
theorem Pt (T : Txt w K mg) : OkK P w K mg base 25 "ran" ["book", "procedure", "bits", "pen"] 3 "pen" (.ref (He.ga K "HOME")) (spF K Hr) :=
 okK (k := 24) (N := ["book", "procedure", "bits", "pen", "way", "deeds", "pens", "last"]) T.f_ran T.G_ran sc_ran (Runs.plain (n := 8) (np := 4)) rfl (fun _ _ _ _ _ _ us ks l1 l2 => match us, ks, l1, l2 with | [_, _, _], [_], _, _ => ⟨_, _, _, _, _, _, rfl, rfl, rfl⟩) (fun _ _ _ _ _ _ us ws l1 l2 => match us, ws, l1, l2 with | [_, _, _], [_], _, _ => rfl) fun cdv A outer s H E hr => by
  have nd : (["book", "procedure", "bits", "pen", "way", "deeds", "pens", "last"] : List Str).Nodup := sc_ran.nd;have tk := takes_of (X := cxOf (L2.CX P w) P w K mg base ["book", "procedure", "bits", "pen", "way", "deeds", "pens", "last"] "ran" (defScope Cm) (He.ga K "ran") cdv A outer s H E) (E := E) rfl rfl rfl rfl;unfold IV;exact (aE (A7 (t := (.tp [4, 5])) (aP (Ai T) hr tk (aA (fv 0) (aA (fv 1) (aA (fv 2) aG)))) (pg_tup rfl (pgs_cons (pg_name (i := 4) nd rfl (.inl rfl)) (pgs_cons (pg_name (i := 5) nd rfl (.inl rfl)) pgs_nil))))
  (aE (aW (cW (bX (aP (Cq T) hr tk (aA (fv 3) aG)))) (aH (mW T.x_NoPen tk)) aL)
  (aE (A7 (t := (.tp [6, 7])) (aP (Bh T) hr tk (aA (fv 5) (aA (fv 3) aG))) (pg_tup rfl (pgs_cons (pg_name (i := 6) nd rfl (.inl rfl)) (pgs_cons (pg_name (i := 7) nd rfl (.inl rfl)) pgs_nil))))
  (aH (aR (bO (aA (fv 4) (aA (fv 7) (aA (eJ T.n_len (fv 6)) aG)))))))))
theorem Bf (T : Txt w K mg) : pZ P w K mg base 1 "whole" ["value"] (spF K sA) :=
 hQ (k := 0) T.f_whole T.G_whole KO (Runs.plain (n := 1) (np := 1)) (fun _ _ _ _ _ _ us hl => match us, hl with | [_], _ => rfl) fun _ _ _ _ _ _ hr tk nd => by
  unfold yQ;exact (aH (aR (gG (dX (T := "int") T.n_isinstance T.n_int (fv 0)) (pe_one (HG (dX (T := "bool") T.n_isinstance T.n_bool (fv 0)))))))
theorem Cp (T : Txt w K mg) : pZ P w K mg base 2 "within" ["value", "bound"] (spF K uE) :=
 hQ (k := 1) T.f_within T.G_within Ip (Runs.plain (n := 2) (np := 2)) (fun _ _ _ _ _ _ us hl => match us, hl with | [_, _], _ => rfl) fun _ _ _ _ _ _ hr tk nd => by
  unfold yP;exact (aH (aR (gG (aP (Bf T) hr tk (aA (fv 0) aG)) (pe_one (uY nG Ag iF tU fI (fv 0) (fv 1))))))
theorem nH (T : Txt w K mg) : OkMX P w K mg base 1 "Live" "move_to" ["self", "pen"] (spF K eZ) :=
 oL (k := 0) T.f_Live_move_to T.M_Live_move_to Ad (Runs.plain (n := 2) (np := 2)) (fun _ _ _ _ _ _ us hl => match us, hl with | [_, _], _ => rfl) fun _ _ _ _ _ _ hr tk nd => by
  unfold iO;exact (aE (gA T.c_Live T.a_Live_place (fv 0) (vI (fv 1) (eN fI) (eN fI)))
  (aE (gA T.c_Live T.a_Live_heading (fv 0) (vI (fv 1) (eN fI) (eN fI)))
  (aH (gA T.c_Live T.a_Live_mark (fv 0) (vI (fv 1) (eN fI) (eN fI))))))
theorem xM (T : Txt w K mg) : OkMK P w K mg base 4 "Live" ["self", "book", "pen"] 2 "pen" (.ref (He.ga K "HOME")) (spF K dG) :=
 okMK (k := 3) (N := ["self", "book", "pen"]) T.f_Live_init sc_Live_init (Runs.plain (n := 3) (np := 3)) rfl (fun _ _ _ _ _ _ us ks l1 l2 => match us, ks, l1, l2 with | [_, _], [_], _, _ => ⟨_, _, _, _, _, _, rfl, rfl, rfl⟩) (fun _ _ _ _ _ _ us ws l1 l2 => match us, ws, l1, l2 with | [_, _], [_], _, _ => rfl) fun cdv A outer s H E hr => by
  have nd : (["self", "book", "pen"] : List Str).Nodup := sc_Live_init.nd;have tk := takes_of (X := cxOf (L2.CX P w) P w K mg base ["self", "book", "pen"] "Live.__init__" (defScope jY) (He.ma K (He.ga K "Live") "__init__") cdv A outer s H E) (E := E) rfl rfl rfl rfl;unfold nA;exact (aE (cG (aP (xJ T) hr tk (aA (fv 2) aG)))
  (aE (gA T.c_Live T.a_Live_book (fv 0) (fv 1))
  (aH (cG (sN (nH T) hr tk T.c_Live (fv 0) (aA (fv 2) aG))))))
theorem mR (T : Txt w K mg) : OkPr P w K mg base 1 "Live" "pen" (spF K eY) :=
 okP (k := 0) (N := ["self"]) T.f_Live_pen T.P_Live_pen sc_Live_pen (Runs.plain (n := 1) (np := 1)) (fun _ _ _ _ _ _ us hl => match us, hl with | [_], _ => rfl) fun cdv A outer s H E hr => by
  have nd : (["self"] : List Str).Nodup := sc_Live_pen.nd;have tk := takes_of (X := cxOf (L2.CX P w) P w K mg base ["self"] "Live.pen" (defScope lP) (Nh K "Live" "pen") cdv A outer s H E) (E := E) rfl rfl rfl rfl;unfold sQ;exact (aH (aR (bZ bN cV (bZ bN cV (dH T.c_Live T.a_Live_place (fv 0)) (dH T.c_Live T.a_Live_heading (fv 0))) (dH T.c_Live T.a_Live_mark (fv 0)))))
theorem Ak (T : Txt w K mg) : OkMX P w K mg base 3 "Live" "__getitem__" ["self", "part"] (spF K gD) :=
 oL (k := 2) T.f_Live_getitem T.M_Live_getitem Ae (Runs.plain (n := 2) (np := 2)) (fun _ _ _ _ _ _ us hl => match us, hl with | [_, _], _ => rfl) fun _ _ _ _ _ _ hr tk nd => by
  unfold lD;exact (aE (aW (cW (bX (aP (Cp T) hr tk (aA (fv 1) (aA fI aG))))) (aH (mW T.x_NoPart tk)) aL)
  (aE (aW (aO (aZ hr.units) s_eq (fv 1) fI) (aH (aR (dH T.c_Live T.a_Live_place (fv 0)))) aL)
  (aE (aW (aO (aZ hr.units) s_eq (fv 1) fI) (aH (aR (dH T.c_Live T.a_Live_heading (fv 0)))) aL)
  (aH (aR (dH T.c_Live T.a_Live_mark (fv 0)))))))
theorem Aj (T : Txt w K mg) : OkMX P w K mg base 3 "Live" "__setitem__" ["self", "part", "value"] (spF K dM) :=
 oL (k := 2) T.f_Live_setitem T.M_Live_setitem Ac (Runs.plain (n := 3) (np := 3)) (fun _ _ _ _ _ _ us hl => match us, hl with | [_, _, _], _ => rfl) fun _ _ _ _ _ _ hr tk nd => by
  unfold lC;exact (aE (aW (cW (bX (aP (Cp T) hr tk (aA (fv 1) (aA fI aG))))) (aH (mW T.x_NoPart tk)) aL)
  (aE (aW (PW.pt (hY (cW (bX (dX (T := "tuple") T.n_isinstance T.n_tuple (fv 2)))) (pw_or1 (aO (rX hr.units) E6 (eJ T.n_len (fv 2)) fI)))) (aH (mW T.x_NoNumber tk)) aL)
  (aE (aW (PW.pt (hY (cW (bX (aP (Bf T) hr tk (aA (bP (fv 2) fI) aG)))) (pw_or1 (cW (bX (aP (Bf T) hr tk (aA (bP (fv 2) fI) aG))))))) (aH (mW T.x_NoNumber tk)) aL)
  (aH (aW (aO (aZ hr.units) s_eq (fv 1) fI) (aH (gA T.c_Live T.a_Live_place (fv 0) (fv 2))) (aH (aW (aO (aZ hr.units) s_eq (fv 1) fI) (aH (gA T.c_Live T.a_Live_heading (fv 0) (fv 2))) (aH (gA T.c_Live T.a_Live_mark (fv 0) (fv 2))))))))))
theorem EF (T : Txt w K mg) : OkMX P w K mg base 5 "Live" "__iadd__" ["self", "command"] (spF K gJ) :=
 oL (k := 4) T.f_Live_iadd T.M_Live_iadd Dt (Runs.plain (n := 2) (np := 2)) (fun _ _ _ _ _ _ us hl => match us, hl with | [_, _], _ => rfl) fun _ _ _ _ _ _ hr tk nd => by
  unfold pQ;exact (aE (cG (sN (nH T) hr tk T.c_Live (fv 0) (aA (aP (Kn T) hr tk (aA (Bz (mR T) hr T.c_Live (fv 0)) (aA (fv 1) aG))) aG)))
  (aH (aR (fv 0))))
theorem EG (T : Txt w K mg) : OkMX P w K mg base 26 "Live" "__call__" ["self", "procedure", "bits"] (spF K fT) :=
 oL (k := 25) T.f_Live_call T.M_Live_call Du (Runs.plain (n := 4) (np := 3)) (fun _ _ _ _ _ _ us hl => match us, hl with | [_, _, _], _ => rfl) fun _ _ _ _ _ _ hr tk nd => by
  unfold pR;exact (aE (aY (i := 3) nd rfl (.inl rfl) (OQ (Pt T) hr tk (aA (dH T.c_Live T.a_Live_book (fv 0)) (aA (fv 1) (aA (fv 2) aG))) (Bz (mR T) hr T.c_Live (fv 0))))
  (aE (cG (sN (nH T) hr tk T.c_Live (fv 0) (aA (bP (fv 3) fI) aG)))
  (aH (aR (bP (fv 3) fI)))))
theorem JC (T : Txt w K mg) : pZ P w K mg base 1 "_law_pool" ["_law_script"] (spF K xR) :=
 hQ (k := 0) T.f_L_pool T.G_L_pool Iv (Runs.plain (n := 2) (np := 1)) (fun _ _ _ _ _ _ us hl => match us, hl with | [_], _ => rfl) fun _ _ _ _ _ _ hr tk nd => by
  unfold yU;exact (aH (aR (bZ bN cV (bQ (aA fI aG)) (RH (xW (own := [("_law_cell", 1)]) (t := (.nm 1)) rfl nd (kZ (vI (fv 0) iY (eN fI))) (blkOk_by (own := [("_law_cell", 1)]) (N := ["_law_script", "_law_cell"]) (sc := defScope xG) (by decide +kernel)) (fun _ _ _ _ _ => (pg_name (i := 1) nd rfl (.inl rfl))) (fun _ _ _ _ _ => gU) (fun _ _ _ _ _ => (wI T.n_int (fv 1)))) (pe_one (bQ (aA fI aG)))))))
theorem bL (T : Txt w K mg) : pZ P w K mg base 1 "_law_draw" ["_law_pool_here", "_law_many"] (spF K bG) :=
 hQ (k := 0) T.f_L_draw T.G_L_draw Iy (Runs.plain (n := 5) (np := 2)) (fun _ _ _ _ _ _ us hl => match us, hl with | [_, _], _ => rfl) fun _ _ _ _ _ _ hr tk nd => by
  unfold yW;exact (aE (HE (fv 0) fI fI)
  (aE (aY (i := 2) nd rfl (.inl rfl) (bZ bN cV fI (bZ nU xE (wI T.n_int (bP (fv 0) fI)) (bZ fR mN (eJ T.n_len (fv 0)) fI))))
  (aE (aY (i := 3) nd rfl (.inl rfl) (wI T.n_int (bP (fv 0) (fv 2))))
  (aE (aW (aO Kl s_ge (fv 3) (bZ xI FN fI fI)) (aE (IH (bZ uA BR (fv 3) (fv 1)) (fv 0) (fv 2))
  (aH (aR (bZ nU xE (fv 3) (fv 1))))) aL)
  (aE (aY (i := 4) nd rfl (.inl rfl) (bZ nU xE (bZ lX vL (wI T.n_int (bZ bN cV (bZ bN cV (fv 3) (bZ lX vL fI (bP (fv 0) fI))) fI)) fI) fI))
  (aE (aY (i := 4) nd rfl (.inl rfl) (bZ nU xE (bZ lX vL (fv 4) (bZ bN cV (bZ uA BR (fv 4) fI) fI)) fI))
  (aE (aY (i := 4) nd rfl (.inl rfl) (bZ nU xE (bZ lX vL (fv 4) (bZ bN cV (bZ uA BR (fv 4) fI) fI)) fI))
  (aH (aR (bZ nU xE (bZ uA BR (fv 4) fI) (fv 1)))))))))))
theorem nV (T : Txt w K mg) : pZ P w K mg base 2 "_law_command" ["_law_pool_here", "_law_mood"] (spF K gK) :=
 hQ (k := 1) T.f_L_command T.G_L_command Dy (Runs.plain (n := 6) (np := 2)) (fun _ _ _ _ _ _ us hl => match us, hl with | [_, _], _ => rfl) fun _ _ _ _ _ _ hr tk nd => by
  unfold pU;exact (aE (aY (i := 2) nd rfl (.inl rfl) (bQ (aA (bQ (aA fI (aA fI (aA fI (aA fI (aA fI aG)))))) (aA (bQ (aA fI (aA fI (aA fI (aA fI (aA fI aG)))))) (aA (bQ (aA fI (aA fI (aA fI (aA fI (aA fI aG)))))) (aA (bQ (aA fI (aA fI (aA fI (aA fI (aA fI aG)))))) (aA (bQ (aA fI (aA fI (aA fI (aA fI (aA fI aG)))))) aG)))))))
  (aE (aY (i := 2) nd rfl (.inl rfl) (bZ bN cV (fv 2) (bQ (aA (bQ (aA fI (aA fI (aA fI (aA fI (aA fI (aA fI (aA fI (aA fI (aA fI aG)))))))))) (aA (bQ (aA fI (aA fI (aA fI (aA fI (aA fI aG)))))) (aA (bQ (aA fI (aA fI (aA fI (aA fI (aA fI aG)))))) aG))))))
  (aE (aY (i := 3) nd rfl (.inl rfl) (bP (fv 2) (fv 1)))
  (aE (aY (i := 4) nd rfl (.inl rfl) (bP (fv 3) (aP (bL T) hr tk (aA (fv 0) (aA (eJ T.n_len (fv 3)) aG)))))
  (aE (aW (aO (aZ hr.units) s_eq (fv 4) fI) (aE (aY (i := 5) nd rfl (.inl rfl) (bZ fR mN (aP (bL T) hr tk (aA (fv 0) (aA fI aG))) fI))
  (aH (aR (bO (aA fS (aA (bP (bQ (aA (fv 5) (aA fI (aA (bZ fR mN (bZ nU xE (wI T.n_int (fv 5)) fI) fI) (aA fI aG))))) (aP (bL T) hr tk (aA (fv 0) (aA fI aG)))) aG)))))) aL)
  (aE (aW (aO (aZ hr.units) s_eq (fv 4) fI) (aH (aR (bO (aA fS (aA (bZ bN cV fI (aP (bL T) hr tk (aA (fv 0) (aA fI aG)))) aG))))) aL)
  (aE (aW (aO (aZ hr.units) s_eq (fv 4) fI) (aH (aR (bO (aA fS aG)))) aL)
  (aE (aW (aO (aZ hr.units) s_eq (fv 4) fI) (aH (aR (bO (aA fS (aA (bP (bO (aA (lL fI) (aA (lL fI) (aA (lL fI) (aA fI (aA fI (aA fI (aA fI (aA (lL fI) aG))))))))) (aP (bL T) hr tk (aA (fv 0) (aA fI aG)))) aG))))) aL)
  (aE (aW (aO iF tU (fv 4) fI) (aH (aR (bO (aA (bP (bO (aA fS (aA fS aG))) (bZ fR mN (fv 4) fI)) (aA (bZ fR mN (aP (bL T) hr tk (aA (fv 0) (aA fI aG))) fI) (aA (bZ fR mN (aP (bL T) hr tk (aA (fv 0) (aA fI aG))) fI) aG)))))) aL)
  (aH (aR (bO (aA (bP (bO (aA fS (aA fS (aA fS aG)))) (bZ fR mN (fv 4) fI)) aG)))))))))))))
theorem Cs (T : Txt w K mg) : pZ P w K mg base 2 "_law_pair" ["_law_pool_here", "_law_mood"] (spF K rB) :=
 hQ (k := 1) T.f_L_pair T.G_L_pair Iw (Runs.plain (n := 5) (np := 2)) (fun _ _ _ _ _ _ us hl => match us, hl with | [_, _], _ => rfl) fun _ _ _ _ _ _ hr tk nd => by
  unfold yV;exact (aE (aY (i := 2) nd rfl (.inl rfl) (bZ bN cV fI (aP (bL T) hr tk (aA (fv 0) (aA fI aG)))))
  (aE (aY (i := 3) nd rfl (.inl rfl) (aP (bL T) hr tk (aA (fv 0) (aA fI aG))))
  (aE (aW (aO (aZ hr.units) s_eq (fv 1) fI) (aH (aY (i := 3) nd rfl (.inl rfl) (bZ bN cV fI (bZ nU xE (fv 3) fI)))) aL)
  (aE (aW (aO (aZ hr.units) s_eq (fv 1) fI) (aH (aY (i := 3) nd rfl (.inl rfl) fI)) aL)
  (aE (aY (i := 4) nd rfl (.inl rfl) (bQ (aA (bQ (aA (bO (aA fS (aA (fv 2) aG))) (aA (bO (aA fS (aA (lL (fv 2)) aG))) aG))) (aA (bQ (aA (bO (aA fS (aA (fv 2) aG))) (aA (bO (aA fS (aA (bZ fR mN fI (fv 2)) aG))) aG))) (aA (bQ (aA (bO (aA fS aG)) (aA (bO (aA fS aG)) aG))) aG)))))
  (aH (aR (bP (bZ bN cV (fv 4) (bQ (aA (bQ (aA (bO (aA fS aG)) (aA (bO (aA fS aG)) aG))) aG))) (fv 3)))))))))
theorem AK (T : Txt w K mg) : ∀ n, (pZ P w K mg base (2 + n + 1) "_law_block" ["_law_pool_here", "_law_mood", "_law_level", "_law_room", "_law_calls", "_law_low"] (spF K (uW n))) /\ (pZ P w K mg base (2 + n + 1) "_law_piece" ["_law_pool_here", "_law_mood", "_law_level", "_law_room", "_law_calls", "_law_low"] (spF K (kF n)))
 | 0 => ⟨rZ T.f_L_block T.G_L_block BN (fun _ _ _ _ _ _ us hl => match us, hl with | [_, _, _, _, _, _], _ => rfl), rZ T.f_L_piece T.G_L_piece BM (fun _ _ _ _ _ _ us hl => match us, hl with | [_, _, _, _, _, _], _ => rfl)⟩
 | n + 1 => by
  have ih := AK T n;have ih_L_block := ih.1;have ih_L_piece := ih.2;refine ⟨?_, ?_⟩
  ·exact hQ (k := 2 + n + 1) T.f_L_block T.G_L_block BN (Runs.plain (n := 8) (np := 6)) (fun _ _ _ _ _ _ us hl => match us, hl with | [_, _, _, _, _, _], _ => rfl) fun _ _ _ _ _ _ hr tk nd => by
    unfold vF jW;exact (aE (aY (i := 6) nd rfl (.inl rfl) (bQ aG))
  (aE (oO (t := (.nm 7)) (passes_of rfl) rfl (nZ (by rfl) T.n_range (aP (bL T) hr tk (aA (fv 0) (aA fI aG)) (by omega))) (pg_name (i := 7) nd rfl (.inl rfl)) (iK [7] (aH (aW (aO jR vZ (bP (fv 3) fI) fI) (aH (aY (i := 6) nd rfl (.inl rfl) (bZ bN cV (fv 6) (aP ih_L_piece hr tk (aA (fv 0) (aA (fv 1) (aA (fv 2) (aA (fv 3) (aA (fv 4) (aA (fv 5) aG)))))) (by omega))))) aL))))
  (aH (aR (fv 6)))))
  ·exact hQ (k := 2 + n + 1) T.f_L_piece T.G_L_piece BM (Runs.plain (n := 12) (np := 6)) (fun _ _ _ _ _ _ us hl => match us, hl with | [_, _, _, _, _, _], _ => rfl) fun _ _ _ _ _ _ hr tk nd => by
    unfold vC;exact (aE (aY (i := 6) nd rfl (.inl rfl) (aP (bL T) hr tk (aA (fv 0) (aA fI aG)) (by omega)))
  (aE (aW (PW.pt (jC (aO jR vZ (fv 6) fI) (jC (aO iF tU (fv 6) fI) (pw_and1 (aO jR vZ (fv 2) fI))))) (aH (aY (i := 6) nd rfl (.inl rfl) (bZ nU xE (fv 6) fI))) aL)
  (aE (aW (PW.pt (jC (aO (aZ hr.units) s_eq (fv 6) fI) (pw_and1 (aO iF tU (bP (fv 3) fI) fI)))) (aH (aY (i := 6) nd rfl (.inl rfl) fI)) aL)
  (aE (aW (PW.pt (jC (aO jR vZ (fv 6) fI) (jC (aO iF tU (fv 6) fI) (pw_and1 (PW.pt (hY (aO iF tU (bP (fv 4) fI) fI) (pw_or1 (aO Kl s_ge (fv 5) (bP (fv 4) fI))))))))) (aH (aY (i := 6) nd rfl (.inl rfl) fI)) aL)
  (aE (oP (fv 3) fI fI)
  (aE (aW (aO iF tU (fv 6) fI) (aH (aR (bQ (aA (aP (nV T) hr tk (aA (fv 0) (aA (fv 1) aG)) (by omega)) aG)))) aL)
  (aE (aW (aO (aZ hr.units) s_eq (fv 6) fI) (aE (oP (fv 3) fI fI)
  (aE (aY (i := 7) nd rfl (.inl rfl) (aP (Cs T) hr tk (aA (fv 0) (aA (fv 1) aG)) (by omega)))
  (aE (aY (i := 8) nd rfl (.inl rfl) (bQ aG))
  (aE (aW (aO jR vZ (bP (fv 3) fI) fI) (aH (aY (i := 8) nd rfl (.inl rfl) (aP ih_L_piece hr tk (aA (fv 0) (aA (fv 1) (aA (fv 2) (aA (fv 3) (aA (fv 4) (aA (fv 5) aG)))))) (by omega)))) aL)
  (aH (aR (bZ bN cV (bZ bN cV (vI (fv 7) iY (eN fI)) (fv 8)) (vI (fv 7) (eN fI) iY)))))))) aL)
  (aE (aW (aO iF tU (fv 6) fI) (aE (aY (i := 9) nd rfl (.inl rfl) (aP ih_L_block hr tk (aA (fv 0) (aA (fv 1) (aA (bZ bN cV (fv 2) fI) (aA (fv 3) (aA (fv 4) (aA fI aG)))))) (by omega)))
  (aH (aR (bQ (aA (bO (aA fS (aA (fv 9) (aA (aP ih_L_block hr tk (aA (fv 0) (aA (fv 1) (aA (bZ bN cV (fv 2) fI) (aA (fv 3) (aA (fv 4) (aA (fv 5) aG)))))) (by omega)) aG)))) aG))))) aL)
  (aE (aW (aO (aZ hr.units) s_eq (fv 6) fI) (aH (aR (bQ (aA (bO (aA fS (aA (aP ih_L_block hr tk (aA (fv 0) (aA (fv 1) (aA (bZ bN cV (fv 2) fI) (aA (fv 3) (aA (fv 4) (aA fI aG)))))) (by omega)) aG))) aG)))) aL)
  (aE (aW (aO (aZ hr.units) s_eq (fv 6) fI) (aH (aR (bQ (aA (bO (aA fS (aA (aP ih_L_block hr tk (aA (fv 0) (aA (fv 1) (aA (bZ bN cV (fv 2) fI) (aA (fv 3) (aA (fv 4) (aA (fv 5) aG)))))) (by omega)) aG))) aG)))) aL)
  (aE (aW (aO jR vZ (fv 6) fI) (aH (aR (bQ (aA (bO (aA fS (aA (aP (bL T) hr tk (aA (fv 0) (aA fI aG)) (by omega)) aG))) aG)))) aL)
  (aE (oP (fv 4) fI fI)
  (aE (aY (i := 10) nd rfl (.inl rfl) (bZ bN cV (fv 5) (aP (bL T) hr tk (aA (fv 0) (aA (bZ fR mN (bP (fv 4) fI) (fv 5)) aG)) (by omega))))
  (aE (aY (i := 11) nd rfl (.inl rfl) (oQ (aZ hr.units) s_eq (aP (bL T) hr tk (aA (fv 0) (aA fI aG)) (by omega)) fI))
  (aE (aY (i := 9) nd rfl (.inl rfl) (aP ih_L_block hr tk (aA (fv 0) (aA (fv 1) (aA (bZ bN cV (fv 2) fI) (aA (fv 3) (aA (fv 4) (aA (fv 5) aG)))))) (by omega)))
  (aH (aR (bQ (aA (bO (aA fS (aA (fv 10) (aA (fv 11) (aA (bQ (aA (fv 9) (aA (aP ih_L_block hr tk (aA (fv 0) (aA (fv 1) (aA (bZ bN cV (fv 2) fI) (aA (fv 3) (aA (fv 4) (aA (fv 5) aG)))))) (by omega)) aG))) aG))))) aG)))))))))))))))))))
theorem Ge (T : Txt w K mg) (n : Nat) : pZ P w K mg base (2 + n + 1) "_law_piece" ["_law_pool_here", "_law_mood", "_law_level", "_law_room", "_law_calls", "_law_low"] (spF K (kF n)) := (AK T n).2
theorem FZ (T : Txt w K mg) : pZ P w K mg base 3 "_law_around" ["_law_pool_here", "_law_mood", "_law_room", "_law_calls"] (spF K sE) :=
 hQ (k := 2) T.f_L_around T.G_L_around FJ (Runs.plain (n := 9) (np := 4)) (fun _ _ _ _ _ _ us hl => match us, hl with | [_, _, _, _], _ => rfl) fun _ _ _ _ _ _ hr tk nd => by
  unfold sU;exact (aE (oP (fv 2) fI fI)
  (aE (oP (fv 3) fI fI)
  (aE (aY (i := 4) nd rfl (.inl rfl) (aP (bL T) hr tk (aA (fv 0) (aA (bP (fv 3) fI) aG))))
  (aE (aY (i := 5) nd rfl (.inl rfl) (oQ (aZ hr.units) s_eq (aP (bL T) hr tk (aA (fv 0) (aA fI aG))) fI))
  (aE (aY (i := 6) nd rfl (.inl rfl) (aP (bL T) hr tk (aA (fv 0) (aA fI aG))))
  (aE (aY (i := 7) nd rfl (.inl rfl) (bQ (aA (aP (nV T) hr tk (aA (fv 0) (aA (fv 1) aG))) (aA (aP (nV T) hr tk (aA (fv 0) (aA (fv 1) aG))) aG))))
  (aE (aW (aO (aZ hr.units) s_eq (aP (bL T) hr tk (aA (fv 0) (aA fI aG))) fI) (aH (aY (i := 7) nd rfl (.inl rfl) (aP (Cs T) hr tk (aA (fv 0) (aA (fv 1) aG))))) aL)
  (aE (aY (i := 8) nd rfl (.inl rfl) (bQ (aA (bQ aG) (aA (bQ (aA (bP (fv 7) fI) (aA (bO (aA fS (aA (fv 4) (aA (fv 5) (aA (bQ (aA (bQ aG) (aA (bQ aG) aG))) aG))))) (aA (bP (fv 7) fI) aG)))) aG))))
  (aH (aR (bQ (aA (bO (aA fS (aA (bP (fv 8) (fv 6)) (aA (bP (fv 8) (bZ fR mN fI (fv 6))) aG)))) aG))))))))))))
theorem JE (T : Txt w K mg) : pZ P w K mg base 34 "_law_body" ["_law_pool_here", "_law_mood", "_law_room", "_law_calls", "_law_low"] (spF K uF) :=
 hQ (k := 33) T.f_L_body T.G_L_body J0 (Runs.plain (n := 9) (np := 5)) (fun _ _ _ _ _ _ us hl => match us, hl with | [_, _, _, _, _], _ => rfl) fun _ _ _ _ _ _ hr tk nd => by
  unfold yY jP;exact (aE (aY (i := 5) nd rfl (.inl rfl) (aP (bL T) hr tk (aA (fv 0) (aA fI aG))))
  (aE (aY (i := 6) nd rfl (.inl rfl) (bQ aG))
  (aE (aW (PW.pt (jC (aO (aZ hr.units) s_eq (aP (bL T) hr tk (aA (fv 0) (aA fI aG))) fI) (jC (aO jR vZ (bP (fv 2) fI) fI) (pw_and1 (aO jR vZ (bP (fv 3) fI) fI))))) (aH (aY (i := 6) nd rfl (.inl rfl) (aP (FZ T) hr tk (aA (fv 0) (aA (fv 1) (aA (fv 2) (aA (fv 3) aG))))))) aL)
  (aE (oO (t := (.nm 7)) (passes_of rfl) rfl (nZ (by rfl) T.n_range (bZ bN cV fI (aP (bL T) hr tk (aA (fv 0) (aA fI aG))))) (pg_name (i := 7) nd rfl (.inl rfl)) (iK [7] (aH (aW (aO jR vZ (bP (fv 2) fI) fI) (aH (aY (i := 6) nd rfl (.inl rfl) (bZ bN cV (fv 6) (aP (Ge T 30) hr tk (aA (fv 0) (aA (fv 1) (aA fI (aA (fv 2) (aA (fv 3) (aA (fv 4) aG)))))))))) aL))))
  (aE (aY (i := 8) nd rfl (.inl rfl) (bQ (aA (bQ (aA (bO (aA fS (aA (bQ (aA (bO (aA fS (aA fI aG))) aG)) (aA (bQ aG) aG)))) aG)) (aA (bQ (aA (bO (aA fS (aA fI aG))) aG)) aG))))
  (aE (aW (PW.pt (hY (aO (aZ hr.units) s_eq (fv 5) fI) (pw_or1 (aO (aZ hr.units) s_eq (fv 5) fI)))) (aH (aR (bZ bN cV (fv 6) (bP (fv 8) (bZ uA BR (fv 5) fI))))) aL)
  (aE (aW (aO (aZ hr.units) s_eq (fv 5) fI) (aH (aR (bZ bN cV (bP (fv 8) fI) (fv 6)))) aL)
  (aH (aR (fv 6))))))))))
theorem JD (T : Txt w K mg) : pZ P w K mg base 35 "_law_book" ["_law_pool_here", "_law_most", "_law_size"] (spF K xS) :=
 hQ (k := 34) T.f_L_book T.G_L_book Iz (Runs.cut (n := 11) (np := 3)) (fun _ _ _ _ _ _ us hl => match us, hl with | [_, _, _], _ => rfl) fun _ _ _ _ _ _ hr tk nd => by
  unfold yX lN;exact (aE (aY (i := 3) nd rfl (.inl rfl) (aP (bL T) hr tk (aA (fv 0) (aA fI aG))))
  (aE (aY (i := 4) nd rfl (.inl rfl) (oQ (aZ hr.units) s_eq (aP (bL T) hr tk (aA (fv 0) (aA fI aG))) fI))
  (aE (aY (i := 5) nd rfl (.inl rfl) (bZ bN cV fI (aP (bL T) hr tk (aA (fv 0) (aA (fv 1) aG)))))
  (aE (aY (i := 6) nd rfl (.inl rfl) (bQ (aA fI (aA (fv 5) aG))))
  (aE (aY (i := 7) nd rfl (.inl rfl) (bQ aG))
  (aE (oO (t := (.nm 8)) (passes_of rfl) rfl (nZ (by rfl) T.n_range (fv 5)) (pg_name (i := 8) nd rfl (.inl rfl)) (iK [8, 9, 10] (aE (aY (i := 9) nd rfl (.inl rfl) (bQ (aA (bZ fR mN (bZ fR mN (fv 2) fI) (wI T.n_int (oQ jR vZ (fv 5) fI))) aG)))
  (aE (aY (i := 10) nd rfl (.inl rfl) (bZ bN cV (fv 8) fI))
  (aE (aW (bX (fv 4)) (aH (aY (i := 10) nd rfl (.inl rfl) fI)) aL)
  (aH (cG (kH (fv 7) (aP (JE T) hr tk (aA (fv 0) (aA (fv 3) (aA (fv 9) (aA (fv 6) (aA (fv 10) aG))))))))))))))
  (aH (aR (M9 (fv 7))))))))))
theorem pG (T : Txt w K mg) : ∀ n, pZ P w K mg base (0 + n + 1) "_law_copied" ["_law_value"] (spF K (dE n))
 | 0 => rZ T.f_L_copied T.G_L_copied AJ (fun _ _ _ _ _ _ us hl => match us, hl with | [_], _ => rfl)
 | n + 1 => by
  have ih_L_copied := pG T n;exact hQ (k := 0 + n + 1) T.f_L_copied T.G_L_copied AJ (Runs.plain (n := 2) (np := 1)) (fun _ _ _ _ _ _ us hl => match us, hl with | [_], _ => rfl) fun _ _ _ _ _ _ hr tk nd => by
   unfold sS;exact (aE (aW (bX (dX (T := "list") T.n_isinstance T.n_list (fv 0))) (aH (aR (xW (own := [("_law_item", 1)]) (t := (.nm 1)) rfl nd (kZ (fv 0)) (blkOk_by (own := [("_law_item", 1)]) (N := ["_law_value", "_law_item"]) (sc := defScope oH) (by decide +kernel)) (fun _ _ _ _ _ => (pg_name (i := 1) nd rfl (.inl rfl))) (fun _ _ _ _ _ => gU) (fun _ _ _ _ _ => (aP ih_L_copied hr takes0 (aA (fv 1) aG) (by omega)))))) aL)
  (aE (aW (bX (dX (T := "tuple") T.n_isinstance T.n_tuple (fv 0))) (aH (aR (Eh T.n_tuple (xW (own := [("_law_item", 1)]) (t := (.nm 1)) rfl nd (kZ (fv 0)) (blkOk_by (own := [("_law_item", 1)]) (N := ["_law_value", "_law_item"]) (sc := defScope oH) (by decide +kernel)) (fun _ _ _ _ _ => (pg_name (i := 1) nd rfl (.inl rfl))) (fun _ _ _ _ _ => gU) (fun _ _ _ _ _ => (aP ih_L_copied hr takes0 (aA (fv 1) aG) (by omega))))))) aL)
  (aH (aR (fv 0)))))
theorem uC (T : Txt w K mg) : ∀ n, pZ P w K mg base (0 + n + 1) "_law_same" ["_law_one", "_law_other"] (spF K (iG n))
 | 0 => rZ T.f_L_same_2 T.G_L_same_2 AI (fun _ _ _ _ _ _ us hl => match us, hl with | [_, _], _ => rfl)
 | n + 1 => by
  have ih_L_same_2 := uC T n;exact hQ (k := 0 + n + 1) T.f_L_same_2 T.G_L_same_2 AI (Runs.plain (n := 3) (np := 2)) (fun _ _ _ _ _ _ us hl => match us, hl with | [_, _], _ => rfl) fun _ _ _ _ _ _ hr tk nd => by
   unfold sR oC;exact (aE (aW (bX (M8 (T := "list") (U := "tuple") T.n_isinstance T.n_list T.n_tuple (fv 1))) (aE (aW (PW.pt (hY (cW (bX (M8 (T := "list") (U := "tuple") T.n_isinstance T.n_list T.n_tuple (fv 0)))) (pw_or1 (aO (rX hr.units) E6 (dX (T := "list") T.n_isinstance T.n_list (fv 0)) (dX (T := "list") T.n_isinstance T.n_list (fv 1)))))) (aH (aR fB)) aL)
  (aH (aR (gG (oQ (aZ hr.units) s_eq (eJ T.n_len (fv 0)) (eJ T.n_len (fv 1))) (pe_one (G4 T.n_all (xW (own := [("_law_k", 2)]) (t := (.nm 2)) rfl nd (nZ (by rfl) T.n_range (eJ T.n_len (fv 1))) (blkOk_by (own := [("_law_k", 2)]) (N := ["_law_one", "_law_other", "_law_k"]) (sc := defScope rW) (by decide +kernel)) (fun _ _ _ _ _ => (pg_name (i := 2) nd rfl (.inl rfl))) (fun _ _ _ _ _ => gU) (fun _ _ _ _ _ => (aP ih_L_same_2 hr takes0 (aA (bP (fv 0) (fv 2)) (aA (bP (fv 1) (fv 2)) aG)) (by omega)))))))))) aL)
  (aE (aW (PW.pt (hY (bX (dX (T := "bool") T.n_isinstance T.n_bool (fv 0))) (pw_or1 (bX (dX (T := "bool") T.n_isinstance T.n_bool (fv 1)))))) (aH (aR (gG (dX (T := "bool") T.n_isinstance T.n_bool (fv 0)) (gG (dX (T := "bool") T.n_isinstance T.n_bool (fv 1)) (pe_one (oQ (aZ hr.units) s_eq (fv 0) (fv 1))))))) aL)
  (aE (aW (bX (dX (T := "int") T.n_isinstance T.n_int (fv 1))) (aH (aR (gG (dX (T := "int") T.n_isinstance T.n_int (fv 0)) (pe_one (oQ (aZ hr.units) s_eq (fv 0) (fv 1)))))) aL)
  (aE (aW (bX (dX (T := "str") T.n_isinstance T.n_str (fv 1))) (aH (aR (gG (dX (T := "str") T.n_isinstance T.n_str (fv 0)) (pe_one (oQ (aZ hr.units) s_eq (fv 0) (fv 1)))))) aL)
  (aH (aR (gG (oQ EE KS (fv 0) fN) (pe_one (oQ EE KS (fv 1) fN)))))))))
theorem rY (T : Txt w K mg) : pZ P w K mg base 22 "_law_odd" ["_law_pool_here"] (spF K hL) :=
 hQ (k := 21) T.f_L_odd_3 T.G_L_odd_3 GW (Runs.plain (n := 2) (np := 1)) (fun _ _ _ _ _ _ us hl => match us, hl with | [_], _ => rfl) fun _ _ _ _ _ _ hr tk nd => by
  unfold vD;exact (aE (aY (i := 1) nd rfl (.inl rfl) (bQ (aA (lL fI) (aA fI (aA fI (aA fN (aA fB (aA fB (aA fS (aA fS (aA (bQ (aA fI aG)) (aA (bO (aA fI aG)) (aA (bO aG) (aA (bQ aG) aG))))))))))))))
  (aH (aR (aP (pG T 20) hr tk (aA (bP (fv 1) (aP (bL T) hr tk (aA (fv 0) (aA (eJ T.n_len (fv 1)) aG)))) aG)))))
theorem xO (T : Txt w K mg) : pZ P w K mg base 1 "_law_index" ["_law_thing", "_law_bound"] (spF K mU) :=
 hQ (k := 0) T.f_L_index_3 T.G_L_index_3 Dx (Runs.plain (n := 2) (np := 2)) (fun _ _ _ _ _ _ us hl => match us, hl with | [_, _], _ => rfl) fun _ _ _ _ _ _ hr tk nd => by
  unfold pT;exact (aE (aW (PW.pt (hY (cW (bX (dX (T := "int") T.n_isinstance T.n_int (fv 0)))) (pw_or1 (bX (dX (T := "bool") T.n_isinstance T.n_bool (fv 0)))))) (aH (aR fB)) aL)
  (aH (aR (uY nG Ag iF tU fI (fv 0) (fv 1)))))
theorem qH (T : Txt w K mg) : pZ P w K mg base 1 "_law_integers" ["_law_thing", "_law_many"] (spF K iS) :=
 hQ (k := 0) T.f_L_integers T.G_L_integers CT (Runs.plain (n := 3) (np := 2)) (fun _ _ _ _ _ _ us hl => match us, hl with | [_, _], _ => rfl) fun _ _ _ _ _ _ hr tk nd => by
  unfold oE iL;exact (aE (aW (PW.pt (hY (cW (bX (dX (T := "tuple") T.n_isinstance T.n_tuple (fv 0)))) (pw_or1 (aO (rX hr.units) E6 (eJ T.n_len (fv 0)) (fv 1))))) (aH (aR fB)) aL)
  (aH (aR (G4 T.n_all (xW (own := [("_law_number", 2)]) (t := (.nm 2)) rfl nd (kZ (fv 0)) (blkOk_by (own := [("_law_number", 2)]) (N := ["_law_thing", "_law_many", "_law_number"]) (sc := defScope nS) (by decide +kernel)) (fun _ _ _ _ _ => (pg_name (i := 2) nd rfl (.inl rfl))) (fun _ _ _ _ _ => gU) (fun _ _ _ _ _ => (gG (dX (T := "int") T.n_isinstance T.n_int (fv 2)) (pe_one (HG (dX (T := "bool") T.n_isinstance T.n_bool (fv 2)))))))))))
theorem Am (T : Txt w K mg) : pZ P w K mg base 2 "_law_is_command" ["_law_thing"] (spF K kN) :=
 hQ (k := 1) T.f_L_is_command T.G_L_is_command Af (Runs.plain (n := 4) (np := 1)) (fun _ _ _ _ _ _ us hl => match us, hl with | [_], _ => rfl) fun _ _ _ _ _ _ hr tk nd => by
  unfold lE eR gH;exact (aE (aY (i := 1) nd rfl (.inl rfl) (bQ (aA (bO (aA fS (aA fI (aA (lL fI) (aA fI aG))))) (aA (bO (aA fS (aA fI (aA fI (aA fI aG))))) (aA (bO (aA fS (aA fI (aA fI (aA fI aG))))) (aA (bO (aA fS (aA fI (aA (lL fI) (aA fI aG))))) (aA (bO (aA fS (aA fI (aA (lL fI) (aA fI aG))))) aG)))))))
  (aE (aY (i := 1) nd rfl (.inl rfl) (bZ bN cV (fv 1) (bQ (aA (bO (aA fS (aA fI (aA (lL fI) (aA fI aG))))) (aA (bO (aA fS (aA fI (aA fI (aA fI aG))))) (aA (bO (aA fS (aA fI (aA fI (aA fI aG))))) (aA (bO (aA fS (aA fI (aA fI (aA fI aG))))) aG)))))))
  (aE (aW (PW.pt (hY (cW (bX (dX (T := "tuple") T.n_isinstance T.n_tuple (fv 0)))) (hY (aO iF tU (eJ T.n_len (fv 0)) fI) (pw_or1 (cW (bX (dX (T := "str") T.n_isinstance T.n_str (bP (fv 0) fI)))))))) (aH (aR fB)) aL)
  (aE (oO (t := (.nm 2)) (passes_of rfl) rfl (kZ (fv 1)) (pg_name (i := 2) nd rfl (.inr rfl)) (iK [2] (aH (aW (PW.pt (jC (aO (aZ hr.units) s_eq (bP (fv 2) fI) (bP (fv 0) fI)) (pw_and1 (bX (aP (qH T) hr tk (aA (vI (fv 0) (eN fI) iY) (aA (bP (fv 2) fI) aG))))))) (aH (aR (G4 T.n_all (xW (own := [("_law_number", 3)]) (t := (.nm 3)) rfl nd (kZ (vI (fv 0) (eN fI) iY)) (blkOk_by (own := [("_law_number", 3)]) (N := ["_law_thing", "_law_rows", "_law_row", "_law_number"]) (sc := defScope kM) (by decide +kernel)) (fun _ _ _ _ _ => (pg_name (i := 3) nd rfl (.inl rfl))) (fun _ _ _ _ _ => gU) (fun _ _ _ _ _ => (uY nG Ag nG Ag (bP (fv 2) fI) (fv 3) (bP (fv 2) fI))))))) aL))))
  (aH (aR fB))))))
theorem xN (T : Txt w K mg) : pZ P w K mg base 23 "_law_numbers" ["_law_pool_here", "_law_many"] (spF K eC) :=
 hQ (k := 22) T.f_L_numbers T.G_L_numbers Dw (Runs.cut (n := 6) (np := 2)) (fun _ _ _ _ _ _ us hl => match us, hl with | [_, _], _ => rfl) fun _ _ _ _ _ _ hr tk nd => by
  unfold pS jI;exact (aE (Ly (i := 2) (own := [("_law_k", 5)]) (t := (.nm 5)) rfl nd rfl rfl (sw_true rfl rfl rfl (by decide +kernel)) (nZ (by rfl) T.n_range (fv 1)) (blkOk_by (own := [("_law_k", 5)]) (N := ["_law_pool_here", "_law_many", "_law_row", "_law_kind", "_law_at", "_law_k"]) (sc := defScope pE) (by decide +kernel)) (fun _ _ _ _ _ => (pg_name (i := 5) nd rfl (.inl rfl))) (fun _ _ _ _ _ => gU) (fun _ _ _ _ _ => (bZ fR mN (aP (bL T) hr takes0 (aA (fv 0) (aA (bZ bN cV (bZ lX vL fI (bZ xI FN fI fI)) fI) aG))) (bZ xI FN fI fI))))
  (aE (aY (i := 3) nd rfl (.inl rfl) (aP (bL T) hr tk (aA (fv 0) (aA fI aG))))
  (aE (aY (i := 4) nd rfl (.inl rfl) (aP (bL T) hr tk (aA (fv 0) (aA (fv 1) aG))))
  (aE (aW (aO (aZ hr.units) s_eq (fv 3) fI) (aH (IH (aP (rY T) hr tk (aA (fv 0) aG)) (fv 2) (fv 4))) aL)
  (aE (aW (aO (aZ hr.units) s_eq (fv 3) fI) (OK 2 (aH (aR (bP (bQ (aA (fv 2) (aA fN (aA (bP (fv 2) (fv 4)) (aA fB (aA fS (aA (bO aG) aG))))))) (aP (bL T) hr tk (aA (fv 0) (aA fI aG))))))) aL)
  (aE (aW (aO (aZ hr.units) s_eq (fv 3) fI) (aH (cG (f_ins (fv 2) (fv 4) fI))) aL)
  (aE (aW (aO (aZ hr.units) s_eq (fv 3) fI) (aH (cG (OO (fv 2) (fv 4)))) aL)
  (aH (aR (Eh T.n_tuple (fv 2)))))))))))
theorem J9 (T : Txt w K mg) : pZ P w K mg base 23 "_law_step" ["_law_pool_here"] (spF K rA) :=
 hQ (k := 22) T.f_L_step T.G_L_step Iu (Runs.plain (n := 4) (np := 1)) (fun _ _ _ _ _ _ us hl => match us, hl with | [_], _ => rfl) fun _ _ _ _ _ _ hr tk nd => by
  unfold yT;exact (aE (aY (i := 1) nd rfl (.inl rfl) (aP (nV T) hr tk (aA (fv 0) (aA fI aG))))
  (aE (aY (i := 2) nd rfl (.inl rfl) (aP (bL T) hr tk (aA (fv 0) (aA fI aG))))
  (aE (aW (aO (aZ hr.units) s_eq (fv 2) fI) (aH (aR (bZ bN cV (fv 1) (bO (aA (aP (rY T) hr tk (aA (fv 0) aG)) aG))))) aL)
  (aE (aW (PW.pt (jC (aO (aZ hr.units) s_eq (fv 2) fI) (pw_and1 (aO jR vZ (eJ T.n_len (fv 1)) fI)))) (aE (aY (i := 3) nd rfl (.inl rfl) (bZ bN cV fI (aP (bL T) hr tk (aA (fv 0) (aA (bZ fR mN (eJ T.n_len (fv 1)) fI) aG)))))
  (aH (aR (bZ bN cV (bZ bN cV (vI (fv 1) iY (eN (fv 3))) (bO (aA (bZ fR mN (aP (bL T) hr tk (aA (fv 0) (aA fI aG))) fI) aG))) (vI (fv 1) (eN (bZ bN cV (fv 3) fI)) iY))))) aL)
  (aE (aW (PW.pt (jC (aO (aZ hr.units) s_eq (fv 2) fI) (pw_and1 (aO jR vZ (eJ T.n_len (fv 1)) fI)))) (aH (aR (bZ bN cV (vI (fv 1) iY (eN (lL fI))) (bO (aA (aP (rY T) hr tk (aA (fv 0) aG)) aG))))) aL)
  (aE (aW (aO (aZ hr.units) s_eq (fv 2) fI) (aH (aR (bP (bQ (aA (RJ T.n_list (fv 1)) (aA (vI (fv 1) iY (eN (lL fI))) (aA (vI (fv 1) (eN fI) iY) (aA fN (aA fS (aA (bO (aA fS (aA (bQ aG) aG))) (aA (bO (aA fS (aA fI aG))) (aA (bO (aA fS (aA fI aG))) aG))))))))) (aP (bL T) hr tk (aA (fv 0) (aA fI aG)))))) aL)
  (aH (aR (fv 1)))))))))
theorem Bi (T : Txt w K mg) : pZ P w K mg base 27 "_law_requested" ["_law_live", "_law_book_here", "_law_kind", "_law_part", "_law_thing"] (spF K hJ) :=
 hQ (k := 26) T.f_L_requested T.G_L_requested BL (Runs.cut (n := 8) (np := 5)) (fun _ _ _ _ _ _ us hl => match us, hl with | [_, _, _, _, _], _ => rfl) fun _ _ _ _ _ _ hr tk nd => by
  unfold mJ;exact (aE (aY (i := 5) nd rfl (.inr rfl) (bQ aG))
  (aE (OL (k := 6) (i := 5) (ys := [.own "NoPart", .own "NoNumber", .own "NoPen"]) (r := [[.own "NoCommand", .own "NoProcedure", .own "NoRun"]]) (fin := none) T.xb_L_requested (by decide) T.g_HomeError rfl rfl tk (fun W pn xe tk po => (aH (aW (aO (aZ hr.units) s_eq (fv 2) fI) (aH (aY (i := 4) nd rfl (.inl rfl) (RL (Ak T) hr tk (II T.f_Live_getitem) (fv 0) (fv 3)))) (aH (aW (aO (aZ hr.units) s_eq (fv 2) fI) (aH (OM (Aj T) hr tk T.nq_Live (fv 4) (fv 0) (fv 3))) (aH (aW (aO (aZ hr.units) s_eq (fv 2) fI) (aH (aY (i := 4) nd rfl (.inl rfl) (IK T.T_Live (xM T) hr tk (aA (fv 1) aG) (fv 4)))) (aH (aW (aO (aZ hr.units) s_eq (fv 2) fI) (aH (Lz (kk := 0) (EF T) hr tk T.sf_Live nd rfl (.inl rfl) (fv 4))) (aH (aY (i := 4) nd rfl (.inl rfl) (OP (ii := 0) (EG T) hr tk (II T.f_Live_call) rfl (by first | exact zE rfl | exact tN (zE rfl) | exact tN (tN rfl)) (aA (fv 3) (aA (fv 4) aG)))))))))))))) nd rfl rfl (fun a oe cls dd pn hz hf => (QW nd rfl (.inr rfl) (A1 T.n_isinstance T.g_NoPart hz hf (cv 6) (A1 T.n_isinstance T.g_NoNumber hz hf (cv 6) (A1 T.n_isinstance T.g_NoPen hz hf (cv 6) LJ))) (QY nd rfl (.inr rfl) (cv 5) (A1 T.n_isinstance T.g_NoCommand hz hf (cv 6) (A1 T.n_isinstance T.g_NoProcedure hz hf (cv 6) (A1 T.n_isinstance T.g_NoRun hz hf (cv 6) LJ))) QX))))
  (aH (aR (bZ bN cV (xW (own := [("_law_k", 7)]) (t := (.nm 7)) rfl nd (nZ (by rfl) T.n_range (eJ T.n_len (fv 5))) (blkOk_by (own := [("_law_k", 7)]) (N := ["_law_live", "_law_book_here", "_law_kind", "_law_part", "_law_thing", "_law_sorts", "e", "_law_k"]) (sc := defScope lW) (by decide +kernel)) (fun _ _ _ _ _ => (pg_name (i := 7) nd rfl (.inl rfl))) (fun _ _ _ _ _ => (OJ (bX (bP (fv 5) (fv 7))))) (fun _ _ _ _ _ => (fv 7))) (bZ op_rep s_rep (bQ (aA fI aG)) (wI T.n_int (oQ jR vZ (eJ T.n_len (fv 5)) fI))))))))
theorem Gf (T : Txt w K mg) : pZ P w K mg base 3 "_law_due" ["_law_bodies", "_law_kind", "_law_part", "_law_thing"] (spF K rC) :=
 hQ (k := 2) T.f_L_due_5 T.G_L_due_5 GX (Runs.plain (n := 4) (np := 4)) (fun _ _ _ _ _ _ us hl => match us, hl with | [_, _, _, _], _ => rfl) fun _ _ _ _ _ _ hr tk nd => by
  unfold vE;exact (aE (aW (aO iF tU (fv 1) fI) (aE (aW (cW (bX (aP (xO T) hr tk (aA (fv 2) (aA fI aG))))) (aH (aR (bQ (aA fI (aA fI aG))))) aL)
  (aH (aW (PW.pt (jC (aO (aZ hr.units) s_eq (fv 1) fI) (pw_and1 (cW (bX (aP (qH T) hr tk (aA (fv 3) (aA fI aG)))))))) (aH (aR (bQ (aA fI (aA fI aG))))) aL))) aL)
  (aE (aW (PW.pt (jC (aO (aZ hr.units) s_eq (fv 1) fI) (pw_and1 (cW (bX (aP (qH T) hr tk (aA (fv 3) (aA fI aG)))))))) (aH (aR (bQ (aA fI (aA fI aG))))) aL)
  (aE (aW (PW.pt (jC (aO (aZ hr.units) s_eq (fv 1) fI) (pw_and1 (cW (bX (aP (Am T) hr tk (aA (fv 3) aG))))))) (aH (aR (bQ (aA fI (aA fI aG))))) aL)
  (aE (aW (PW.pt (jC (aO (aZ hr.units) s_eq (fv 1) fI) (pw_and1 (cW (bX (aP (xO T) hr tk (aA (fv 2) (aA (eJ T.n_len (fv 0)) aG)))))))) (aH (aR (bQ (aA fI (aA fI aG))))) aL)
  (aE (aW (aO (aZ hr.units) s_eq (fv 1) fI) (aH (aR (bQ (aA fI (aA fI aG))))) aL)
  (aH (aR (bQ aG))))))))
theorem law_fn (T : Txt w K mg) : ∃ fd, (∀ (s : Shared) (us : List Value), us.length = (["_law_script"] : List Str).length -> BindsTo s fd ⟨us, []⟩ ((["_law_script"] : List Str).zip us)) /\ ∀ base, FnOk P w K mg base (L2.CX P w) 36 (He.ga K "law") fd ["_law_script"] (spF K m_law_k97) :=
 Kz (N := ["_law_script", "_law_pool_here", "_law_bodies", "_law_book_here", "_law_start", "_law_live", "_law_turn", "_law_before", "_law_kind", "_law_part", "_law_thing", "_law_due_here", "_law_k"]) T.f_law_k97 sc_law_k97 (Runs.cut (n := 13) (np := 1) (mb := rL)) (fun _ _ _ _ _ _ us hl => match us, hl with | [_], _ => rfl) fun base cdv A outer s H E hr => by
  have nd : (["_law_script", "_law_pool_here", "_law_bodies", "_law_book_here", "_law_start", "_law_live", "_law_turn", "_law_before", "_law_kind", "_law_part", "_law_thing", "_law_due_here", "_law_k"] : List Str).Nodup := sc_law_k97.nd;have tk := takes_of (X := cxOf (L2.CX P w) P w K mg base ["_law_script", "_law_pool_here", "_law_bodies", "_law_book_here", "_law_start", "_law_live", "_law_turn", "_law_before", "_law_kind", "_law_part", "_law_thing", "_law_due_here", "_law_k"] "law" (defScope qX) (He.ga K "law") cdv A outer s H E) (E := E) rfl rfl rfl rfl;unfold rL pF mL mY;exact (aE (aY (i := 1) nd rfl (.inr rfl) (aP (JC T) hr tk (aA (fv 0) aG)))
  (aE (aY (i := 2) nd rfl (.inl rfl) (aP (JD T) hr tk (aA (fv 1) (aA fI (aA fI aG)))))
  (aE (aY (i := 3) nd rfl (.inl rfl) (M7 T.T_Book (EH T) hr tk (aA (aP (pG T 20) hr tk (aA (fv 2) aG)) aG)))
  (aE (aY (i := 4) nd rfl (.inl rfl) (Eh T.n_tuple (xW (own := [("_law_k", 12)]) (t := (.nm 12)) rfl nd (nZ (by rfl) T.n_range fI) (blkOk_by (own := [("_law_k", 12)]) (N := ["_law_script", "_law_pool_here", "_law_bodies", "_law_book_here", "_law_start", "_law_live", "_law_turn", "_law_before", "_law_kind", "_law_part", "_law_thing", "_law_due_here", "_law_k"]) (sc := defScope qX) (by decide +kernel)) (fun _ _ _ _ _ => (pg_name (i := 12) nd rfl (.inl rfl))) (fun _ _ _ _ _ => gU) (fun _ _ _ _ _ => (bZ fR mN (aP (bL T) hr takes0 (aA (fv 1) (aA (bZ bN cV (bZ lX vL fI (bZ xI FN fI fI)) fI) aG))) (bZ xI FN fI fI))))))
  (aE (aY (i := 5) nd rfl (.inl rfl) (IK T.T_Live (xM T) hr tk (aA (fv 3) aG) (fv 4)))
  (aE (aW (cW (bX (aP (uC T 20) hr tk (aA (Bz (mR T) hr T.c_Live (fv 5)) (aA (fv 4) aG))))) (aH (aR fB)) aL)
  (aE (oO (t := (.nm 6)) (passes_of rfl) rfl (nZ (by rfl) T.n_range fI) (pg_name (i := 6) nd rfl (.inl rfl)) (iK [6, 7, 8, 9, 10, 11] (aE (aY (i := 7) nd rfl (.inl rfl) (Bz (mR T) hr T.c_Live (fv 5)))
  (aE (aY (i := 8) nd rfl (.inl rfl) (aP (bL T) hr tk (aA (fv 1) (aA fI aG))))
  (aE (aY (i := 9) nd rfl (.inl rfl) (aP (bL T) hr tk (aA (fv 1) (aA fI aG))))
  (aE (aW (aO (aZ hr.units) s_eq (aP (bL T) hr tk (aA (fv 1) (aA fI aG))) fI) (aH (aY (i := 9) nd rfl (.inl rfl) (aP (rY T) hr tk (aA (fv 1) aG)))) aL)
  (aE (aW (aO iF tU (fv 8) fI) (aH (aY (i := 10) nd rfl (.inl rfl) (aP (xN T) hr tk (aA (fv 1) (aA fI aG))))) (aH (aW (aO (aZ hr.units) s_eq (fv 8) fI) (aH (aY (i := 10) nd rfl (.inl rfl) (aP (xN T) hr tk (aA (fv 1) (aA fI aG))))) (aH (aW (aO (aZ hr.units) s_eq (fv 8) fI) (aH (aY (i := 10) nd rfl (.inl rfl) (aP (J9 T) hr tk (aA (fv 1) aG)))) (aH (aY (i := 10) nd rfl (.inl rfl) (bP (bQ (aA fN (aA fI (aA (bO (aA fI (aA fI aG))) (aA (bQ (aA fI (aA fI (aA fB aG)))) (aA (bQ (aA fI (aA fN aG))) (aA (bQ (aA fS aG)) (aA (bQ (aA fI aG)) (aA fS aG))))))))) (aP (bL T) hr tk (aA (fv 1) (aA fI aG)))))))))))
  (aE (aY (i := 11) nd rfl (.inl rfl) (aP (Gf T) hr tk (aA (fv 2) (aA (fv 8) (aA (fv 9) (aA (fv 10) aG))))))
  (aE (aW (aO (rX hr.units) E6 (aP (Bi T) hr tk (aA (fv 5) (aA (fv 3) (aA (fv 8) (aA (fv 9) (aA (aP (pG T 20) hr tk (aA (fv 10) aG)) aG)))))) (fv 11)) (aH (aR fB)) aL)
  (aH (aW (PW.pt (jC (bX (fv 11)) (pw_and1 (cW (bX (aP (uC T 20) hr tk (aA (Bz (mR T) hr T.c_Live (fv 5)) (aA (fv 7) aG)))))))) (aH (aR fB)) aL)))))))))))
  (aH (aR fB)))))))))
end
theorem Ap {K : aD} (h : ex K = true) (i : Nat) {b : Bool} (e : (exs K)[i]? = some b := by rfl) : b = true := bI.mp h b (fY e)
theorem ob_eq (s : BB) : ob s = hk.obs s.abs := NF (HandSHeadRun.getT_eq s)
theorem txt {w : World} {K : aD} {h : Heap} {mg : Str -> Option Value} (X : K.In h) (G : h.Ns mainGlobals mg) (c : He.SaysT fa fn ts w K /\ ex K = true /\ SaysG gn K) : Txt w K mg where
  n_isinstance := He.free_ok X G (c.1.d.fact 0 (f := .free "isinstance") rfl)
  n_int := He.free_ok X G (c.1.d.fact 1 (f := .free "int") rfl)
  n_bool := He.free_ok X G (c.1.d.fact 2 (f := .free "bool") rfl)
  n_tuple := He.free_ok X G (c.1.d.fact 3 (f := .free "tuple") rfl)
  n_len := He.free_ok X G (c.1.d.fact 4 (f := .free "len") rfl)
  n_all := He.free_ok X G (c.1.d.fact 5 (f := .free "all") rfl)
  n_str := He.free_ok X G (c.1.d.fact 6 (f := .free "str") rfl)
  lim := QB (Ap c.2.1 0) (Jn c.1 0 (t := Gn) rfl)
  k_LIMITS := c.1.tab 0 (t := Gn) rfl
  g_LIMITS := He.glo_ok X G (c.1.d.fact 7 (f := .glo "LIMITS") rfl)
  n_range := He.free_ok X G (c.1.d.fact 8 (f := .free "range") rfl)
  x_NoPen := BD (Ap c.2.1 1) (He.glo_ok X G (c.1.d.fact 9 (f := .glo "NoPen") rfl))
  x_NoCommand := BD (Ap c.2.1 2) (He.glo_ok X G (c.1.d.fact 10 (f := .glo "NoCommand") rfl))
  i_DEEPEST := He.int_ok X G (c.1.d.fact 11 (f := .int "DEEPEST" 3) rfl)
  n_list := He.free_ok X G (c.1.d.fact 12 (f := .free "list") rfl)
  n_enumerate := He.free_ok X G (c.1.d.fact 13 (f := .free "enumerate") rfl)
  i_MOST_IN_LIST := He.int_ok X G (c.1.d.fact 14 (f := .int "MOST_IN_LIST" 8) rfl)
  i_MOST_IN_PROCEDURE := He.int_ok X G (c.1.d.fact 15 (f := .int "MOST_IN_PROCEDURE" 12) rfl)
  i_MOST_PROCEDURES := He.int_ok X G (c.1.d.fact 16 (f := .int "MOST_PROCEDURES" 3) rfl)
  xa_NoBook := K1 (Ap c.2.1 3) (He.glo_ok X G (c.1.d.fact 17 (f := .glo "NoBook") rfl))
  fx_NoBook := c.1.d.def_ 0 (d := C2) rfl
  c_Book := He.cls_ok (c.1.d.fact 18 (f := .cls "Book") rfl)
  a_Book_own := He.noat_ok (c.1.d.fact 19 (f := .noat "Book" "own") rfl)
  c_Execution := He.cls_ok (c.1.d.fact 20 (f := .cls "Execution") rfl)
  a_Execution_own := He.noat_ok (c.1.d.fact 21 (f := .noat "Execution" "own") rfl)
  a_Execution_bits := He.noat_ok (c.1.d.fact 22 (f := .noat "Execution" "bits") rfl)
  a_Execution_taken := He.noat_ok (c.1.d.fact 23 (f := .noat "Execution" "taken") rfl)
  a_Execution_deeds := He.noat_ok (c.1.d.fact 24 (f := .noat "Execution" "deeds") rfl)
  a_Execution_stack := He.noat_ok (c.1.d.fact 25 (f := .noat "Execution" "stack") rfl)
  a_Execution_active := He.noat_ok (c.1.d.fact 26 (f := .noat "Execution" "active") rfl)
  a_Execution_ended := He.noat_ok (c.1.d.fact 27 (f := .noat "Execution" "ended") rfl)
  xa_NoRun := K1 (Ap c.2.1 4) (He.glo_ok X G (c.1.d.fact 28 (f := .glo "NoRun") rfl))
  fx_NoRun := c.1.d.def_ 1 (d := DV) rfl
  x_NoProcedure := BD (Ap c.2.1 5) (He.glo_ok X G (c.1.d.fact 29 (f := .glo "NoProcedure") rfl))
  T_Execution := ⟨He.cls_ok (c.1.d.fact 30 (f := .cls "Execution") rfl), He.mkr_ok (c.1.d.fact 31 (f := .mkr "Execution") rfl), He.glo_ok X G (c.1.d.fact 32 (f := .glo "Execution") rfl)⟩
  c_Live := He.cls_ok (c.1.d.fact 33 (f := .cls "Live") rfl)
  a_Live_place := He.noat_ok (c.1.d.fact 34 (f := .noat "Live" "place") rfl)
  a_Live_heading := He.noat_ok (c.1.d.fact 35 (f := .noat "Live" "heading") rfl)
  a_Live_mark := He.noat_ok (c.1.d.fact 36 (f := .noat "Live" "mark") rfl)
  a_Live_book := He.noat_ok (c.1.d.fact 37 (f := .noat "Live" "book") rfl)
  x_NoPart := BD (Ap c.2.1 6) (He.glo_ok X G (c.1.d.fact 38 (f := .glo "NoPart") rfl))
  x_NoNumber := BD (Ap c.2.1 7) (He.glo_ok X G (c.1.d.fact 39 (f := .glo "NoNumber") rfl))
  nq_Live := Ap c.2.1 8
  T_Live := ⟨He.cls_ok (c.1.d.fact 40 (f := .cls "Live") rfl), He.mkr_ok (c.1.d.fact 41 (f := .mkr "Live") rfl), He.glo_ok X G (c.1.d.fact 42 (f := .glo "Live") rfl)⟩
  sf_Live := Ap c.2.1 9
  g_NoRun := He.glo_ok X G (c.1.d.fact 43 (f := .glo "NoRun") rfl)
  g_NoProcedure := He.glo_ok X G (c.1.d.fact 44 (f := .glo "NoProcedure") rfl)
  g_NoCommand := He.glo_ok X G (c.1.d.fact 45 (f := .glo "NoCommand") rfl)
  g_NoPen := He.glo_ok X G (c.1.d.fact 46 (f := .glo "NoPen") rfl)
  g_NoNumber := He.glo_ok X G (c.1.d.fact 47 (f := .glo "NoNumber") rfl)
  g_NoPart := He.glo_ok X G (c.1.d.fact 48 (f := .glo "NoPart") rfl)
  xb_L_requested := Ma (Ap c.2.1 10)
  g_HomeError := He.glo_ok X G (c.1.d.fact 49 (f := .glo "HomeError") rfl)
  T_Book := ⟨He.cls_ok (c.1.d.fact 50 (f := .cls "Book") rfl), He.mkr_ok (c.1.d.fact 51 (f := .mkr "Book") rfl), He.glo_ok X G (c.1.d.fact 52 (f := .glo "Book") rfl)⟩
  G_is_integer := He.glo_ok X G (c.1.d.fact 53 (f := .glo "is_integer") rfl)
  f_is_integer := c.1.d.def_ 2 (d := vR) rfl
  G_is_bit := He.glo_ok X G (c.1.d.fact 54 (f := .glo "is_bit") rfl)
  f_is_bit := c.1.d.def_ 3 (d := DY) rfl
  G_is_pen := He.glo_ok X G (c.1.d.fact 55 (f := .glo "is_pen") rfl)
  f_is_pen := c.1.d.def_ 4 (d := DX) rfl
  G_is_command := He.glo_ok X G (c.1.d.fact 56 (f := .glo "is_command") rfl)
  f_is_command := c.1.d.def_ 5 (d := vS) rfl
  G_executed := He.glo_ok X G (c.1.d.fact 57 (f := .glo "executed") rfl)
  f_executed := c.1.d.def_ 6 (d := AS) rfl
  G_check_pen := He.glo_ok X G (c.1.d.fact 58 (f := .glo "check_pen") rfl)
  f_check_pen := c.1.d.def_ 7 (d := yD) rfl
  G_moved := He.glo_ok X G (c.1.d.fact 59 (f := .glo "moved") rfl)
  f_moved := c.1.d.def_ 8 (d := G7) rfl
  G_blocks_of := He.glo_ok X G (c.1.d.fact 60 (f := .glo "blocks_of") rfl)
  f_blocks_of := c.1.d.def_ 9 (d := yE) rfl
  G_with_blocks := He.glo_ok X G (c.1.d.fact 61 (f := .glo "with_blocks") rfl)
  f_with_blocks := c.1.d.def_ 10 (d := uJ) rfl
  G_copied_block := He.glo_ok X G (c.1.d.fact 62 (f := .glo "copied_block") rfl)
  f_copied_block := c.1.d.def_ 11 (d := tF) rfl
  G_copied_statement := He.glo_ok X G (c.1.d.fact 63 (f := .glo "copied_statement") rfl)
  f_copied_statement := c.1.d.def_ 12 (d := nN) rfl
  G_well_formed := He.glo_ok X G (c.1.d.fact 64 (f := .glo "well_formed") rfl)
  f_well_formed := c.1.d.def_ 13 (d := uK) rfl
  G_first_fault := He.glo_ok X G (c.1.d.fact 65 (f := .glo "first_fault") rfl)
  f_first_fault := c.1.d.def_ 14 (d := uM) rfl
  M_Book_init := He.meth_ok (c.1.d.fact 66 (f := .meth "Book" "__init__") rfl)
  f_Book_init := c.1.d.def_ 15 (d := yL) rfl
  M_Book_len := He.meth_ok (c.1.d.fact 67 (f := .meth "Book" "__len__") rfl)
  f_Book_len := c.1.d.def_ 16 (d := AX) rfl
  M_Book_bodies := He.meth_ok (c.1.d.fact 68 (f := .meth "Book" "bodies") rfl)
  f_Book_bodies := c.1.d.def_ 17 (d := uO) rfl
  G_has_procedure := He.glo_ok X G (c.1.d.fact 69 (f := .glo "has_procedure") rfl)
  f_has_procedure := c.1.d.def_ 18 (d := rH) rfl
  M_Execution_init := He.meth_ok (c.1.d.fact 70 (f := .meth "Execution" "__init__") rfl)
  f_Execution_init := c.1.d.def_ 19 (d := pO) rfl
  M_Execution_take := He.meth_ok (c.1.d.fact 71 (f := .meth "Execution" "take") rfl)
  f_Execution_take := c.1.d.def_ 20 (d := pM) rfl
  M_Execution_enter := He.meth_ok (c.1.d.fact 72 (f := .meth "Execution" "enter") rfl)
  f_Execution_enter := c.1.d.def_ 21 (d := oS) rfl
  M_Execution_leave := He.meth_ok (c.1.d.fact 73 (f := .meth "Execution" "leave") rfl)
  f_Execution_leave := c.1.d.def_ 22 (d := oR) rfl
  M_Execution_unwind := He.meth_ok (c.1.d.fact 74 (f := .meth "Execution" "unwind") rfl)
  f_Execution_unwind := c.1.d.def_ 23 (d := nO) rfl
  M_Execution_begin := He.meth_ok (c.1.d.fact 75 (f := .meth "Execution" "begin") rfl)
  f_Execution_begin := c.1.d.def_ 24 (d := oU) rfl
  M_Execution_step := He.meth_ok (c.1.d.fact 76 (f := .meth "Execution" "step") rfl)
  f_Execution_step := c.1.d.def_ 25 (d := pN) rfl
  G_executed_run := He.glo_ok X G (c.1.d.fact 77 (f := .glo "executed_run") rfl)
  f_executed_run := c.1.d.def_ 26 (d := tE) rfl
  G_pens_behind := He.glo_ok X G (c.1.d.fact 78 (f := .glo "pens_behind") rfl)
  f_pens_behind := c.1.d.def_ 27 (d := uL) rfl
  G_ran := He.glo_ok X G (c.1.d.fact 79 (f := .glo "ran") rfl)
  f_ran := c.1.d.def_ 28 (d := ME) rfl
  G_whole := He.glo_ok X G (c.1.d.fact 80 (f := .glo "whole") rfl)
  f_whole := c.1.d.def_ 29 (d := G6) rfl
  G_within := He.glo_ok X G (c.1.d.fact 81 (f := .glo "within") rfl)
  f_within := c.1.d.def_ 30 (d := DW) rfl
  M_Live_move_to := He.meth_ok (c.1.d.fact 82 (f := .meth "Live" "move_to") rfl)
  f_Live_move_to := c.1.d.def_ 31 (d := tH) rfl
  f_Live_init := c.1.d.def_ 32 (d := yF) rfl
  P_Live_pen := Kd (Ap c.2.1 11)
  f_Live_pen := c.2.2.def_ 0 (d := AR) rfl
  M_Live_getitem := He.meth_ok (c.1.d.fact 83 (f := .meth "Live" "__getitem__") rfl)
  f_Live_getitem := c.1.d.def_ 33 (d := tI) rfl
  M_Live_setitem := He.meth_ok (c.1.d.fact 84 (f := .meth "Live" "__setitem__") rfl)
  f_Live_setitem := c.1.d.def_ 34 (d := tG) rfl
  M_Live_iadd := He.meth_ok (c.1.d.fact 85 (f := .meth "Live" "__iadd__") rfl)
  f_Live_iadd := c.1.d.def_ 35 (d := yG) rfl
  M_Live_call := He.meth_ok (c.1.d.fact 86 (f := .meth "Live" "__call__") rfl)
  f_Live_call := c.1.d.def_ 36 (d := yH) rfl
  G_L_pool := He.glo_ok X G (c.1.d.fact 87 (f := .glo "_law_pool") rfl)
  f_L_pool := c.1.d.def_ 37 (d := Da) rfl
  G_L_draw := He.glo_ok X G (c.1.d.fact 88 (f := .glo "_law_draw") rfl)
  f_L_draw := c.1.d.def_ 38 (d := Dd) rfl
  G_L_command := He.glo_ok X G (c.1.d.fact 89 (f := .glo "_law_command") rfl)
  f_L_command := c.1.d.def_ 39 (d := yK) rfl
  G_L_pair := He.glo_ok X G (c.1.d.fact 90 (f := .glo "_law_pair") rfl)
  f_L_pair := c.1.d.def_ 40 (d := Dc) rfl
  G_L_piece := He.glo_ok X G (c.1.d.fact 91 (f := .glo "_law_piece") rfl)
  f_L_piece := c.1.d.def_ 41 (d := C4) rfl
  G_L_block := He.glo_ok X G (c.1.d.fact 92 (f := .glo "_law_block") rfl)
  f_L_block := c.1.d.def_ 42 (d := C7) rfl
  G_L_around := He.glo_ok X G (c.1.d.fact 93 (f := .glo "_law_around") rfl)
  f_L_around := c.1.d.def_ 43 (d := AW) rfl
  G_L_body := He.glo_ok X G (c.1.d.fact 94 (f := .glo "_law_body") rfl)
  f_L_body := c.1.d.def_ 44 (d := Df) rfl
  G_L_book := He.glo_ok X G (c.1.d.fact 95 (f := .glo "_law_book") rfl)
  f_L_book := c.1.d.def_ 45 (d := De) rfl
  G_L_copied := He.glo_ok X G (c.1.d.fact 96 (f := .glo "_law_copied") rfl)
  f_L_copied := c.1.d.def_ 46 (d := AV) rfl
  G_L_same_2 := He.glo_ok X G (c.1.d.fact 97 (f := .glo "_law_same") rfl)
  f_L_same_2 := c.1.d.def_ 47 (d := AU) rfl
  G_L_odd_3 := He.glo_ok X G (c.1.d.fact 98 (f := .glo "_law_odd") rfl)
  f_L_odd_3 := c.1.d.def_ 48 (d := C5) rfl
  G_L_index_3 := He.glo_ok X G (c.1.d.fact 99 (f := .glo "_law_index") rfl)
  f_L_index_3 := c.1.d.def_ 49 (d := yJ) rfl
  G_L_integers := He.glo_ok X G (c.1.d.fact 100 (f := .glo "_law_integers") rfl)
  f_L_integers := c.1.d.def_ 50 (d := vT) rfl
  G_L_is_command := He.glo_ok X G (c.1.d.fact 101 (f := .glo "_law_is_command") rfl)
  f_L_is_command := c.1.d.def_ 51 (d := tJ) rfl
  G_L_numbers := He.glo_ok X G (c.1.d.fact 102 (f := .glo "_law_numbers") rfl)
  f_L_numbers := c.1.d.def_ 52 (d := yI) rfl
  G_L_step := He.glo_ok X G (c.1.d.fact 103 (f := .glo "_law_step") rfl)
  f_L_step := c.1.d.def_ 53 (d := DZ) rfl
  G_L_requested := He.glo_ok X G (c.1.d.fact 104 (f := .glo "_law_requested") rfl)
  f_L_requested := c.1.d.def_ 54 (d := uN) rfl
  G_L_due_5 := He.glo_ok X G (c.1.d.fact 105 (f := .glo "_law_due") rfl)
  f_L_due_5 := c.1.d.def_ 55 (d := C6) rfl
  G_law_k97 := He.glo_ok X G (c.1.d.fact 106 (f := .glo "law") rfl)
  f_law_k97 := c.1.d.def_ 56 (d := C3) rfl
end PHZ
namespace PH
open PySem PySem.Spec PyProof.Rows L2
theorem atI0 {α : Type} {x : α} {r : List α} : atI (x :: r) 0 = some x := iP (n := 0) rfl
theorem atI1 {α : Type} {x y : α} {r : List α} : atI (x :: y :: r) 1 = some y := iP (n := 1) rfl
theorem atI2 {α : Type} {x y z : α} {r : List α} : atI (x :: y :: z :: r) 2 = some z := iP (n := 2) rfl
theorem atI3 {α : Type} {x y z w : α} {r : List α} : atI (x :: y :: z :: w :: r) 3 = some w := iP (n := 3) rfl
theorem eD {x : D} {r : List D} {S : aN} : bU (.dat (.tup (x :: r))) (.dat (.int 0)) S = .ok (.dat x) S := DM atI0
theorem qK {x y : D} {r : List D} {S : aN} : bU (.dat (.tup (x :: y :: r))) (.dat (.int 1)) S = .ok (.dat y) S := DM atI1
theorem CV {x y z : D} {r : List D} {S : aN} : bU (.dat (.tup (x :: y :: z :: r))) (.dat (.int 2)) S = .ok (.dat z) S := DM atI2
theorem QS {x y z w : D} {r : List D} {S : aN} : bU (.dat (.tup (x :: y :: z :: w :: r))) (.dat (.int 3)) S = .ok (.dat w) S := DM atI3
theorem JO {x : D} {r : List D} {S : aN} : bU (.dat (.lst (x :: r))) (.dat (.int 0)) S = .ok (.dat x) S := vP atI0
theorem NT {x y : D} {r : List D} {S : aN} : bU (.dat (.lst (x :: y :: r))) (.dat (.int 1)) S = .ok (.dat y) S := vP atI1
def PoolAt (S : aN) (p : Nat) (ks : List Int) : Prop := S[p]? = some (.lst (ks.map D.int)) /\ 2 <= ks.length
theorem LP {S : aN} {p : Nat} {ks : List Int} {k : Int} {n : Nat} {u : Int} (h : S[p]? = some (.lst (ks.map D.int))) (hk : k = (n : Int)) (hu : ks[n]? = some u) : LQ (.cel p) k S = some (.int u) := by
 subst hk;simp only [LQ, h];rw [if_pos (by omega)]
 simp [hu]
theorem FG {S : aN} {p : Nat} {ks : List Int} {k : Int} {n : Nat} {u : Int} (h : S[p]? = some (.lst (ks.map D.int))) (hk : k = (n : Int)) (hu : n < ks.length) : setC (.cel p) k (.int u) S = some (S.set p (.lst ((ks.set n u).map D.int))) := by
 subst hk;simp only [setC, h];rw [if_pos ⟨by omega, by simpa using hu⟩]
 simp [List.map_set]
theorem CB {g : Int -> Int -> Int} {o i e : FE} {ρ : Ev} {S : aN} {p n : Nat} {k u w : Int} {ks : List Int} (ho : o ρ S = .ok (.cel p) S) (hi : i ρ S = .ok (.dat (.int k)) S) (he : e ρ S = .ok (.dat (.int w)) S) (h : S[p]? = some (.lst (ks.map D.int))) (hk : k = (n : Int)) (hu : ks[n]? = some u) :
  kS g o i e ρ S = .next ρ (S.set p (.lst ((ks.set n (g u w)).map D.int))) := by
 simp only [kS, ho, hi, he, Bx, LP h hk hu, FG h hk (aJ.mp hu).1]
theorem uX {S : aN} {p : Nat} {ks : List Int} {k : Int} {n : Nat} {u : Int} (h : S[p]? = some (.lst (ks.map D.int))) (hk : k = (n : Int)) (hu : ks[n]? = some u) : bU (.cel p) (.dat (.int k)) S = .ok (.dat (.int u)) S :=
 PM h (by rw [iP hk]; simp [hu])
theorem lO {S : aN} {p : Nat} {c d : Cell} (h : S[p]? = some c) : (S.set p d)[p]? = some d := by
 rw [aQ, if_pos rfl, if_pos (aJ.mp h).1]
theorem pw18 {S : aN} : Ej (.dat (.int 10)) (.dat (.int 18)) S = .ok (.dat (.int 1000000000000000000)) S := rfl
theorem dw1 (a : Int) : IntMulOk 7919 a := mulL (by decide) (by decide)
theorem dw2 (a : Int) : IntMulOk a 48271 := mulR (by decide) (by decide)
theorem dw3 (a : Int) : CDiv a 1009 := ⟨by decide, by decide⟩
theorem dw4 (a : Int) : CDiv a 2003 := ⟨by decide, by decide⟩
theorem dw5 (a : Int) : CDiv a 11 := ⟨by decide, by decide⟩
theorem dw6 (a b : Int) : IntMulOk (a % 2147483647) b := by
 have h1 : 0 <= a % 2147483647 := fZ _ (by decide)
 have h2 : a % 2147483647 < 2147483647 := fM _ (by decide)
 generalize a % 2147483647 = x at h1 h2;exact mulL (by omega) (by omega)
theorem dw7 : (0 : Int) < 2147483647 := by decide
theorem dw8 : (0 : Int) < 2147483399 := by decide
theorem dw9 {a k : Int} {ks : List Int} {S S1 : aN} {p : Nat} {u : Int} (h0 : 0 < k) (hS1 : S.set p (.lst ((ks.set 0 (u + 1)).map D.int)) = S1) : ∃ (d : Int) (ks' : List Int), bS (Out.ret (.dat (.int (a % k))) S1) = .ok (.dat (.int d)) (S.set p (.lst (ks'.map D.int))) /\ 0 <= d /\ d < k /\ ks'.length = ks.length :=
 ⟨a % k, ks.set 0 (u + 1), by rw [hS1]; rfl, fZ _ (by omega), fM _ h0, by simp⟩
theorem dO {S : aN} {p : Nat} {ks : List Int} {k : Int} (hP : PoolAt S p ks) (h0 : 0 < k) (h1 : k < 1073741824) :
  ∃ (d : Int) (ks' : List Int), bG [.cel p, .dat (.int k)] S = .ok (.dat (.int d)) (S.set p (.lst (ks'.map D.int))) /\ 0 <= d /\ d < k /\ ks'.length = ks.length := by
 obtain ⟨hp, hl⟩ := hP;obtain ⟨u, hu⟩ : ∃ u, ks[0]? = some u := ⟨ks[0], by simp [show 0 < ks.length by omega]⟩
 have hp1 := lO (d := .lst ((ks.set 0 (u + 1)).map D.int)) hp;have hn : (1 : Int) + (u + 1) % ((ks.length : Int) - 1) = ((1 + ((u + 1) % ((ks.length : Int) - 1)).toNat : Nat) : Int) := by
  have := fZ (u + 1) (show ((ks.length : Int) - 1) ≠ 0 by omega)
  omega
 have hlt : 1 + ((u + 1) % ((ks.length : Int) - 1)).toNat < ks.length := by
  have := fM (u + 1) (show 0 < ((ks.length : Int) - 1) by omega)
  have := fZ (u + 1) (show ((ks.length : Int) - 1) ≠ 0 by omega)
  omega
 generalize hj : 1 + ((u + 1) % ((ks.length : Int) - 1)).toNat = j at hn hlt;obtain ⟨c, hc⟩ : ∃ c, (ks.set 0 (u + 1))[j]? = some c := ⟨(ks.set 0 (u + 1))[j]'(by simpa using hlt), by simp [hlt]⟩
 have h00 : (ks.set 0 (u + 1))[0]? = some (u + 1) := by
  rw [aQ, if_pos rfl, if_pos (by omega)]
 have e1 : (kS (fun x y => x + y) (aC 0) (mC (.int 0)) (mC (.int 1))) [some (.cel p), some (.dat (.int k)), none, none, none] S = .next [some (.cel p), some (.dat (.int k)), none, none, none] (S.set p (.lst ((ks.set 0 (u + 1)).map D.int))) := CB rfl rfl rfl hp rfl hu
 have eE : bG [.cel p, .dat (.int k)] S = bS (yW [some (.cel p), some (.dat (.int k)), none, none, none] S) := rfl;rw [eE];unfold yW;generalize hS1 : S.set p (.lst ((ks.set 0 (u + 1)).map D.int)) = S1 at e1 hp1;simp! [e1, uX (k := 0) (n := 0) hp1 rfl h00, Qw hp1, bC, eP, nK (show (0 : Int) < (ks.length : Int) - 1 by omega), hn, uX hp1 rfl hc, pw18]
 by_cases hbig : (1000000000000000000 : Int) <= c
 ·rw [decide_eq_true hbig]
  simp! [if_true];have e2 : Bq (aS tD (aC 3) (aC 1)) (aC 0) (aC 2) [some (.cel p), some (.dat (.int k)), some (.dat (.int (j : Int))), some (.dat (.int c)), none] S1 = .next [some (.cel p), some (.dat (.int k)), some (.dat (.int (j : Int))), some (.dat (.int c)), none] (S1.set p (.lst (((ks.set 0 (u + 1)).set j (c / k)).map D.int))) := by
   unfold Bq;simp! [B4 (show CDiv c k from ⟨h0, h1⟩), FG (u := c / k) hp1 (rfl : (j : Int) = (j : Int)) (by simpa using hlt)]
  simp! [e2, nK h0];refine ⟨c % k, (ks.set 0 (u + 1)).set j (c / k), ?_, fZ c (by omega), fM c h0, by simp⟩
  rw [<- hS1, cP];rfl
 ·rw [decide_eq_false hbig]
  simp! [uX (k := 0) (n := 0) hp1 rfl h00, sM (dw1 _), sM (dw2 _), nK dw7, nK dw8, B4 (dw3 _), B4 (dw4 _), B4 (dw5 _), sM (dw6 _ _), nK h0];exact dw9 h0 hS1
inductive Cmd where
 | go (k : Int) | turn (n : Int) | mirror | scale (k : Int) | aim (a b : Int) | place (a b : Int) | mark | ret | exch
def Cmd.d : Cmd -> D
 | .go k => .tup [.str "go", .int k]
 | .turn k => .tup [.str "turn", .int k]
 | .mirror => .tup [.str "mirror"]
 | .scale k => .tup [.str "scale", .int k]
 | .aim a b => .tup [.str "aim", .int a, .int b]
 | .place a b => .tup [.str "place", .int a, .int b]
 | .mark => .tup [.str "mark"]
 | .ret => .tup [.str "return"]
 | .exch => .tup [.str "exchange"]
def Cmd.Ok : Cmd -> Prop
 | .go k => -9 <= k /\ k <= 9
 | .turn k => 1 <= k /\ k <= 3
 | .scale k => -3 <= k /\ k <= 3
 | .aim a b => (-9 <= a /\ a <= 9) /\ -9 <= b /\ b <= 9
 | .place a b => (-9 <= a /\ a <= 9) /\ -9 <= b /\ b <= 9
 | _ => True
abbrev PL (ks : List Int) : Cell := .lst (ks.map D.int)
theorem PoolAt.next {S : aN} {p : Nat} {ks ks' : List Int} (h : PoolAt S p ks) (l : ks'.length = ks.length) : PoolAt (S.set p (PL ks')) p ks' := ⟨lO h.1, by rw [l]; exact h.2⟩
inductive Stt where
 | cmd (c : Cmd) | fin (w : Int) | keep (b : List Stt) | again (b : List Stt) | either (a b : List Stt) | call (g : Int) (s : Bool) (a b : List Stt) | bad | odd (x : D)
mutual
def Stt.d : Stt -> D
 | .cmd c => c.d
 | .fin w => .tup [.str "end", .int w]
 | .keep b => .tup [.str "keep", .lst (cH b)]
 | .again b => .tup [.str "again", .lst (cH b)]
 | .either a b => .tup [.str "either", .lst (cH a), .lst (cH b)]
 | .call g s a b => .tup [.str "call", .int g, .bl s, .lst [.lst (cH a), .lst (cH b)]]
 | .bad => .tup [.str "bad"]
 | .odd x => x
def cH : List Stt -> List D
 | [] => []
 | s :: r => s.d :: cH r
end
mutual
/-- of a depth of n at most; calls of the first many -/
def Stt.Ok (many : Int) : Stt -> Nat -> Prop
 | .cmd c, _ => c.Ok
 | .fin w, _ => 0 <= w /\ w <= 1
 | .keep b, n => 0 < n /\ OkL many b (n - 1)
 | .again b, n => 0 < n /\ OkL many b (n - 1)
 | .either a b, n => 0 < n /\ OkL many a (n - 1) /\ OkL many b (n - 1)
 | .call g _ a b, n => (0 < n /\ 0 <= g /\ g < many) /\ OkL many a (n - 1) /\ OkL many b (n - 1)
 | .bad, _ => True
 | .odd _, _ => False
def OkL (many : Int) : List Stt -> Nat -> Prop
 | [], _ => True
 | s :: r, n => (s.Ok many n /\ r.length < 10) /\ OkL many r n
end
def WfNo (many : Int) (x : D) : Prop := ∀ (lv : Int) (S : aN), jG [.dat x, .dat (.int lv), .dat (.int many)] S = .ok (.dat (.bl false)) S
mutual
/-- the same; values that are no statements may stand in it -/
def Stt.Okx (many : Int) : Stt -> Nat -> Prop
 | .cmd c, _ => c.Ok
 | .fin w, _ => 0 <= w /\ w <= 1
 | .keep b, n => 0 < n /\ Ar many b (n - 1)
 | .again b, n => 0 < n /\ Ar many b (n - 1)
 | .either a b, n => 0 < n /\ Ar many a (n - 1) /\ Ar many b (n - 1)
 | .call g _ a b, n => (0 < n /\ 0 <= g /\ g < many) /\ Ar many a (n - 1) /\ Ar many b (n - 1)
 | .bad, _ => True
 | .odd x, _ => WfNo many x
def Ar (many : Int) : List Stt -> Nat -> Prop
 | [], _ => True
 | s :: r, n => s.Okx many n /\ Ar many r n
end
mutual
theorem Stt.Ok.x {many : Int} : ∀ {s : Stt} {n : Nat}, s.Ok many n -> s.Okx many n
 | .cmd c, _, h => h
 | .fin w, _, h => h
 | .keep b, n, h => ⟨h.1, OkL.x h.2⟩
 | .again b, n, h => ⟨h.1, OkL.x h.2⟩
 | .either a b, n, h => ⟨h.1, OkL.x h.2.1, OkL.x h.2.2⟩
 | .call g _ a b, n, h => ⟨h.1, OkL.x h.2.1, OkL.x h.2.2⟩
 | .bad, _, _ => trivial
 | .odd x, _, h => h.elim
theorem OkL.x {many : Int} : ∀ {l : List Stt} {n : Nat}, OkL many l n -> Ar many l n
 | [], _, _ => trivial
 | s :: r, n, h => ⟨h.1.1.x, OkL.x h.2⟩
end
def Stt.isOdd : Stt -> Bool
 | .odd _ => true
 | _ => false
theorem Stt.Ok.no {many : Int} {s : Stt} {n : Nat} (h : s.Ok many n) : s.isOdd = false := by
 cases s <;> first | rfl | exact h.elim
theorem dC : ∀ l : List Stt, (cH l).length = l.length
 | [] => rfl
 | s :: r => by simp [cH, dC r]
theorem iN : ∀ l m : List Stt, cH (l ++ m) = cH l ++ cH m
 | [], m => rfl
 | s :: r, m => by simp [cH, iN r m]
theorem OkL.len {many : Int} : ∀ {l : List Stt} {n : Nat}, OkL many l n -> l.length <= 10
 | [], _, _ => by simp
 | s :: r, n, h => by have := h.1.2; simp; omega
def LS (S : aN) : Prop := ∀ c ∈ S, ∀ n, c.below n = true
theorem LS.app {S : aN} {ds : List D} (h : LS S) : LS (S ++ [.lst ds]) := fun c hc n => by
 rcases hZ.mp hc with hc | hc
 ·exact h c hc n
 ·rw [hX.mp hc]; rfl
theorem LS.set {S : aN} {ds : List D} {k : Nat} (h : LS S) : LS (S.set k (.lst ds)) := fun c hc n => by
 rcases rS hc with hc | hc
 ·exact h c hc n
 ·rw [hc]; rfl
theorem LS.take {S : aN} {n m : Nat} (h : LS S) : ((S.take n).all fun c => c.below m) = true := bI.mpr fun c hc => h c (oF hc) m
theorem dJ {i : Int} {S : aN} : cY [.dat (.int i)] S = .ok (.dat (.bl true)) S := by
 rw [show cY [.dat (.int i)] S = bS (oD [some (.dat (.int i))] S) from rfl]
 unfold oD;simp! [if_true];rfl
theorem DF {i : Int} {S : aN} : qZ [.dat (.int i)] S = .ok (.dat (.bl (decide (0 <= i) && decide (i <= 1)))) S := by
 rw [show qZ [.dat (.int i)] S = bS (yS [some (.dat (.int i))] S) from rfl]
 unfold yS;simp! [dJ]
 by_cases h : 0 <= i
 ·simp! [decide_eq_true h]; rfl
 ·simp! [decide_eq_false h]; rfl
theorem sG {S : aN} : wJ (.dat (.str "go")) S = .ok (.dat (.tup [.int 1, .int (-9), .int 9])) S := rfl
theorem sL {S : aN} : eG true (.dat (.str "go")) S = .ok (.dat (.bl false)) S := rfl
theorem kT {S : aN} : wJ (.dat (.str "turn")) S = .ok (.dat (.tup [.int 1, .int 1, .int 3])) S := rfl
theorem kX {S : aN} : eG true (.dat (.str "turn")) S = .ok (.dat (.bl false)) S := rfl
theorem gR {S : aN} : wJ (.dat (.str "mirror")) S = .ok (.dat (.tup [.int 0, .int 0, .int 0])) S := rfl
theorem gT {S : aN} : eG true (.dat (.str "mirror")) S = .ok (.dat (.bl false)) S := rfl
theorem iT {S : aN} : wJ (.dat (.str "scale")) S = .ok (.dat (.tup [.int 1, .int (-3), .int 3])) S := rfl
theorem iV {S : aN} : eG true (.dat (.str "scale")) S = .ok (.dat (.bl false)) S := rfl
theorem nW {S : aN} : wJ (.dat (.str "aim")) S = .ok (.dat (.tup [.int 2, .int (-9), .int 9])) S := rfl
theorem nX {S : aN} : eG true (.dat (.str "aim")) S = .ok (.dat (.bl false)) S := rfl
theorem iU {S : aN} : wJ (.dat (.str "place")) S = .ok (.dat (.tup [.int 2, .int (-9), .int 9])) S := rfl
theorem iW {S : aN} : eG true (.dat (.str "place")) S = .ok (.dat (.bl false)) S := rfl
theorem kU {S : aN} : wJ (.dat (.str "mark")) S = .ok (.dat (.tup [.int 0, .int 0, .int 0])) S := rfl
theorem kY {S : aN} : eG true (.dat (.str "mark")) S = .ok (.dat (.bl false)) S := rfl
theorem gQ {S : aN} : wJ (.dat (.str "return")) S = .ok (.dat (.tup [.int 0, .int 0, .int 0])) S := rfl
theorem gS {S : aN} : eG true (.dat (.str "return")) S = .ok (.dat (.bl false)) S := rfl
theorem eK {S : aN} : wJ (.dat (.str "exchange")) S = .ok (.dat (.tup [.int 0, .int 0, .int 0])) S := rfl
theorem eM {S : aN} : eG true (.dat (.str "exchange")) S = .ok (.dat (.bl false)) S := rfl
theorem Nc {S : aN} : eG true (.dat (.str "end")) S = .ok (.dat (.bl true)) S := rfl
theorem Fm {S : aN} : eG true (.dat (.str "keep")) S = .ok (.dat (.bl true)) S := rfl
theorem DG {S : aN} : eG true (.dat (.str "again")) S = .ok (.dat (.bl true)) S := rfl
theorem Bt {S : aN} : eG true (.dat (.str "either")) S = .ok (.dat (.bl true)) S := rfl
theorem Fn {S : aN} : eG true (.dat (.str "call")) S = .ok (.dat (.bl true)) S := rfl
theorem Nd {S : aN} : eG true (.dat (.str "bad")) S = .ok (.dat (.bl true)) S := rfl
theorem yM {x : D} {r : List D} : cutD (x :: r) (some 1) none = r := by
 unfold cutD;rw [HT.sIx_none, show ((1 : Int)) = ((1 : Nat) : Int) from rfl, HT.sIx_nat]
 simp
theorem all_nil {S : aN} : wK (.dat (.lst [])) S = .ok (.dat (.bl true)) S := rfl
theorem GD {a : Bool} {S : aN} : wK (.dat (.lst [.bl a])) S = .ok (.dat (.bl a)) S := by cases a <;> rfl
theorem GB {a b : Bool} {S : aN} : wK (.dat (.lst [.bl a, .bl b])) S = .ok (.dat (.bl (a && b))) S := by cases a <;> cases b <;> rfl
theorem inb {i lo hi : Int} {S : aN} {a b : Option Vl} : (iH (aM cY (aB (aC 4) aI)) (gF F0 F0 (aC 2) (aC 4) (aC 3))) [a, b, some (.dat (.int lo)), some (.dat (.int hi)), some (.dat (.int i))] S = .ok (.dat (.bl (decide (lo <= i) && decide (i <= hi)))) S := by
 simp! [dJ]
 by_cases h : lo <= i
 ·simp! [decide_eq_true h]
 ·simp! [decide_eq_false h]
theorem sz {n : Nat} (h : n <= 1000) : n <= sizeLine := by show n <= 16777216; omega
theorem Gw {c : Cmd} {S : aN} (h : c.Ok) : dN [.dat c.d] S = .ok (.dat (.bl true)) S := by
 rw [show dN [.dat c.d] S = bS (fW [some (.dat c.d), none, none, none, none] S) from rfl]
 unfold fW fD;cases c with
 | go k =>
  obtain ⟨h1, h2⟩ := h;simp! [Cmd.d, eD, sG, sL, kT, kX, gR, gT, iT, iV, nW, nX, iU, iW, kU, kY, gQ, gS, eK, eM, yM, Ao, nJ, qR, dJ, all_nil, GD, GB, decide_eq_true h1, decide_eq_true h2, sz];rfl
 | turn k =>
  obtain ⟨h1, h2⟩ := h;simp! [Cmd.d, eD, sG, sL, kT, kX, gR, gT, iT, iV, nW, nX, iU, iW, kU, kY, gQ, gS, eK, eM, yM, Ao, nJ, qR, dJ, all_nil, GD, GB, decide_eq_true h1, decide_eq_true h2, sz];rfl
 | mirror => simp! [Cmd.d, eD, sG, sL, kT, kX, gR, gT, iT, iV, nW, nX, iU, iW, kU, kY, gQ, gS, eK, eM, yM, Ao, nJ, qR, dJ, all_nil, sz]; rfl
 | scale k =>
  obtain ⟨h1, h2⟩ := h;simp! [Cmd.d, eD, sG, sL, kT, kX, gR, gT, iT, iV, nW, nX, iU, iW, kU, kY, gQ, gS, eK, eM, yM, Ao, nJ, qR, dJ, all_nil, GD, GB, decide_eq_true h1, decide_eq_true h2, sz];rfl
 | aim a b =>
  obtain ⟨⟨h1, h2⟩, h3, h4⟩ := h;simp! [Cmd.d, eD, sG, sL, kT, kX, gR, gT, iT, iV, nW, nX, iU, iW, kU, kY, gQ, gS, eK, eM, yM, Ao, nJ, qR, dJ, all_nil, GD, GB, decide_eq_true h1, decide_eq_true h2, decide_eq_true h3, decide_eq_true h4, sz];rfl
 | place a b =>
  obtain ⟨⟨h1, h2⟩, h3, h4⟩ := h;simp! [Cmd.d, eD, sG, sL, kT, kX, gR, gT, iT, iV, nW, nX, iU, iW, kU, kY, gQ, gS, eK, eM, yM, Ao, nJ, qR, dJ, all_nil, GD, GB, decide_eq_true h1, decide_eq_true h2, decide_eq_true h3, decide_eq_true h4, sz];rfl
 | mark => simp! [Cmd.d, eD, sG, sL, kT, kX, gR, gT, iT, iV, nW, nX, iU, iW, kU, kY, gQ, gS, eK, eM, yM, Ao, nJ, qR, dJ, all_nil, sz]; rfl
 | ret => simp! [Cmd.d, eD, sG, sL, kT, kX, gR, gT, iT, iV, nW, nX, iU, iW, kU, kY, gQ, gS, eK, eM, yM, Ao, nJ, qR, dJ, all_nil, sz]; rfl
 | exch => simp! [Cmd.d, eD, sG, sL, kT, kX, gR, gT, iT, iV, nW, nX, iU, iW, kU, kY, gQ, gS, eK, eM, yM, Ao, nJ, qR, dJ, all_nil, sz]; rfl
theorem qI {z : Str} {r : List D} {S : aN} (h : eG true (.dat (.str z)) S = .ok (.dat (.bl true)) S) : dN [.dat (.tup (.str z :: r))] S = .ok (.dat (.bl false)) S := by
 rw [show dN [.dat (.tup (.str z :: r))] S = bS (fW [some (.dat (.tup (.str z :: r))), none, none, none, none] S) from rfl]
 unfold fW fD;simp! [eD, h];rw [decide_eq_false (by simp; omega)]
 simp! [eD, h];rfl
def Stt.blocks : Stt -> List (List Stt)
 | .keep b => [b]
 | .again b => [b]
 | .either a b => [a, b]
 | .call _ _ a b => [a, b]
 | _ => []
def bls (bs : List (List Stt)) : List D := bs.map fun b => .lst (cH b)
theorem uZ {s : Stt} {S : aN} (ho : s.isOdd = false) : kE [.dat s.d] S = .ok (.dat (.lst (bls s.blocks))) S := by
 rw [show kE [.dat s.d] S = bS (pP [some (.dat s.d), none] S) from rfl]
 unfold pP;cases s with
 | cmd c => cases c <;> (simp! [Stt.d, Cmd.d, eD]; rfl)
 | fin w => simp! [Stt.d, eD]; rfl
 | keep b => simp! [Stt.d, eD, qK]; rfl
 | again b => simp! [Stt.d, eD, qK]; rfl
 | either a b => simp! [Stt.d, eD, qK, CV]; rfl
 | call g s a b => simp! [Stt.d, eD, qK, CV, QS]; rfl
 | bad => simp! [Stt.d, eD]; rfl
 | odd x => cases ho
theorem F7 {s : Stt} {S : aN} (ho : s.isOdd = false) : lY [.dat s.d, .dat (.lst (bls s.blocks))] S = .ok (.dat s.d) S := by
 rw [show lY [.dat s.d, .dat (.lst (bls s.blocks))] S = bS (mF [some (.dat s.d), some (.dat (.lst (bls s.blocks))), none] S) from rfl]
 unfold mF;cases s with
 | cmd c => cases c <;> (simp! [Stt.d, Cmd.d, eD]; rfl)
 | fin w => simp! [Stt.d, eD]; rfl
 | keep b => simp! [Stt.d, Stt.blocks, bls, bA, cJ, eD, JO]; rfl
 | again b => simp! [Stt.d, Stt.blocks, bls, bA, cJ, eD, JO]; rfl
 | either a b => simp! [Stt.d, Stt.blocks, bls, bA, cJ, eD, JO, NT]; rfl
 | call g s a b => simp! [Stt.d, Stt.blocks, bls, bA, cJ, eD, qK, CV]; rfl
 | bad => simp! [Stt.d, eD]; rfl
 | odd x => cases ho
def Stt.wf (lv : Int) : Stt -> Bool
 | .cmd _ => true
 | .fin _ => true
 | .bad => false
 | .odd _ => false
 | _ => !decide (lv = 3)
theorem isb {i : Int} (h : 0 <= i /\ i <= 1) : (decide (0 <= i) && decide (i <= 1)) = true := by simp [h.1, h.2]
theorem F8 {s : Stt} {lv many : Int} {n : Nat} {S : aN} (h : s.Okx many n) : jG [.dat s.d, .dat (.int lv), .dat (.int many)] S = .ok (.dat (.bl (s.wf lv))) S := by
 by_cases ho : s.isOdd = true
 ·cases s <;> first | (cases ho; done) | exact h lv S
 rw [show jG [.dat s.d, .dat (.int lv), .dat (.int many)] S = bS (mG [some (.dat s.d), some (.dat (.int lv)), some (.dat (.int many)), none] S) from rfl]
 unfold mG;cases s with
 | cmd c => simp! [Stt.d, Gw h]; rfl
 | fin w => simp! [Stt.d, qI Nc, eD, qK, DF, isb h]; rfl
 | bad => simp! [Stt.d, qI Nd]; rfl
 | odd x => exact absurd rfl ho
 | keep b =>
  by_cases hl : lv = 3
  ·simp! [Stt.d, qI Fm, eD, qK, decide_eq_true hl]; simp [Stt.wf, hl]; rfl
  ·simp! [Stt.d, qI Fm, eD, qK, decide_eq_false hl]; simp [Stt.wf, hl]; rfl
 | again b =>
  by_cases hl : lv = 3
  ·simp! [Stt.d, qI DG, eD, qK, decide_eq_true hl]; simp [Stt.wf, hl]; rfl
  ·simp! [Stt.d, qI DG, eD, qK, decide_eq_false hl]; simp [Stt.wf, hl]; rfl
 | either a b =>
  by_cases hl : lv = 3
  ·simp! [Stt.d, qI Bt, eD, qK, CV, decide_eq_true hl]; simp [Stt.wf, hl]; rfl
  ·simp! [Stt.d, qI Bt, eD, qK, CV, decide_eq_false hl]; simp [Stt.wf, hl]; rfl
 | call g b a c =>
  obtain ⟨⟨_, h1, h2⟩, _⟩ := h
  by_cases hl : lv = 3
  ·simp! [Stt.d, qI Fn, eD, qK, CV, QS, decide_eq_true hl]; simp [Stt.wf, hl]; rfl
  ·simp! [Stt.d, qI Fn, eD, qK, CV, QS, decide_eq_false hl, dJ, decide_eq_true h1, decide_eq_true h2, JO, NT]; simp [Stt.wf, hl]; rfl
inductive FR where
 | fault (p : List Int) (m : Int) | okk (m : Int)
abbrev tupI (p : List Int) : D := .tup (p.map D.int)
def FR.d : FR -> D
 | .fault p m => .tup [tupI p, .int m]
 | .okk m => .tup [.non, .int m]
def FR.then (r : FR) (k : Int -> FR) : FR := match r with
 | .fault p m => .fault p m
 | .okk m => k m
mutual
/-- what stands in the blocks of s, at the path here -/
def DO (lv : Int) (here : List Int) : Stt -> Int -> FR
 | .keep b, met => wH (lv + 1) (here ++ [0]) 0 b met
 | .again b, met => wH (lv + 1) (here ++ [0]) 0 b met
 | .either a b, met => (wH (lv + 1) (here ++ [0]) 0 a met).then (wH (lv + 1) (here ++ [1]) 0 b)
 | .call _ _ a b, met => (wH (lv + 1) (here ++ [0]) 0 a met).then (wH (lv + 1) (here ++ [1]) 0 b)
 | _, met => .okk met
def wH (lv : Int) (path : List Int) (at_ : Int) : List Stt -> Int -> FR
 | [], met => .okk met
 | s :: r, met => if at_ = 8 \/ met = 12 \/ s.wf lv = false then .fault (path ++ [at_]) met else
  (DO lv (path ++ [at_]) s (met + 1)).then (wH lv path (at_ + 1) r)
end
def Eu (n : Nat) : Prop := ∀ {S : aN} {l : List Stt} {lv many met : Int} {path : List Int} {k : Nat}, Ar many l k -> 0 <= lv -> lv <= 3 -> path.length <= 2 * lv.toNat -> 4 - lv.toNat <= n ->
 cX n [.dat (.lst (cH l)), .dat (.int lv), .dat (.int many), .dat (tupI path), .dat (.int met)] S = .ok (.dat (wH lv path 0 l met).d) S
theorem GH {cl : Bool} {p : List Int} {i : Int} {S : aN} (h : p.length <= 100) : cL cl (.dat (tupI p)) (.dat (.tup [.int i])) S = .ok (.dat (tupI (p ++ [i]))) S := by
 rw [Lx (sz (by simp; omega))]
 simp [tupI]
theorem FR.then_okk {m : Int} {k : Int -> FR} : (FR.okk m).then k = k m := rfl
theorem FR.then_fault {p : List Int} {m : Int} {k : Int -> FR} : (FR.fault p m).then k = .fault p m := rfl
theorem ff_in {n : Nat} (ih : Eu n) {S : aN} {s : Stt} {lv many met : Int} {path : List Int} {k : Nat} {a b c : Option Vl} (h : s.Okx many k) (h0 : 0 <= lv) (h3 : lv < 3) (hp : path.length <= 2 * lv.toNat + 1) (hn : 4 - (lv + 1).toNat <= n) :
  loop (.tp [8, 9]) (fL (cX n)) (dR 0 (bls s.blocks)) [a, some (.dat (.int lv)), some (.dat (.int many)), b, some (.dat (.int met)), c, some (.dat s.d), some (.dat (tupI path)), none, none, none] S =
   match DO lv path s met with
   | .fault p m => .ret (.dat (.tup [tupI p, .int m])) S
   | .okk m => .next [a, some (.dat (.int lv)), some (.dat (.int many)), b, some (.dat (.int m)), c, some (.dat s.d), some (.dat (tupI path)), none, none, none] S := by
 have turn : ∀ {l : List Stt} {met : Int} {i : Int}, Ar many l (k - 1) -> cX n [.dat (.lst (cH l)), .dat (.int (lv + 1)), .dat (.int many), .dat (tupI (path ++ [i])), .dat (.int met)] S = .ok (.dat (wH (lv + 1) (path ++ [i]) 0 l met).d) S := fun hl => ih hl (by omega) (by omega) (by simp; omega) hn
 have one : ∀ {l : List Stt} {r : List D} {met : Int} {i : Int}, Ar many l (k - 1) -> loop (.tp [8, 9]) (fL (cX n)) (.tup [.int i, .lst (cH l)] :: r) [a, some (.dat (.int lv)), some (.dat (.int many)), b, some (.dat (.int met)), c, some (.dat s.d), some (.dat (tupI path)), none, none, none] S =
   match wH (lv + 1) (path ++ [i]) 0 l met with
   | .fault p m => .ret (.dat (.tup [tupI p, .int m])) S
   | .okk m => loop (.tp [8, 9]) (fL (cX n)) r [a, some (.dat (.int lv)), some (.dat (.int many)), b, some (.dat (.int m)), c, some (.dat s.d), some (.dat (tupI path)), none, none, none] S := fun {l r met i} hl => by
  have e := turn (met := met) (i := i) hl;rw [loop];simp only [qR, kB, bB, dQ, if_true, cE, bM];rw [fL];simp! [GH (show path.length <= 100 by omega), e]
  cases q : wH (lv + 1) (path ++ [i]) 0 l met with
  | fault p m => simp! [FR.d, Fw]
  | okk m => simp! [FR.d, Fw]
 cases s with
 | cmd c => simp only [Stt.blocks, bls, cJ, dR, loop, DO]
 | fin w => simp only [Stt.blocks, bls, cJ, dR, loop, DO]
 | bad => simp only [Stt.blocks, bls, cJ, dR, loop, DO]
 | odd w => simp only [Stt.blocks, bls, cJ, dR, loop, DO]
 | keep x =>
  simp only [Stt.blocks, bls, cJ, bA, dR, DO, qA, mE, xV];rw [one h.2];cases wH (lv + 1) (path ++ [0]) 0 x met <;> rfl
 | again x =>
  simp only [Stt.blocks, bls, cJ, bA, dR, DO, qA, mE, xV];rw [one h.2];cases wH (lv + 1) (path ++ [0]) 0 x met <;> rfl
 | either x y =>
  simp only [Stt.blocks, bls, cJ, bA, dR, DO, qA, mE, xV];rw [one h.2.1];cases wH (lv + 1) (path ++ [0]) 0 x met with
  | fault p m => rfl
  | okk m =>
   simp only [FR.then_okk];rw [one h.2.2];cases wH (lv + 1) (path ++ [1]) 0 y m <;> rfl
 | call g f x y =>
  simp only [Stt.blocks, bls, cJ, bA, dR, DO, qA, mE, xV];rw [one h.2.1];cases wH (lv + 1) (path ++ [0]) 0 x met with
  | fault p m => rfl
  | okk m =>
   simp only [FR.then_okk];rw [one h.2.2];cases wH (lv + 1) (path ++ [1]) 0 y m <;> rfl
theorem M3 {n : Nat} (ih : Eu n) {S : aN} {lv many : Int} {path : List Int} {k : Nat} {a : Option Vl} (h0 : 0 <= lv) (h3 : lv <= 3) (hp : path.length <= 2 * lv.toNat) (hn : 4 - (lv + 1).toNat <= n) :
  ∀ (l : List Stt) (at_ : Nat) (met : Int), Ar many l k -> loop (.tp [5, 6]) (jN (cX n)) (dR at_ (cH l)) [a, some (.dat (.int lv)), some (.dat (.int many)), some (.dat (tupI path)), some (.dat (.int met)), none, none, none, none, none, none] S =
   match wH lv path (at_ : Nat) l met with
   | .fault p m => .ret (.dat (.tup [tupI p, .int m])) S
   | .okk m => .next [a, some (.dat (.int lv)), some (.dat (.int many)), some (.dat (tupI path)), some (.dat (.int m)), none, none, none, none, none, none] S
 | [], at_, met, _ => rfl
 | s :: r, at_, met, h => by
  have rest := M3 ih (S := S) (many := many) (k := k) (a := a) h0 h3 hp hn r (at_ + 1);simp only [cH, dR];rw [loop];simp only [qR, kB, bB, dQ, if_true, cE, bM];rw [jN];simp! [GH (show path.length <= 100 by omega)]
  by_cases h8 : ((at_ : Nat) : Int) = 8
  ·simp! [decide_eq_true h8]
   unfold wH;rw [if_pos (.inl h8)]
  ·simp! [decide_eq_false h8]
   by_cases hm : met = 12
   ·simp! [decide_eq_true hm]
    unfold wH;rw [if_pos (.inr (.inl hm))]
   ·simp! [decide_eq_false hm, F8 h.1]
    cases hw : s.wf lv with
    | false =>
     simp! [if_true];unfold wH;rw [if_pos (.inr (.inr hw))]
    | true =>
     have hlv : DO lv (path ++ [((at_ : Nat) : Int)]) s (met + 1) = .okk (met + 1) /\ s.blocks = [] \/ lv < 3 := by
      cases s with
      | cmd c => exact .inl ⟨rfl, rfl⟩
      | fin w => exact .inl ⟨rfl, rfl⟩
      | bad => cases hw
      | odd x => cases hw
      | keep b => refine .inr ?_; simp [Stt.wf] at hw; omega
      | again b => refine .inr ?_; simp [Stt.wf] at hw; omega
      | either a b => refine .inr ?_; simp [Stt.wf] at hw; omega
      | call g f a b => refine .inr ?_; simp [Stt.wf] at hw; omega
     have ea : ∀ x y z : Option Vl, JL (fun x y => x + y) 4 (mC (.int 1)) [a, some (.dat (.int lv)), some (.dat (.int many)), some (.dat (tupI path)), some (.dat (.int met)), x, y, z, none, none, none] S = .next [a, some (.dat (.int lv)), some (.dat (.int many)), some (.dat (tupI path)), some (.dat (.int (met + 1))), x, y, z, none, none, none] S := fun _ _ _ => rfl
     have e2 : wH lv path ((at_ : Nat) : Int) (s :: r) met = (DO lv (path ++ [((at_ : Nat) : Int)]) s (met + 1)).then (wH lv path (((at_ + 1 : Nat) : Int)) r) := by
      rw [wH, if_neg (by rintro (h | h | h) <;> first | exact h8 h | exact hm h | (rw [hw] at h; cases h))]
      rfl
     rw [e2];have ho : s.isOdd = false := by cases s <;> first | rfl | (cases hw; done)
     simp! [ea, uZ ho];rcases hlv with ⟨q1, q2⟩ | hlv
     ·rw [q1, q2]
      simp! [bls, cJ, dR, loop, FR.then_okk];exact rest (met + 1) h.2
     ·rw [ff_in ih h.1 h0 hlv (by simp; omega) hn]
      cases q : DO lv (path ++ [((at_ : Nat) : Int)]) s (met + 1) with
      | fault p m => simp! [FR.then_fault]
      | okk m =>
       simp! [FR.then_okk];exact rest m h.2
theorem M6 (n : Nat) : Eu n := by
 induction n with
 | zero =>
  intro S l lv many met path k hl h0 h3 hp hn;omega
 | succ n ih =>
  intro S l lv many met path k hl h0 h3 hp hn;rw [show cX (n + 1) [.dat (.lst (cH l)), .dat (.int lv), .dat (.int many), .dat (tupI path), .dat (.int met)] S = bS (mI (cX n) [some (.dat (.lst (cH l))), some (.dat (.int lv)), some (.dat (.int many)), some (.dat (tupI path)), some (.dat (.int met)), none, none, none, none, none, none] S) from rfl]
  unfold mI;have e := M3 ih (S := S) (a := some (.dat (.lst (cH l)))) h0 h3 hp (by omega) l 0 met hl
  rw [mE] at e;simp! [e];cases q : wH lv path 0 l met with
  | fault p m => simp! [if_true]; rfl
  | okk m => simp! [if_true]; rfl
theorem Br {α : Type} {t : Tg} {e : FE} {ρ : Ev} {S : aN} {f g : α -> D} : ∀ {xs : List α}, (∀ x ∈ xs, ∃ ρ1, qR t (.dat (f x)) ρ = some ρ1 /\ e ρ1 S = .ok (.dat (g x)) S) -> nJ t eV e ρ (xs.map f) S = .ok (xs.map g) S
 | [], _ => rfl
 | x :: xs, h => by
  obtain ⟨ρ1, h1, h2⟩ := h x (bD ..);have ih := Br (xs := xs) fun y hy => h y (aU _ hy)
  rw [bA, nJ];simp only [h1, PB, h2, if_true, ih, bA]
theorem fV {α : Type} {cl : Bool} {t : Tg} {e : FE} {ρ : Ev} {S : aN} {f g : α -> D} {xs : List α} {vs : List Nat} (hl : xs.length <= sizeLine) (h : ∀ x ∈ xs, ∃ ρ1, qR t (.dat (f x)) (wipeE ρ vs) = some ρ1 /\ e ρ1 S = .ok (.dat (g x)) S) : Ao cl t eV e ρ vs (xs.map f) S = newL cl (xs.map g) S := by
 unfold Ao;rw [bC, if_pos hl, Br h]
theorem yB : ∀ l : List Stt, cH l = l.map Stt.d
 | [] => rfl
 | s :: r => by rw [cH, yB r]; rfl
theorem Dh {many : Int} {s : Stt} {k : Nat} (h : s.Ok many k) : ∀ b ∈ s.blocks, 0 < k /\ OkL many b (k - 1) := by
 intro b hb;cases s with
 | cmd c => cases hb
 | fin w => cases hb
 | bad => cases hb
 | odd x => cases hb
 | keep x => simp [Stt.blocks] at hb; subst hb; exact h
 | again x => simp [Stt.blocks] at hb; subst hb; exact h
 | either x y => simp [Stt.blocks] at hb; rcases hb with rfl | rfl; exact ⟨h.1, h.2.1⟩; exact ⟨h.1, h.2.2⟩
 | call g f x y => simp [Stt.blocks] at hb; rcases hb with rfl | rfl; exact ⟨h.1.1, h.2.1⟩; exact ⟨h.1.1, h.2.2⟩
theorem OkL.mem {many : Int} : ∀ {l : List Stt} {k : Nat}, OkL many l k -> ∀ s ∈ l, s.Ok many k
 | [], _, _, s, hs => by cases hs
 | x :: r, k, h, s, hs => by
  rcases cS.mp hs with rfl | hs
  ·exact h.1.1
  ·exact OkL.mem h.2 s hs
theorem HI {s : Stt} : s.blocks.length <= 2 := by cases s <;> simp [Stt.blocks]
def Ra (n : Nat) : Prop := (∀ {S : aN} {many : Int} {s : Stt} {k : Nat}, s.Ok many k -> 2 * k + 1 <= n -> gP n [.dat s.d] S = .ok (.dat s.d) S) /\ ∀ {S : aN} {many : Int} {l : List Stt} {k : Nat}, OkL many l k -> 2 * k + 2 <= n -> eB n [.dat (.lst (cH l))] S = .ok (.dat (.lst (cH l))) S
theorem OW (n : Nat) : Ra n := by
 induction n with
 | zero => exact ⟨fun _ h => by omega, fun _ h => by omega⟩
 | succ n ih =>
  constructor
  ·intro S many s k h hn
   rw [show gP (n + 1) [.dat s.d] S = bS (gW (eB n) [some (.dat s.d), none] S) from rfl]
   unfold gW;simp! [uZ h.no];rw [show bls s.blocks = s.blocks.map (fun b => .lst (cH b)) from rfl, fV (g := fun b => .lst (cH b)) (sz (by have := HI (s := s); omega)) fun b hb => ⟨_, rfl, ?_⟩]
   ·simp! [show s.blocks.map (fun b => D.lst (cH b)) = bls s.blocks from rfl, F7 h.no]
    rfl
   ·obtain ⟨h1, h2⟩ := Dh h b hb
    simp! [ih.2 h2 (by omega)]
  ·intro S many l k h hn
   rw [show eB (n + 1) [.dat (.lst (cH l))] S = bS (lB (gP n) [some (.dat (.lst (cH l))), none] S) from rfl]
   unfold lB;simp! [yB];rw [fV (g := Stt.d) (sz (by have := h.len; omega)) fun s hs => ⟨_, rfl, ?_⟩]
   ·rfl
   ·simp! [ih.1 (h.mem s hs) (by omega)]
def vU (p : Int) : List (List Stt) -> Option (Int × List Int)
 | [] => none
 | b :: r => match wH 0 [] 0 b 0 with
  | .fault q _ => some (p, q)
  | .okk _ => vU (p + 1) r
def Gh (i : Int) (q : List Int) : Er := ⟨"NoBook", ["path", "procedure"], [tupI q, .int i]⟩
theorem DH {S : aN} {many : Int} {k : Nat} {a : Option Vl} {bs0 : List D} (hm : many = (bs0.length : Int)) : ∀ (bs : List (List Stt)) (p : Nat), (∀ b ∈ bs, OkL many b k) ->
  match vU (p : Nat) bs with
  | none => loop (.tp [2, 3]) dU (dR p (bls bs)) [a, some (.dat (.lst bs0)), none, none, none, none] S = .next [a, some (.dat (.lst bs0)), none, none, none, none] S
  | some (i, q) => ∃ ρ', loop (.tp [2, 3]) dU (dR p (bls bs)) [a, some (.dat (.lst bs0)), none, none, none, none] S = .err (Gh i q) ρ' S
 | [], p, _ => rfl
 | b :: r, p, h => by
  have ih := DH (S := S) (k := k) (a := a) hm r (p + 1) fun b hb => h b (aU _ hb)
  have hb := h b (bD ..);have e1 : cX 10 [.dat (.lst (cH b)), .dat (.int 0), .dat (.int (bs0.length : Int)), .dat (.tup []), .dat (.int 0)] S = .ok (.dat (wH 0 [] 0 b 0).d) S := by
   rw [<- hm];exact M6 10 (path := []) hb.x (by omega) (by omega) (by simp) (by simp)
  have el : loop (.tp [2, 3]) dU (dR p (bls (b :: r))) [a, some (.dat (.lst bs0)), none, none, none, none] S = (match dU [a, some (.dat (.lst bs0)), some (.dat (.int (p : Nat))), some (.dat (.lst (cH b))), none, none] S with
   | .next ρ2 S2 => loop (.tp [2, 3]) dU (dR (p + 1) (bls r)) ρ2 S2
   | .cnt ρ2 S2 => loop (.tp [2, 3]) dU (dR (p + 1) (bls r)) ρ2 S2
   | .brk ρ2 S2 => .next ρ2 S2
   | .ret d S2 => .ret d S2
   | .err e ρ2 S2 => .err e ρ2 S2
   | .stuck => .stuck) := rfl
  rw [el, dU];simp! [e1];rw [vU];cases q : wH 0 [] 0 b 0 with
  | fault pp mm =>
   simp! [FR.d, Fw];exact ⟨_, rfl⟩
  | okk mm =>
   simp! [FR.d, Fw];rw [<- dU];exact ih
def bF (bs : List (List Stt)) : D := .ins "Book" ["own"] [.lst (bls bs)]
theorem Kx {d : Vl} : ∀ {ρ : Ev} {i : Nat}, i < ρ.length -> lk (ρ.set i (some d)) i = some d
 | [], i, h => by simp at h
 | x :: r, 0, h => rfl
 | x :: r, i + 1, h => Kx (ρ := r) (by simpa using h)
theorem Ih {ρ : Ev} {i : Nat} : (wipeE ρ [i]).length = ρ.length := by simp [wipeE]
theorem CY {cl : Bool} {S : aN} {many : Int} {k i : Nat} {bs : List (List Stt)} {ρ : Ev} (hb : ∀ b ∈ bs, OkL many b k) (hk : k <= 9) (hl : bs.length <= 10) (h : i < ρ.length) : Ao cl (.nm i) eV (aM (eB 20) (aB (aC i) aI)) ρ [i] (bls bs) S = newL cl (bls bs) S := by
 rw [show bls bs = bs.map (fun b => .lst (cH b)) from rfl, fV (g := fun b => .lst (cH b)) (sz (by omega)) fun b hb' => ?_]
 have e2 := Kx (d := .dat (.lst (cH b))) (ρ := wipeE ρ [i]) (i := i) (by rw [Ih]; exact h)
 refine ⟨(wipeE ρ [i]).set i (some (.dat (.lst (cH b)))), rfl, ?_⟩
 simp (config := { implicitDefEqProofs := false }) only [HB, HA, PD, e2, iX, Ef, LX, Ee];exact (OW 20).2 (hb b hb') (by omega)
theorem Nf {S : aN} {many : Int} {k n : Nat} {bs : List (List Stt)} (hb : ∀ b ∈ bs, OkL many b k) (hk : k <= 9) (hm : many = (bs.length : Int)) (h1 : 1 <= bs.length) (h3 : bs.length <= 3) (hn : S[n]? = some (.ins "Book" [])) :
  kG [.cel n, .dat (.lst (bls bs))] S = match vU 0 bs with
   | none => .ok (.dat .non) (S.set n (.ins "Book" [("own", .dat (.lst (bls bs)))]))
   | some (i, q) => .err (Gh i q) S := by
 rw [show kG [.cel n, .dat (.lst (bls bs))] S = bS (pY [some (.cel n), some (.dat (.lst (bls bs))), none, none, none, none] S) from rfl]
 unfold pY;have hl : (bls bs).length = bs.length := by simp [bls]
 have e := DH (S := S) (a := some (.cel n)) (bs0 := bls bs) (by rw [hl]; exact hm) bs 0 hb
 rw [mE] at e;simp! [hl, decide_eq_true (show (1 : Int) <= (bs.length : Int) by omega), decide_eq_true (show (bs.length : Int) <= 3 by omega)]
 cases q : vU 0 bs with
 | none =>
  rw [q] at e;simp! [e, CY hb hk (show bs.length <= 10 by omega), iI hn (by simp)]
  rfl
 | some x =>
  obtain ⟨i, p⟩ := x;rw [q] at e;obtain ⟨ρ', e⟩ := e;simp! [e];rfl
theorem Ky {S : aN} {bs : List (List Stt)} (hl : bs.length <= 10) : DQ "Book" oN (.dat (bF bs)) S = .ok (.dat (.int (bs.length : Int))) S := by
 have e : oN [.dat (bF bs)] S = .ok (.dat (.int (bs.length : Int))) S := by
  rw [show oN [.dat (bF bs)] S = bS (sV [some (.dat (bF bs))] S) from rfl]
  unfold sV bF;simp! [AG, fH];simp [bls];rfl
 rw [DQ, if_pos (by simp [jA, bF, tR]), e, QC, if_pos (by omega)]
theorem NJ {S : aN} {many : Int} {k : Nat} {bs : List (List Stt)} (ls : LS S) (hb : ∀ b ∈ bs, OkL many b k) (hk : k <= 9) (hm : many = (bs.length : Int)) (h1 : 1 <= bs.length) (h3 : bs.length <= 3) :
  Hz false "Book" kG [.dat (.lst (bls bs))] S = match vU 0 bs with
   | none => .ok (.dat (bF bs)) S
   | some (i, q) => .err (Gh i q) S := by
 have t : ((S ++ [Cell.ins "Book" []]).take S.length) = S := by simp
 have ls' := ls.take (n := S.length) (m := S.length);rw [List.take_length] at ls';unfold Hz;rw [Nf hb hk hm h1 h3 (by simp)]
 cases q : vU 0 bs with
 | none =>
  dsimp only [made];rw [nD _ _ (cN _), Nat.sub_self];simp [Di, bF, ls']
 | some x =>
  obtain ⟨i, p⟩ := x;dsimp only [made];rw [t, if_pos ls']
end PH
namespace PH
open PySem PySem.Spec PyProof PyProof.Rows L2
mutual
/-- the height -/
def D.ht : D -> Nat
 | .lst xs => D.hts xs + 1
 | .tup xs => D.hts xs + 1
 | _ => 0
def D.hts : List D -> Nat
 | [] => 0
 | x :: r => max (D.ht x) (D.hts r)
end
mutual
/-- no instances, no dicts; texts that may be compared -/
def D.Pl : D -> Prop
 | .lst xs => xs.length <= 1000 /\ D.Pls xs
 | .tup xs => xs.length <= 1000 /\ D.Pls xs
 | .str x => PyData.strOk x = true
 | .ins _ _ _ => False
 | .dct => False
 | .opq _ => False
 | _ => True
def D.Pls : List D -> Prop
 | [] => True
 | x :: r => D.Pl x /\ D.Pls r
end
mutual
theorem Kg : ∀ d : D, d.Pl -> ∃ p, d.py = some p /\ p.canLay0 = true /\ p.depth = d.ht
 | .non, _ => ⟨_, rfl, rfl, rfl⟩
 | .bl b, _ => ⟨_, rfl, rfl, rfl⟩
 | .int i, _ => ⟨_, rfl, rfl, rfl⟩
 | .str x, h => ⟨_, rfl, h, rfl⟩
 | .lst xs, h => by
  obtain ⟨ps, e1, e2, e3⟩ := Gc xs h.2;refine ⟨.list ps, ?_, e2, ?_⟩
  ·simp only [D.py, e1]
  ·simp only [PyData.depth, D.ht, e3]
 | .tup xs, h => by
  obtain ⟨ps, e1, e2, e3⟩ := Gc xs h.2;refine ⟨.tuple ps, ?_, e2, ?_⟩
  ·simp only [D.py, e1]
  ·simp only [PyData.depth, D.ht, e3]
 | .ins _ _ _, h => h.elim
 | .dct, h => h.elim
 | .opq _, h => h.elim
theorem Gc : ∀ ds : List D, D.Pls ds -> ∃ ps, D.pys ds = some ps /\ PyData.canLayAll0 ps = true /\ PyData.depthAll ps = D.hts ds
 | [], _ => ⟨_, rfl, rfl, rfl⟩
 | d :: r, h => by
  obtain ⟨p, e1, e2, e3⟩ := Kg d h.1;obtain ⟨ps, f1, f2, f3⟩ := Gc r h.2;refine ⟨p :: ps, ?_, ?_, ?_⟩
  ·simp only [D.pys, e1, f1]
  ·simp only [PyData.canLayAll0, e2, f2, zL]
  ·simp only [PyData.depthAll, D.hts, e3, f3]
end
theorem J8 {d : D} {p : PyData} (h : d.Pl) (hd : d.ht <= 64) (e : d.py = some p) : SeqAt.shaped p = true := by
 obtain ⟨p', e1, e2, e3⟩ := Kg d h;rw [e] at e1;cases e1;unfold SeqAt.shaped;rw [e2, e3, decide_eq_true hd];rfl
mutual
theorem Stt.plain {many : Int} : ∀ (s : Stt) (k : Nat), s.Ok many k -> s.d.Pl /\ s.d.ht <= 3 * k + 1
 | .cmd c, k, h => by cases c <;> exact ⟨⟨by simp, by simp only [D.Pl, D.Pls, and_true]; decide +kernel⟩, by simp [Stt.d, Cmd.d, D.ht, D.hts]⟩
 | .fin w, k, h => ⟨⟨by simp, by simp only [D.Pl, D.Pls, and_true]; decide +kernel⟩, by simp [Stt.d, D.ht, D.hts]⟩
 | .bad, k, h => ⟨⟨by simp, by simp only [D.Pl, D.Pls, and_true]; decide +kernel⟩, by simp [Stt.d, D.ht, D.hts]⟩
 | .odd x, k, h => h.elim
 | .keep b, k, h => by
  obtain ⟨h1, h2⟩ := iM b (k - 1) h.2;have l1 := h.2.len;have := h.1;exact ⟨⟨by simp, by show PyData.strOk _ = true; decide +kernel, ⟨by rw [dC]; omega, h1⟩, trivial⟩, by simp [Stt.d, D.ht, D.hts]; omega⟩
 | .again b, k, h => by
  obtain ⟨h1, h2⟩ := iM b (k - 1) h.2;have l1 := h.2.len;have := h.1;exact ⟨⟨by simp, by show PyData.strOk _ = true; decide +kernel, ⟨by rw [dC]; omega, h1⟩, trivial⟩, by simp [Stt.d, D.ht, D.hts]; omega⟩
 | .either a b, k, h => by
  obtain ⟨h1, h2⟩ := iM a (k - 1) h.2.1;obtain ⟨h3, h4⟩ := iM b (k - 1) h.2.2;have l1 := h.2.1.len;have l2 := h.2.2.len;have := h.1;exact ⟨⟨by simp, by show PyData.strOk _ = true; decide +kernel, ⟨by rw [dC]; omega, h1⟩, ⟨by rw [dC]; omega, h3⟩, trivial⟩, by simp [Stt.d, D.ht, D.hts]; omega⟩
 | .call g f a b, k, h => by
  obtain ⟨h1, h2⟩ := iM a (k - 1) h.2.1;obtain ⟨h3, h4⟩ := iM b (k - 1) h.2.2;have l1 := h.2.1.len;have l2 := h.2.2.len;have := h.1.1;exact ⟨⟨by simp, by show PyData.strOk _ = true; decide +kernel, trivial, trivial, ⟨by simp, ⟨by rw [dC]; omega, h1⟩, ⟨by rw [dC]; omega, h3⟩, trivial⟩, trivial⟩, by simp [Stt.d, D.ht, D.hts]; omega⟩
theorem iM {many : Int} : ∀ (l : List Stt) (k : Nat), OkL many l k -> D.Pls (cH l) /\ D.hts (cH l) <= 3 * k + 1
 | [], k, _ => ⟨trivial, by simp [cH, D.hts]⟩
 | s :: r, k, h => by
  obtain ⟨h1, h2⟩ := Stt.plain s k h.1.1;obtain ⟨h3, h4⟩ := iM r k h.2;exact ⟨⟨h1, h3⟩, by simp [cH, D.hts]; omega⟩
end
theorem Bv : ∀ {xs : List D} {x : D}, x ∈ xs -> x.ht <= D.hts xs
 | y :: r, x, h => by
  rcases cS.mp h with rfl | h
  ·simp [D.hts]; omega
  ·have := Bv h; simp [D.hts]; omega
theorem Bb : ∀ {xs : List D} {x : D}, D.Pls xs -> x ∈ xs -> x.Pl
 | y :: r, x, hp, h => by
  rcases cS.mp h with rfl | h
  ·exact hp.1
  ·exact Bb hp.2 h
theorem all_true {α : Type} {S : aN} (xs : List α) : wK (.dat (.lst (xs.map fun _ => D.bl true))) S = .ok (.dat (.bl true)) S := by
 have : ∀ xs : List α, zC (xs.map fun _ => D.bl true) = some (xs.map fun _ => true) := fun xs => by
  induction xs with
  | nil => rfl
  | cons x r ih => simp only [bA, zC, ih]
 simp only [wK, jE, this]
 congr 3
 simp
theorem tZ {lo : Int} {n : Nat} : gI lo (n + 1) = .int lo :: gI (lo + 1) n := by
 unfold gI;rw [Ha, bA, fE]
 congr 1
 ·simp
 ·apply eW
  intro k _;simp only [Function.comp]
  congr 1
  omega
abbrev rm (S : aN) (q : Nat) (m : Int) : aN := S.set q (.lst [.int m])
theorem B9 {bs : List (List Stt)} : (bls bs).length = bs.length := by simp [bls]
theorem MF {ns : List Int} {lo hi : Option Int} : ∃ ms : List Int, cutD (ns.map D.int) lo hi = ms.map D.int /\ ms.length <= ns.length := by
 refine ⟨(ns.drop (HT.sIx (ns.map D.int).length 0 lo)).take (HT.sIx (ns.map D.int).length (ns.map D.int).length hi - HT.sIx (ns.map D.int).length 0 lo), ?_, ?_⟩
 ·simp only [cutD, List.map_take, List.map_drop]
 ·simp; omega
theorem N1 {ns : List Int} {S : aN} (hn : ns.length <= 63) : ∃ ks : List Int, xR [.scr ns] S = .ok (.cel S.length) (S ++ [PL ks]) /\ 2 <= ks.length := by
 obtain ⟨ms, e, hl⟩ := MF (ns := ns) (lo := none) (hi := some 63);rw [show xR [.scr ns] S = bS (yU [some (.scr ns), none] S) from rfl]
 unfold yU;simp! [e];rw [fV (g := D.int) (sz (by omega)) fun i hi => ⟨_, rfl, ?_⟩]
 ·cases ms with
  | nil =>
   refine ⟨[0, 0], ?_, by simp⟩
   simp! [cJ, List.isEmpty_nil, iJ (show [D.int 0].length + [D.int 0].length <= sizeLine from sz (by simp))]
   rfl
  | cons i r =>
   refine ⟨0 :: i :: r, ?_, by simp⟩
   simp! [bA, List.isEmpty_cons, iJ (show [D.int 0].length + (D.int i :: r.map D.int).length <= sizeLine from sz (by simp at *; omega))]
   rfl
 ·simp! [if_true]
structure Dr (p q c N : Nat) (many : Int) (S : aN) (r l : Int) : Prop where
 ls : LS S
 n2 : 2 <= N
 pool : ∃ ks, S[p]? = some (PL ks) /\ ks.length = N
 room : S[q]? = some (PL [r])
 call : S[c]? = some (PL [l, many])
 pq : p ≠ q
 pc : p ≠ c
 qc : q ≠ c
def Sam (Z : List Nat) (S S' : aN) : Prop := S'.length = S.length /\ ∀ i : Nat, i ∉ Z -> S'[i]? = S[i]?
theorem Sam.refl {Z : List Nat} {S : aN} : Sam Z S S := ⟨rfl, fun _ _ => rfl⟩
theorem Sam.trans {Z : List Nat} {S S1 S2 : aN} (a : Sam Z S S1) (b : Sam Z S1 S2) : Sam Z S S2 := ⟨by rw [b.1, a.1], fun i h => by rw [b.2 i h, a.2 i h]⟩
theorem Sam.set {Z : List Nat} {S : aN} {k : Nat} {x : Cell} (h : k ∈ Z) : Sam Z S (S.set k x) := ⟨by simp, fun i hi => by
 rw [aQ, if_neg (show ¬ k = i from fun e => hi (by rw [<- e]; exact h))]⟩
section
variable {p q c N : Nat} {many r l : Int} {S : aN}
theorem nE {S : aN} {i j : Nat} {x : Cell} (h : i ≠ j) : (S.set i x)[j]? = S[j]? := by rw [aQ, if_neg h]
theorem Dr.setp {ks : List Int} (D : Dr p q c N many S r l) (h : ks.length = N) : Dr p q c N many (S.set p (PL ks)) r l := by
 obtain ⟨k0, h0, _⟩ := D.pool;exact ⟨D.ls.set, D.n2, ⟨ks, lO h0, h⟩, by rw [nE D.pq]; exact D.room, by rw [nE D.pc]; exact D.call, D.pq, D.pc, D.qc⟩
theorem Dr.setq {r' : Int} (D : Dr p q c N many S r l) : Dr p q c N many (S.set q (PL [r'])) r' l := by
 obtain ⟨k0, h0, h1⟩ := D.pool;exact ⟨D.ls.set, D.n2, ⟨k0, by rw [nE (Ne.symm D.pq)]; exact h0, h1⟩, lO D.room, by rw [nE D.qc]; exact D.call, D.pq, D.pc, D.qc⟩
theorem Dr.setc {l' : Int} (D : Dr p q c N many S r l) : Dr p q c N many (S.set c (PL [l', many])) r l' := by
 obtain ⟨k0, h0, h1⟩ := D.pool;exact ⟨D.ls.set, D.n2, ⟨k0, by rw [nE (Ne.symm D.pc)]; exact h0, h1⟩, by rw [nE (Ne.symm D.qc)]; exact D.room, lO D.call, D.pq, D.pc, D.qc⟩
theorem Dr.draw {k : Int} (D : Dr p q c N many S r l) (h0 : 0 < k) (h1 : k < 1073741824) : ∃ (d : Int) (S' : aN), bG [.cel p, .dat (.int k)] S = .ok (.dat (.int d)) S' /\ 0 <= d /\ d < k /\ Dr p q c N many S' r l /\ Sam [p, q, c] S S' := by
 obtain ⟨ks, hk, hl⟩ := D.pool;obtain ⟨d, ks', e, h2, h3, l⟩ := dO (S := S) (p := p) (ks := ks) ⟨hk, by rw [hl]; exact D.n2⟩ h0 h1
 exact ⟨d, _, e, h2, h3, D.setp (by omega), Sam.set (by simp)⟩
theorem Dr.ixq (D : Dr p q c N many S r l) : bU (.cel q) (.dat (.int 0)) S = .ok (.dat (.int r)) S := uX (k := 0) (n := 0) D.room rfl rfl
theorem Dr.ixc0 (D : Dr p q c N many S r l) : bU (.cel c) (.dat (.int 0)) S = .ok (.dat (.int l)) S := uX (k := 0) (n := 0) D.call rfl rfl
theorem Dr.ixc1 (D : Dr p q c N many S r l) : bU (.cel c) (.dat (.int 1)) S = .ok (.dat (.int many)) S := uX (k := 1) (n := 1) D.call rfl rfl
theorem Dr.augq {w : Int} {g : Int -> Int -> Int} {o i e : FE} {ρ : Ev} (D : Dr p q c N many S r l) (ho : o ρ S = .ok (.cel q) S) (hi : i ρ S = .ok (.dat (.int 0)) S) (he : e ρ S = .ok (.dat (.int w)) S) : kS g o i e ρ S = .next ρ (S.set q (PL [g r w])) := CB (k := 0) (n := 0) ho hi he D.room rfl rfl
theorem Dr.augc {w : Int} {g : Int -> Int -> Int} {o i e : FE} {ρ : Ev} (D : Dr p q c N many S r l) (ho : o ρ S = .ok (.cel c) S) (hi : i ρ S = .ok (.dat (.int 0)) S) (he : e ρ S = .ok (.dat (.int w)) S) : kS g o i e ρ S = .next ρ (S.set c (PL [g l w, many])) := CB (k := 0) (n := 0) ho hi he D.call rfl rfl
end
section
variable {S : aN} {cl : Bool} {a b c d e f g h i j : D}
theorem kLst4 : A0 cl [.dat a, .dat b, .dat c, .dat d] S = newL cl [a, b, c, d] S := rfl
theorem kLst5 : A0 cl [.dat a, .dat b, .dat c, .dat d, .dat e] S = newL cl [a, b, c, d, e] S := rfl
theorem kLst6 : A0 cl [.dat a, .dat b, .dat c, .dat d, .dat e, .dat f] S = newL cl [a, b, c, d, e, f] S := rfl
theorem kLst9 : A0 cl [.dat a, .dat b, .dat c, .dat d, .dat e, .dat f, .dat g, .dat h, .dat i] S = newL cl [a, b, c, d, e, f, g, h, i] S := rfl
theorem kTup8 : kTup [.dat a, .dat b, .dat c, .dat d, .dat e, .dat f, .dat g, .dat h] S = .ok (.dat (.tup [a, b, c, d, e, f, g, h])) S := rfl
end
def menus : List (List Int) := [[0, 0, 0, 1, 1], [0, 0, 2, 3, 1], [0, 6, 7, 8, 8], [0, 4, 5, 6, 7], [0, 1, 3, 6, 8], [0, 1, 2, 3, 4, 5, 6, 7, 8], [1, 1, 2, 3, 4], [5, 6, 7, 8, 8]]
def Ku : List D := menus.map fun ks => .lst (ks.map D.int)
theorem NI {mood : Int} {S : aN} (h0 : 0 <= mood) (h1 : mood <= 7) : ∃ ks : List Int, bU (.dat (.lst Ku)) (.dat (.int mood)) S = .ok (.dat (.lst (ks.map D.int))) S /\ 0 < ks.length /\ ks.length <= 9 /\ ∀ k ∈ ks, 0 <= k /\ k <= 8 := by
 rcases (by omega : mood = 0 \/ mood = 1 \/ mood = 2 \/ mood = 3 \/ mood = 4 \/ mood = 5 \/ mood = 6 \/ mood = 7) with rfl | rfl | rfl | rfl | rfl | rfl | rfl | rfl
 ·exact ⟨[0, 0, 0, 1, 1], rfl, by decide, by decide, by decide⟩
 ·exact ⟨[0, 0, 2, 3, 1], rfl, by decide, by decide, by decide⟩
 ·exact ⟨[0, 6, 7, 8, 8], rfl, by decide, by decide, by decide⟩
 ·exact ⟨[0, 4, 5, 6, 7], rfl, by decide, by decide, by decide⟩
 ·exact ⟨[0, 1, 3, 6, 8], rfl, by decide, by decide, by decide⟩
 ·exact ⟨[0, 1, 2, 3, 4, 5, 6, 7, 8], rfl, by decide, by decide, by decide⟩
 ·exact ⟨[1, 1, 2, 3, 4], rfl, by decide, by decide, by decide⟩
 ·exact ⟨[5, 6, 7, 8, 8], rfl, by decide, by decide, by decide⟩
theorem NS {ks : List Int} {d : Int} {S : aN} (h0 : 0 <= d) (h1 : d < (ks.length : Int)) : ∃ k ∈ ks, bU (.dat (.lst (ks.map D.int))) (.dat (.int d)) S = .ok (.dat (.int k)) S := by
 have hd : d.toNat < ks.length := by omega
 refine ⟨ks[d.toNat], jJ hd, vP ?_⟩
 rw [iP (n := d.toNat) (by omega)]
 simp [hd]
theorem LH {d : Int} {S : aN} (h0 : 0 <= d) (h1 : d < 8) : ∃ k : Int, bU (.dat (.tup [.int (-1), .int (-1), .int (-1), .int 1, .int 1, .int 0, .int 2, .int (-3)])) (.dat (.int d)) S = .ok (.dat (.int k)) S /\ -3 <= k /\ k <= 3 := by
 rcases (by omega : d = 0 \/ d = 1 \/ d = 2 \/ d = 3 \/ d = 4 \/ d = 5 \/ d = 6 \/ d = 7) with rfl | rfl | rfl | rfl | rfl | rfl | rfl | rfl
 ·exact ⟨-1, rfl, by decide, by decide⟩
 ·exact ⟨-1, rfl, by decide, by decide⟩
 ·exact ⟨-1, rfl, by decide, by decide⟩
 ·exact ⟨1, rfl, by decide, by decide⟩
 ·exact ⟨1, rfl, by decide, by decide⟩
 ·exact ⟨0, rfl, by decide, by decide⟩
 ·exact ⟨2, rfl, by decide, by decide⟩
 ·exact ⟨-3, rfl, by decide, by decide⟩
theorem QR {d a : Int} {S : aN} (h0 : 0 <= d) (h1 : d < 4) (ha : -9 <= a) (hb : a <= 9) : ∃ k : Int, bU (.dat (.lst [.int a, .int 2, .int (a % 3 - 1), .int 1])) (.dat (.int d)) S = .ok (.dat (.int k)) S /\ -9 <= k /\ k <= 9 := by
 have := fZ a (show (3 : Int) ≠ 0 by decide)
 have := fM a (show (0 : Int) < 3 by decide)
 rcases (by omega : d = 0 \/ d = 1 \/ d = 2 \/ d = 3) with rfl | rfl | rfl | rfl
 ·exact ⟨a, rfl, ha, hb⟩
 ·exact ⟨2, rfl, by decide, by decide⟩
 ·exact ⟨a % 3 - 1, rfl, by omega, by omega⟩
 ·exact ⟨1, rfl, by decide, by decide⟩
theorem C8 {S : aN} {p : Nat} {ks : List Int} {mood : Int} (hP : PoolAt S p ks) (h0 : 0 <= mood) (h7 : mood <= 7) : ∃ (c : Cmd) (ks' : List Int), gK [.cel p, .dat (.int mood)] S = .ok (.dat c.d) (S.set p (PL ks')) /\ c.Ok /\ ks'.length = ks.length := by
 obtain ⟨ms, e0, m1, m2, m3⟩ := NI (mood := mood) (S := S) h0 h7;obtain ⟨d, k1, e1, d0, d1, l1⟩ := dO hP (k := (ms.length : Int)) (by omega) (by omega)
 have P1 := hP.next l1;obtain ⟨kd, hk, ei⟩ := NS (ks := ms) (d := d) (S := S.set p (PL k1)) d0 d1;obtain ⟨hk0, hk8⟩ := m3 kd hk;have eE : gK [.cel p, .dat (.int mood)] S = bS (pU [some (.cel p), some (.dat (.int mood)), none, none, none, none] S) := rfl;rw [eE];unfold pU;have em : ∀ S, cL false (.dat (.lst [.lst [.int 0, .int 0, .int 0, .int 1, .int 1], .lst [.int 0, .int 0, .int 2, .int 3, .int 1], .lst [.int 0, .int 6, .int 7, .int 8, .int 8], .lst [.int 0, .int 4, .int 5, .int 6, .int 7], .lst [.int 0, .int 1, .int 3, .int 6, .int 8]])) (.dat (.lst [.lst [.int 0, .int 1, .int 2, .int 3, .int 4, .int 5, .int 6, .int 7, .int 8], .lst [.int 1, .int 1, .int 2, .int 3, .int 4], .lst [.int 5, .int 6, .int 7, .int 8, .int 8]])) S = .ok (.dat (.lst Ku)) S := fun S => rfl
 simp! [kLst5, kLst9, em, e0, bC, e1, ei];obtain ⟨d2, k2, e2, h2, h3, l2⟩ := dO P1 (k := 19) (by decide) (by decide)
 obtain ⟨d3, k3, e3, h4, h5, l3⟩ := dO P1 (k := 3) (by decide) (by decide)
 obtain ⟨d4, k4, e4, h6, h7, l4⟩ := dO P1 (k := 8) (by decide) (by decide)
 obtain ⟨d5, k5, e5, h8, h9, l5⟩ := dO (P1.next l2) (k := 19) (by decide) (by decide)
 obtain ⟨d6, k6, e6, h10, h11, l6⟩ := dO (P1.next l2) (k := 4) (by decide) (by decide)
 simp only [cP] at e2 e3 e4 e5 e6;rcases (by omega : kd = 0 \/ kd = 1 \/ kd = 2 \/ kd = 3 \/ kd = 4 \/ kd = 5 \/ kd = 6 \/ kd = 7 \/ kd = 8) with rfl | rfl | rfl | rfl | rfl | rfl | rfl | rfl | rfl
 ·obtain ⟨v, ev, v1, v2⟩ := QR (a := d2 - 9) (S := S.set p (PL k6)) h10 h11 (by omega) (by omega)
  simp! [e2, kLst4, e6, nK (show (0 : Int) < 3 by decide), ev]
  exact ⟨.go v, k6, rfl, ⟨v1, v2⟩, by omega⟩
 ·simp! [e3]
  exact ⟨.turn (1 + d3), k3, rfl, ⟨by omega, by omega⟩, by omega⟩
 ·simp! [if_true]
  exact ⟨.mirror, k1, rfl, trivial, l1⟩
 ·obtain ⟨v, ev, v1, v2⟩ := LH (S := S.set p (PL k4)) h6 h7
  simp! [kTup8, e4, ev];exact ⟨.scale v, k4, rfl, ⟨v1, v2⟩, by omega⟩
 ·simp! [eD, e2, e5]
  exact ⟨.aim (d2 - 9) (d5 - 9), k5, rfl, ⟨⟨by omega, by omega⟩, by omega, by omega⟩, by omega⟩
 ·simp! [qK, e2, e5]
  exact ⟨.place (d2 - 9) (d5 - 9), k5, rfl, ⟨⟨by omega, by omega⟩, by omega, by omega⟩, by omega⟩
 ·simp! [eD]
  exact ⟨.mark, k1, rfl, trivial, l1⟩
 ·simp! [qK]
  exact ⟨.ret, k1, rfl, trivial, l1⟩
 ·simp! [CV]
  exact ⟨.exch, k1, rfl, trivial, l1⟩
theorem N4 {S : aN} {p : Nat} {ks : List Int} {mood : Int} (hP : PoolAt S p ks) : ∃ (c c' : Cmd) (ks' : List Int), rB [.cel p, .dat (.int mood)] S = .ok (.dat (.lst [c.d, c'.d])) (S.set p (PL ks')) /\ c.Ok /\ c'.Ok /\ ks'.length = ks.length := by
 obtain ⟨d, k1, e1, d0, d1, l1⟩ := dO hP (k := 3) (by decide) (by decide)
 have P1 := hP.next l1;obtain ⟨d2, k2, e2, h2, h3, l2⟩ := dO P1 (k := 4) (by decide) (by decide)
 simp only [cP] at e2;have eE : rB [.cel p, .dat (.int mood)] S = bS (yV [some (.cel p), some (.dat (.int mood)), none, none, none] S) := rfl;rw [eE];unfold yV;have fin : ∀ (x : Int) (S : aN), 0 <= x -> x < 4 -> ∃ c c' : Cmd, bU (.dat (.lst ([.lst [.tup [.str "go", .int (1 + d)], .tup [.str "go", .int (-(1 + d))]], .lst [.tup [.str "turn", .int (1 + d)], .tup [.str "turn", .int (4 - (1 + d))]], .lst [.tup [.str "mirror"], .tup [.str "mirror"]]] ++ [.lst [.tup [.str "exchange"], .tup [.str "exchange"]]]))) (.dat (.int x)) S = .ok (.dat (.lst [c.d, c'.d])) S /\ c.Ok /\ c'.Ok := fun x S h0 h1 => by
  rcases (by omega : x = 0 \/ x = 1 \/ x = 2 \/ x = 3) with rfl | rfl | rfl | rfl
  ·exact ⟨.go (1 + d), .go (-(1 + d)), rfl, ⟨by omega, by omega⟩, ⟨by omega, by omega⟩⟩
  ·exact ⟨.turn (1 + d), .turn (4 - (1 + d)), rfl, ⟨by omega, by omega⟩, ⟨by omega, by omega⟩⟩
  ·exact ⟨.mirror, .mirror, rfl, trivial, trivial⟩
  ·exact ⟨.exch, .exch, rfl, trivial, trivial⟩
 simp! [e1, e2]
 by_cases hm : mood = 6
 ·subst hm
  have := fZ d2 (show (2 : Int) ≠ 0 by decide)
  have := fM d2 (show (0 : Int) < 2 by decide)
  obtain ⟨c, c', e, o1, o2⟩ := fin (1 + d2 % 2) (S.set p (PL k2)) (by omega) (by omega)
  simp! [nK (show (0 : Int) < 2 by decide), iJ, sz, e]
  exact ⟨c, c', k2, rfl, o1, o2, by omega⟩
 ·by_cases h7 : mood = 7
  ·subst h7
   obtain ⟨c, c', e, o1, o2⟩ := fin 3 (S.set p (PL k2)) (by omega) (by omega)
   simp! [iJ, sz, e];exact ⟨c, c', k2, rfl, o1, o2, by omega⟩
  ·obtain ⟨c, c', e, o1, o2⟩ := fin d2 (S.set p (PL k2)) (by omega) (by omega)
   simp! [decide_eq_false hm, decide_eq_false h7, iJ, sz, e];exact ⟨c, c', k2, rfl, o1, o2, by omega⟩
mutual
def Stt.Gd (many : Int) : Stt -> Nat -> Prop
 | .cmd c, _ => c.Ok
 | .fin w, _ => 0 <= w /\ w <= 1
 | .keep b, n => 0 < n /\ GdL many b (n - 1)
 | .again b, n => 0 < n /\ GdL many b (n - 1)
 | .either a b, n => 0 < n /\ GdL many a (n - 1) /\ GdL many b (n - 1)
 | .call g _ a b, n => (0 < n /\ 0 <= g /\ g < many) /\ GdL many a (n - 1) /\ GdL many b (n - 1)
 | .bad, _ => False
 | .odd _, _ => False
def GdL (many : Int) : List Stt -> Nat -> Prop
 | [], _ => True
 | s :: r, n => s.Gd many n /\ GdL many r n
end
mutual
def Stt.size : Stt -> Nat
 | .keep b => bY b + 1
 | .again b => bY b + 1
 | .either a b => bY a + bY b + 1
 | .call _ _ a b => bY a + bY b + 1
 | _ => 1
def bY : List Stt -> Nat
 | [] => 0
 | s :: r => s.size + bY r
end
theorem size_pos (s : Stt) : 1 <= s.size := by cases s <;> simp [Stt.size]
theorem iR : ∀ l : List Stt, l.length <= bY l
 | [] => cN _
 | s :: r => by have := iR r; have := size_pos s; simp [bY]; omega
theorem hE : ∀ l m : List Stt, bY (l ++ m) = bY l + bY m
 | [], m => by simp [bY]
 | s :: r, m => by simp [bY, hE r m]; omega
theorem GdL.app {many : Int} : ∀ {l m : List Stt} {n : Nat}, GdL many l n -> GdL many m n -> GdL many (l ++ m) n
 | [], m, n, _, h => h
 | s :: r, m, n, h, h' => ⟨h.1, GdL.app h.2 h'⟩
mutual
theorem Stt.Gd.ok {many : Int} : ∀ {s : Stt} {n : Nat}, s.Gd many n -> s.size <= 11 -> s.Ok many n
 | .cmd c, n, h, _ => h
 | .fin w, n, h, _ => h
 | .keep b, n, h, hs => ⟨h.1, GdL.ok h.2 (by simp [Stt.size] at hs; omega)⟩
 | .again b, n, h, hs => ⟨h.1, GdL.ok h.2 (by simp [Stt.size] at hs; omega)⟩
 | .either a b, n, h, hs => ⟨h.1, GdL.ok h.2.1 (by simp [Stt.size] at hs; omega), GdL.ok h.2.2 (by simp [Stt.size] at hs; omega)⟩
 | .call g _ a b, n, h, hs => ⟨h.1, GdL.ok h.2.1 (by simp [Stt.size] at hs; omega), GdL.ok h.2.2 (by simp [Stt.size] at hs; omega)⟩
 | .bad, n, h, _ => h.elim
 | .odd _, n, h, _ => h.elim
theorem GdL.ok {many : Int} : ∀ {l : List Stt} {n : Nat}, GdL many l n -> bY l <= 10 -> OkL many l n
 | [], n, _, _ => trivial
 | s :: r, n, h, hs => by
  have := iR r;have := size_pos s;simp only [bY] at hs;exact ⟨⟨Stt.Gd.ok h.1 (by omega), by omega⟩, GdL.ok h.2 (by omega)⟩
end
mutual
theorem M4 {many : Int} : ∀ {s : Stt} {n : Nat} {lv met : Int} {here : List Int}, s.Gd many n -> 0 <= lv -> lv + n <= 3 -> s.size <= 9 -> met + s.size <= 13 -> 0 <= met -> DO lv here s met = .okk (met + s.size - 1)
 | .cmd c, n, lv, met, here, h, h0, h3, h9, h12, hm => by simp [DO, Stt.size]
 | .fin c, n, lv, met, here, h, h0, h3, h9, h12, hm => by simp [DO, Stt.size]
 | .bad, n, lv, met, here, h, h0, h3, h9, h12, hm => h.elim
 | .odd _, n, lv, met, here, h, h0, h3, h9, h12, hm => h.elim
 | .keep b, n, lv, met, here, h, h0, h3, h9, h12, hm => by
  have := h.1;simp only [Stt.size] at h9 h12;rw [DO, mX (n := n - 1) h.2 (by omega) (by omega) (by omega) (by omega) hm (by omega), Stt.size]
  congr 1
  omega
 | .again b, n, lv, met, here, h, h0, h3, h9, h12, hm => by
  have := h.1;simp only [Stt.size] at h9 h12;rw [DO, mX (n := n - 1) h.2 (by omega) (by omega) (by omega) (by omega) hm (by omega), Stt.size]
  congr 1
  omega
 | .either a b, n, lv, met, here, h, h0, h3, h9, h12, hm => by
  have := h.1;simp only [Stt.size] at h9 h12;rw [DO, mX (n := n - 1) h.2.1 (by omega) (by omega) (by omega) (by omega) hm (by omega), FR.then_okk, mX (n := n - 1) h.2.2 (by omega) (by omega) (by omega) (by omega) (by omega) (by omega), Stt.size]
  congr 1
  omega
 | .call g f a b, n, lv, met, here, h, h0, h3, h9, h12, hm => by
  have := h.1.1;simp only [Stt.size] at h9 h12;rw [DO, mX (n := n - 1) h.2.1 (by omega) (by omega) (by omega) (by omega) hm (by omega), FR.then_okk, mX (n := n - 1) h.2.2 (by omega) (by omega) (by omega) (by omega) (by omega) (by omega), Stt.size]
  congr 1
  omega
theorem mX {many : Int} : ∀ {l : List Stt} {n : Nat} {lv at_ met : Int} {path : List Int}, GdL many l n -> 0 <= lv -> lv + n <= 3 -> at_ + bY l <= 8 -> met + bY l <= 12 -> 0 <= met -> 0 <= at_ -> wH lv path at_ l met = .okk (met + bY l)
 | [], n, lv, at_, met, path, h, h0, h3, h8, h12, hm, ha => by simp [wH, bY]
 | s :: r, n, lv, at_, met, path, h, h0, h3, h8, h12, hm, ha => by
  have hp := size_pos s;simp only [bY] at h8 h12;have hw : s.wf lv = true := by
   cases s with
   | cmd c => rfl
   | fin c => rfl
   | bad => exact h.1.elim
   | odd x => exact h.1.elim
   | keep b => have := h.1.1; simp [Stt.wf]; omega
   | again b => have := h.1.1; simp [Stt.wf]; omega
   | either a b => have := h.1.1; simp [Stt.wf]; omega
   | call g f a b => have := h.1.1.1; simp [Stt.wf]; omega
  rw [wH, if_neg (by rintro (e | e | e) <;> first | omega | (rw [hw] at e; cases e)), M4 (n := n) h.1 h0 h3 (by omega) (by omega) (by omega), FR.then_okk, mX (n := n) h.2 h0 h3 (by omega) (by omega) (by omega) (by omega), bY]
  congr 1
  omega
end
section
variable {p q c N : Nat} {many : Int}
theorem Dr.command {S : aN} {r l mood : Int} (D : Dr p q c N many S r l) (h0 : 0 <= mood) (h7 : mood <= 7) : ∃ (cm : Cmd) (S' : aN), gK [.cel p, .dat (.int mood)] S = .ok (.dat cm.d) S' /\ cm.Ok /\ Dr p q c N many S' r l /\ Sam [p, q, c] S S' := by
 obtain ⟨ks, hk, hl⟩ := D.pool;obtain ⟨cm, ks', e, ho, l⟩ := C8 (S := S) (p := p) (ks := ks) ⟨hk, by rw [hl]; exact D.n2⟩ h0 h7
 exact ⟨cm, _, e, ho, D.setp (by omega), Sam.set (by simp)⟩
theorem Dr.pair {S : aN} {r l mood : Int} (D : Dr p q c N many S r l) : ∃ (cm cm' : Cmd) (S' : aN), rB [.cel p, .dat (.int mood)] S = .ok (.dat (.lst [cm.d, cm'.d])) S' /\ cm.Ok /\ cm'.Ok /\ Dr p q c N many S' r l /\ Sam [p, q, c] S S' := by
 obtain ⟨ks, hk, hl⟩ := D.pool;obtain ⟨cm, cm', ks', e, ho, ho', l⟩ := N4 (S := S) (p := p) (ks := ks) (mood := mood) ⟨hk, by rw [hl]; exact D.n2⟩
 exact ⟨cm, cm', _, e, ho, ho', D.setp (by omega), Sam.set (by simp)⟩
structure Left (p q c N : Nat) (many : Int) (S : aN) (r : Int) (n : Nat) (ls : List Stt) (S' : aN) (r' l' : Int) : Prop where
 dr : Dr p q c N many S' r' l'
 sam : Sam [p, q, c] S S'
 r0 : 0 <= r'
 sz : (bY ls : Int) + r' <= r
 gd : GdL many ls n
end
def Ex (n : Nat) : Prop := ∀ {p q c N : Nat} {many : Int} {S : aN} {r l mood lv low : Int}, Dr p q c N many S r l -> 0 <= mood -> mood <= 7 -> 0 <= lv -> lv <= 3 -> 0 <= low -> 0 <= r -> r <= 8 -> many <= 3 -> 2 * (3 - lv.toNat) + r.toNat + 2 <= n ->
 ∃ (ls : List Stt) (S' : aN) (r' l' : Int), uW n [.cel p, .dat (.int mood), .dat (.int lv), .cel q, .cel c, .dat (.int low)] S = .ok (.dat (.lst (cH ls))) S' /\ Left p q c N many S r (3 - lv.toNat) ls S' r' l'
def zD (n : Nat) : Prop := ∀ {p q c N : Nat} {many : Int} {S : aN} {r l mood lv low : Int}, Dr p q c N many S r l -> 0 <= mood -> mood <= 7 -> 0 <= lv -> lv <= 3 -> 0 <= low -> 0 < r -> r <= 8 -> many <= 3 -> 2 * (3 - lv.toNat) + r.toNat + 1 <= n ->
 ∃ (ls : List Stt) (S' : aN) (r' l' : Int), kF n [.cel p, .dat (.int mood), .dat (.int lv), .cel q, .cel c, .dat (.int low)] S = .ok (.dat (.lst (cH ls))) S' /\ Left p q c N many S r (3 - lv.toNat) ls S' r' l'
theorem wO {n : Nat} (ih : zD n) {p q c N : Nat} {many mood lv low : Int} (h0 : 0 <= mood) (h7 : mood <= 7) (l0 : 0 <= lv) (l3 : lv <= 3) (lo : 0 <= low) (hm : many <= 3) :
  ∀ (is : List D) (ls : List Stt) (S : aN) (r l : Int), Dr p q c N many S r l -> 0 <= r -> (bY ls : Int) + r <= 8 -> 2 * (3 - lv.toNat) + r.toNat + 1 <= n -> GdL many ls (3 - lv.toNat) -> ∃ (ls' : List Stt) (S' : aN) (r' l' : Int),
   loop (.nm 7) (jW (kF n)) is [some (.cel p), some (.dat (.int mood)), some (.dat (.int lv)), some (.cel q), some (.cel c), some (.dat (.int low)), some (.dat (.lst (cH ls))), none] S =
    .next [some (.cel p), some (.dat (.int mood)), some (.dat (.int lv)), some (.cel q), some (.cel c), some (.dat (.int low)), some (.dat (.lst (cH ls'))), none] S' /\ Left p q c N many S (bY ls + r) (3 - lv.toNat) ls' S' r' l'
 | [], ls, S, r, l, D, r0, r8, hn, g => ⟨ls, S, r, l, rfl, D, Sam.refl, r0, Int.le_refl _, g⟩
 | i :: is, ls, S, r, l, D, r0, r8, hn, g => by
  rw [loop];simp only [qR, cE, bM];rw [jW];simp! [D.ixq]
  by_cases hr : 0 < r
  ·obtain ⟨l1, S1, r1, c1, e1, L1⟩ := ih D h0 h7 l0 l3 lo hr (by omega) hm hn
   have hl := iR ls;have hl1 := iR l1;have hsz := L1.sz;have hr1 := L1.r0;simp! [decide_eq_true hr, e1, iJ (show (cH ls).length + (cH l1).length <= sizeLine by rw [dC, dC]; exact PH.sz (by omega))]
   rw [<- jW, <- iN];obtain ⟨l2, S2, r2, c2, e2, L2⟩ := wO ih (p := p) (q := q) (c := c) (N := N) h0 h7 l0 l3 lo hm is (ls ++ l1) S1 r1 c1 L1.dr hr1 (by rw [hE]; omega) (by omega) (g.app L1.gd)
   have := L2.sz;rw [hE] at this;exact ⟨l2, S2, r2, c2, e2, L2.dr, L1.sam.trans L2.sam, L2.r0, by omega, L2.gd⟩
  ·simp! [decide_eq_false hr]
   rw [<- jW];exact wO ih h0 h7 l0 l3 lo hm is ls S r l D r0 r8 hn g
theorem MO {n : Nat} (ih : zD n) : Ex (n + 1) := by
 intro p q c N many S r l mood lv low D h0 h7 l0 l3 lo r0 r8 hm hn;rw [show uW (n + 1) [.cel p, .dat (.int mood), .dat (.int lv), .cel q, .cel c, .dat (.int low)] S = bS (vF (kF n) [some (.cel p), some (.dat (.int mood)), some (.dat (.int lv)), some (.cel q), some (.cel c), some (.dat (.int low)), none, none] S) from rfl]
 unfold vF;obtain ⟨d, S1, e1, d0, d1, D1, s1⟩ := D.draw (k := 3) (by decide) (by decide)
 obtain ⟨l2, S2, r2, c2, e2, L2⟩ := wO ih h0 h7 l0 l3 lo hm (gI 0 d.toNat) [] S1 r l D1 r0 (by simp [bY]; omega) (by omega) trivial
 simp! [e1, jO (show -(2 ^ 62) <= d by omega) (show d < 2 ^ 62 by omega)]
 rw [show ([] : List PH.D) = cH [] from rfl, e2]
 simp! [if_true];have := L2.sz;simp only [bY] at this;exact ⟨l2, S2, r2, c2, rfl, L2.dr, s1.trans L2.sam, L2.r0, by omega, L2.gd⟩
theorem PQ {a b : PH.D} : cutD [a, b] none (some 1) = [a] := rfl
theorem ds1 {s : Stt} : [s.d] = cH [s] := rfl
theorem Kh {n : Nat} (ihB : Ex n) (ihP : zD n) : zD (n + 1) := by
 intro p q c N many S r l mood lv low D h0 h7 l0 l3 lo r0 r8 hm hn;rw [show kF (n + 1) [.cel p, .dat (.int mood), .dat (.int lv), .cel q, .cel c, .dat (.int low)] S = bS (vC (uW n) (kF n) [some (.cel p), some (.dat (.int mood)), some (.dat (.int lv)), some (.cel q), some (.cel c), some (.dat (.int low)), none, none, none, none, none, none] S) from rfl]
 unfold vC;obtain ⟨d, S1, e1, d0, d1, D1, s1⟩ := D.draw (k := 17) (by decide) (by decide)
 have ea : ∀ z : Option Vl, kS (fun x y => x - y) (aC 3) (mC (.int 0)) (mC (.int 1)) [some (.cel p), some (.dat (.int mood)), some (.dat (.int lv)), some (.cel q), some (.cel c), some (.dat (.int low)), z, none, none, none, none, none] S1 = .next [some (.cel p), some (.dat (.int mood)), some (.dat (.int lv)), some (.cel q), some (.cel c), some (.dat (.int low)), z, none, none, none, none, none] (S1.set q (PL [r - 1])) := fun z => D1.augq rfl rfl rfl
 have D2 := D1.setq (r' := r - 1);have s2 : Sam [p, q, c] S (S1.set q (PL [r - 1])) := s1.trans (Sam.set (by simp))
 generalize S1.set q (PL [r - 1]) = S2 at ea D2 s2;obtain ⟨cm, S3, e2, c2, D3, s3⟩ := D2.command h0 h7;have LC : Left p q c N many S r (3 - lv.toNat) [.cmd cm] S3 (r - 1) l := ⟨D3, s2.trans s3, by omega, by simp [bY, Stt.size]; omega, c2, trivial⟩
 have oc : ∃ (ls : List Stt) (S' : aN) (r' l' : Int), bS (Out.ret (.dat (.lst [cm.d])) S3) = .ok (.dat (.lst (cH ls))) S' /\ Left p q c N many S r (3 - lv.toNat) ls S' r' l' := ⟨_, _, _, _, rfl, LC⟩;rcases (by omega : d < 6 \/ d = 6 \/ (7 <= d /\ d < 15 /\ 2 < lv) \/ (7 <= d /\ d < 9 /\ lv <= 2) \/ (d = 9 /\ lv <= 2) \/ (d = 10 /\ lv <= 2) \/ (11 <= d /\ d < 15 /\ lv <= 2) \/ (15 <= d)) with hd | hd | ⟨ha, hb, hl⟩ | ⟨ha, hb, hl⟩ | ⟨hd, hl⟩ | ⟨hd, hl⟩ | ⟨ha, hb, hl⟩ | hd
 ·simp! [e1, decide_eq_false (show ¬ (6 : Int) < d by omega), decide_eq_false (show ¬ d = 6 by omega), decide_eq_false (show ¬ (10 : Int) < d by omega), ea, decide_eq_true hd, e2]
  exact oc
 ·subst hd
  by_cases hr : r < 2
  ·simp! [e1, D1.ixq, decide_eq_true hr, ea, e2]
   exact oc
  ·have eb : ∀ z : Option Vl, kS (fun x y => x - y) (aC 3) (mC (.int 0)) (mC (.int 1)) [some (.cel p), some (.dat (.int mood)), some (.dat (.int lv)), some (.cel q), some (.cel c), some (.dat (.int low)), z, none, none, none, none, none] S2 = .next [some (.cel p), some (.dat (.int mood)), some (.dat (.int lv)), some (.cel q), some (.cel c), some (.dat (.int low)), z, none, none, none, none, none] (S2.set q (PL [r - 1 - 1])) := fun z => D2.augq rfl rfl rfl
   have D4 := D2.setq (r' := r - 1 - 1);have s4 : Sam [p, q, c] S (S2.set q (PL [r - 1 - 1])) := s2.trans (Sam.set (by simp))
   generalize S2.set q (PL [r - 1 - 1]) = S4 at eb D4 s4;obtain ⟨ca, cb, S5, e5, oa, ob, D5, s5⟩ := D4.pair (mood := mood)
   by_cases hr2 : 0 < r - 1 - 1
   ·obtain ⟨l6, S6, r6, c6, e6, L6⟩ := ihP D5 h0 h7 l0 l3 lo hr2 (by omega) hm (by omega)
    have hs := L6.sz;have := L6.r0;have hl6 := iR l6;simp! [e1, D1.ixq, decide_eq_false hr, ea, eb, e5, D5.ixq, decide_eq_true hr2, e6, PQ, yM, iJ (show [ca.d].length + (cH l6).length <= sizeLine from sz (by rw [dC]; simp; omega)), iJ (show ([ca.d] ++ cH l6).length + [cb.d].length <= sizeLine from sz (by simp [dC]; omega))]
    refine ⟨[.cmd ca] ++ l6 ++ [.cmd cb], S6, r6, c6, ?_, L6.dr, s4.trans (s5.trans L6.sam), L6.r0, ?_, ?_⟩
    ·rw [iN, iN]; rfl
    ·rw [hE, hE]; simp only [bY, Stt.size]; omega
    ·exact GdL.app (GdL.app (l := [.cmd ca]) ⟨oa, trivial⟩ L6.gd) ⟨ob, trivial⟩
   ·simp! [e1, D1.ixq, decide_eq_false hr, ea, eb, e5, D5.ixq, decide_eq_false hr2, PQ, yM, iJ, sz, cZ, jK, kI]
    refine ⟨[.cmd ca, .cmd cb], S5, r - 1 - 1, l, rfl, D5, s4.trans s5, by omega, ?_, oa, ob, trivial⟩
    simp only [bY, Stt.size]; omega
 ·have h1 := fZ d (show (6 : Int) ≠ 0 by decide)
  have h2 := fM d (show (0 : Int) < 6 by decide)
  simp! [e1, decide_eq_true (show (6 : Int) < d by omega), decide_eq_true hb, decide_eq_true hl, nK (show (0 : Int) < 6 by decide), decide_eq_false (show ¬ d % 6 = 6 by omega), decide_eq_false (show ¬ (10 : Int) < d % 6 by omega), ea, decide_eq_true (show d % 6 < 6 by omega), e2]
  exact oc
 ·have e54 : 3 - (lv + 1).toNat = 3 - lv.toNat - 1 := by omega
  obtain ⟨la, Sa, ra, ca, ea1, La⟩ := ihB (lv := lv + 1) (low := 0) D2 h0 h7 (by omega) (by omega) (by omega) (by omega) (by omega) hm (by omega)
  obtain ⟨lb, Sb, rb, cb, eb1, Lb⟩ := ihB (lv := lv + 1) (low := low) La.dr h0 h7 (by omega) (by omega) lo La.r0 (by have := La.sz; omega) hm (by have := La.sz; have := La.r0; omega)
  have := La.sz;have := Lb.sz;have ga := La.gd;have gb := Lb.gd;rw [e54] at ga gb;simp! [e1, decide_eq_true (show (6 : Int) < d by omega), decide_eq_true (show d < 15 by omega), decide_eq_false (show ¬ (2 : Int) < lv by omega), decide_eq_false (show ¬ d = 6 by omega), decide_eq_false (show ¬ (10 : Int) < d by omega), ea, decide_eq_false (show ¬ d < 6 by omega), decide_eq_true hb, ea1, eb1]
  refine ⟨[.either la lb], Sb, rb, cb, rfl, Lb.dr, s2.trans (La.sam.trans Lb.sam), Lb.r0, ?_, ⟨by omega, ga, gb⟩, trivial⟩
  simp only [bY, Stt.size]; omega
 ·subst hd
  have e54 : 3 - (lv + 1).toNat = 3 - lv.toNat - 1 := by omega
  obtain ⟨la, Sa, ra, ca, ea1, La⟩ := ihB (lv := lv + 1) (low := 0) D2 h0 h7 (by omega) (by omega) (by omega) (by omega) (by omega) hm (by omega)
  have := La.sz;have ga := La.gd;rw [e54] at ga;simp! [e1, decide_eq_false (show ¬ (2 : Int) < lv by omega), ea, ea1]
  refine ⟨[.again la], Sa, ra, ca, rfl, La.dr, s2.trans La.sam, La.r0, ?_, ⟨by omega, ga⟩, trivial⟩
  simp only [bY, Stt.size]; omega
 ·subst hd
  have e54 : 3 - (lv + 1).toNat = 3 - lv.toNat - 1 := by omega
  obtain ⟨la, Sa, ra, ca, ea1, La⟩ := ihB (lv := lv + 1) (low := low) D2 h0 h7 (by omega) (by omega) (by omega) (by omega) (by omega) hm (by omega)
  have := La.sz;have ga := La.gd;rw [e54] at ga;simp! [e1, decide_eq_false (show ¬ (2 : Int) < lv by omega), ea, ea1]
  refine ⟨[.keep la], Sa, ra, ca, rfl, La.dr, s2.trans La.sam, La.r0, ?_, ⟨by omega, ga⟩, trivial⟩
  simp only [bY, Stt.size]; omega
 ·by_cases hc : l < 1
  ·simp! [e1, decide_eq_true (show (6 : Int) < d by omega), decide_eq_true hb, decide_eq_false (show ¬ (2 : Int) < lv by omega), decide_eq_false (show ¬ d = 6 by omega), decide_eq_true (show (10 : Int) < d by omega), D1.ixc0, decide_eq_true hc, ea, e2]
   exact oc
  ·by_cases hlo : many <= low
   ·simp! [e1, decide_eq_true (show (6 : Int) < d by omega), decide_eq_true hb, decide_eq_false (show ¬ (2 : Int) < lv by omega), decide_eq_false (show ¬ d = 6 by omega), decide_eq_true (show (10 : Int) < d by omega), D1.ixc0, decide_eq_false hc, D1.ixc1, decide_eq_true hlo, ea, e2]
    exact oc
   ·have e54 : 3 - (lv + 1).toNat = 3 - lv.toNat - 1 := by omega
    have ec : ∀ z : Option Vl, kS (fun x y => x - y) (aC 4) (mC (.int 0)) (mC (.int 1)) [some (.cel p), some (.dat (.int mood)), some (.dat (.int lv)), some (.cel q), some (.cel c), some (.dat (.int low)), z, none, none, none, none, none] S2 = .next [some (.cel p), some (.dat (.int mood)), some (.dat (.int lv)), some (.cel q), some (.cel c), some (.dat (.int low)), z, none, none, none, none, none] (S2.set c (PL [l - 1, many])) := fun z => D2.augc rfl rfl rfl
    have D4 := D2.setc (l' := l - 1);have s4 : Sam [p, q, c] S (S2.set c (PL [l - 1, many])) := s2.trans (Sam.set (by simp))
    generalize S2.set c (PL [l - 1, many]) = S4 at ec D4 s4;obtain ⟨g, S5, e5, g0, g1, D5, s5⟩ := D4.draw (k := many - low) (by omega) (by omega)
    obtain ⟨f, S6, e6, f0, f1, D6, s6⟩ := D5.draw (k := 3) (by decide) (by decide)
    obtain ⟨la, Sa, ra, ca, ea1, La⟩ := ihB (lv := lv + 1) (low := low) D6 h0 h7 (by omega) (by omega) lo (by omega) (by omega) hm (by omega)
    obtain ⟨lb, Sb, rb, cb, eb1, Lb⟩ := ihB (lv := lv + 1) (low := low) La.dr h0 h7 (by omega) (by omega) lo La.r0 (by have := La.sz; omega) hm (by have := La.sz; have := La.r0; omega)
    have := La.sz;have := Lb.sz;have ga := La.gd;have gb := Lb.gd;rw [e54] at ga gb;simp! [e1, decide_eq_true (show (6 : Int) < d by omega), decide_eq_true hb, decide_eq_false (show ¬ (2 : Int) < lv by omega), decide_eq_false (show ¬ d = 6 by omega), decide_eq_true (show (10 : Int) < d by omega), D1.ixc0, decide_eq_false hc, D1.ixc1, decide_eq_false hlo, ea, decide_eq_false (show ¬ d < 6 by omega), decide_eq_false (show ¬ d < 9 by omega), decide_eq_false (show ¬ d = 9 by omega), decide_eq_false (show ¬ d = 10 by omega), decide_eq_false (show ¬ (14 : Int) < d by omega), ec, D4.ixc1, e5, e6, ea1, eb1]
    refine ⟨[.call (low + g) (decide (f = 0)) la lb], Sb, rb, cb, rfl, Lb.dr, s4.trans (s5.trans (s6.trans (La.sam.trans Lb.sam))), Lb.r0, ?_, ⟨⟨by omega, by omega, by omega⟩, ga, gb⟩, trivial⟩
    simp only [bY, Stt.size]; omega
 ·obtain ⟨w, S4, e4, w0, w1, D4, s4⟩ := D2.draw (k := 2) (by decide) (by decide)
  simp! [e1, decide_eq_true (show (6 : Int) < d by omega), decide_eq_false (show ¬ d < 15 by omega), decide_eq_false (show ¬ d = 6 by omega), decide_eq_true (show (10 : Int) < d by omega), ea, decide_eq_false (show ¬ d < 6 by omega), decide_eq_false (show ¬ d < 9 by omega), decide_eq_false (show ¬ d = 9 by omega), decide_eq_false (show ¬ d = 10 by omega), decide_eq_true (show (14 : Int) < d by omega), e4]
  refine ⟨[.fin w], S4, r - 1, l, rfl, D4, s2.trans s4, by omega, ?_, ⟨w0, by omega⟩, trivial⟩
  simp only [bY, Stt.size]; omega
theorem yC : ∀ n, Ex n /\ zD n
 | 0 => ⟨fun _ _ _ _ _ _ _ _ _ h => by omega, fun _ _ _ _ _ _ _ _ _ h => by omega⟩
 | n + 1 => ⟨MO (yC n).2, Kh (yC n).1 (yC n).2⟩
theorem Jm {p q c N : Nat} {many : Int} {S : aN} {r l mood : Int} (D : Dr p q c N many S r l) (h0 : 0 <= mood) (h7 : mood <= 7) (hr : 3 < r) (m1 : 1 <= many) (m3 : many <= 3) :
  ∃ (ls : List Stt) (S' : aN) (r' l' : Int), sE [.cel p, .dat (.int mood), .cel q, .cel c] S = .ok (.dat (.lst (cH ls))) S' /\ Left p q c N many S r 3 ls S' r' l' := by
 rw [show sE [.cel p, .dat (.int mood), .cel q, .cel c] S = bS (sU [some (.cel p), some (.dat (.int mood)), some (.cel q), some (.cel c), none, none, none, none, none] S) from rfl]
 unfold sU;have ea : kS (fun x y => x - y) (aC 2) (mC (.int 0)) (mC (.int 4)) [some (.cel p), some (.dat (.int mood)), some (.cel q), some (.cel c), none, none, none, none, none] S = .next [some (.cel p), some (.dat (.int mood)), some (.cel q), some (.cel c), none, none, none, none, none] (S.set q (PL [r - 4])) := D.augq rfl rfl rfl
 have D1 := D.setq (r' := r - 4);have s1 : Sam [p, q, c] S (S.set q (PL [r - 4])) := Sam.set (by simp)
 generalize S.set q (PL [r - 4]) = S1 at ea D1 s1;have eb : kS (fun x y => x - y) (aC 3) (mC (.int 0)) (mC (.int 1)) [some (.cel p), some (.dat (.int mood)), some (.cel q), some (.cel c), none, none, none, none, none] S1 = .next [some (.cel p), some (.dat (.int mood)), some (.cel q), some (.cel c), none, none, none, none, none] (S1.set c (PL [l - 1, many])) := D1.augc rfl rfl rfl
 have D2 := D1.setc (l' := l - 1);have s2 : Sam [p, q, c] S1 (S1.set c (PL [l - 1, many])) := Sam.set (by simp)
 generalize S1.set c (PL [l - 1, many]) = S2 at eb D2 s2;obtain ⟨g, S3, e3, g0, g1, D3, s3⟩ := D2.draw (k := many) (by omega) (by omega)
 obtain ⟨f, S4, e4, f0, f1, D4, s4⟩ := D3.draw (k := 3) (by decide) (by decide)
 obtain ⟨a, S5, e5, a0, a1, D5, s5⟩ := D4.draw (k := 2) (by decide) (by decide)
 obtain ⟨ca, S6, e6, oa, D6, s6⟩ := D5.command h0 h7;obtain ⟨cb, S7, e7, ob, D7, s7⟩ := D6.command h0 h7;obtain ⟨b, S8, e8, b0, b1, D8, s8⟩ := D7.draw (k := 2) (by decide) (by decide)
 have s18 : Sam [p, q, c] S S8 := s1.trans (s2.trans (s3.trans (s4.trans (s5.trans (s6.trans (s7.trans s8))))));have fin : ∀ (x y : Cmd) (T : aN), x.Ok -> y.Ok -> Dr p q c N many T (r - 4) (l - 1) -> Sam [p, q, c] S T -> ∃ (ls : List Stt) (S' : aN) (r' l' : Int), bS (((bU (.dat (.lst [.lst [], .lst [x.d, .tup [.str "call", .int g, .bl (decide (f = 0)), .lst [.lst [], .lst []]], y.d]])) (.dat (.int a)) T).bind fun u T1 => ((bU (.dat (.lst [.lst [], .lst [x.d, .tup [.str "call", .int g, .bl (decide (f = 0)), .lst [.lst [], .lst []]], y.d]])) (.dat (.int (1 - a))) T1).bind fun v T2 => kTup [.dat (.str "either"), u, v] T2)).toS [] fun w T3 => (A0 false [w] T3).toS [] QK) = .ok (.dat (.lst (cH ls))) S' /\ Left p q c N many S r 3 ls S' r' l' := fun x y T ox oy DT sT => by
  have sz : ∀ (u v : List Stt), bY u + bY v = 3 -> (bY [.either u v] : Int) + (r - 4) <= r := fun u v h => by simp only [bY, Stt.size]; omega
  have hc : GdL many [.cmd x, .call g (decide (f = 0)) [] [], .cmd y] 2 := ⟨ox, ⟨⟨by omega, g0, g1⟩, trivial, trivial⟩, oy, trivial⟩
  rcases (by omega : a = 0 \/ a = 1) with rfl | rfl
  ·exact ⟨[.either [] [.cmd x, .call g (decide (f = 0)) [] [], .cmd y]], T, r - 4, l - 1, rfl, DT, sT, by omega, sz _ _ rfl, ⟨by omega, trivial, hc⟩, trivial⟩
  ·exact ⟨[.either [.cmd x, .call g (decide (f = 0)) [] [], .cmd y] []], T, r - 4, l - 1, rfl, DT, sT, by omega, sz _ _ rfl, ⟨by omega, hc, trivial⟩, trivial⟩
 simp! [ea, eb, D2.ixc1, e3, e4, e5, e6, e7, e8]
 by_cases hb : b = 0
 ·obtain ⟨cx, cy, S9, e9, ox, oy, D9, s9⟩ := D8.pair (mood := mood)
  simp! [decide_eq_true hb, e9, JO, NT];obtain ⟨ls, S', r', l', e, L⟩ := fin cx cy S9 ox oy D9 (s18.trans s9);refine ⟨ls, S', r', l', ?_, L⟩
  rw [<- e];rcases (by omega : a = 0 \/ a = 1) with rfl | rfl <;> rfl
 ·simp! [decide_eq_false hb, JO, NT]
  obtain ⟨ls, S', r', l', e, L⟩ := fin ca cb S8 oa ob D8 s18;refine ⟨ls, S', r', l', ?_, L⟩
  rw [<- e];rcases (by omega : a = 0 \/ a = 1) with rfl | rfl <;> rfl
theorem AD {p q c N : Nat} {many mood low : Int} {z8 : Option Vl} {z5 : Option Vl} (h0 : 0 <= mood) (h7 : mood <= 7) (lo : 0 <= low) (hm : many <= 3) :
  ∀ (is : List D) (ls : List Stt) (S : aN) (r l : Int), Dr p q c N many S r l -> 0 <= r -> (bY ls : Int) + r <= 8 -> GdL many ls 3 -> ∃ (ls' : List Stt) (S' : aN) (r' l' : Int),
   loop (.nm 7) jP is [some (.cel p), some (.dat (.int mood)), some (.cel q), some (.cel c), some (.dat (.int low)), z5, some (.dat (.lst (cH ls))), none, z8] S =
    .next [some (.cel p), some (.dat (.int mood)), some (.cel q), some (.cel c), some (.dat (.int low)), z5, some (.dat (.lst (cH ls'))), none, z8] S' /\ Left p q c N many S (bY ls + r) 3 ls' S' r' l'
 | [], ls, S, r, l, D, r0, r8, g => ⟨ls, S, r, l, rfl, D, Sam.refl, r0, Int.le_refl _, g⟩
 | i :: is, ls, S, r, l, D, r0, r8, g => by
  rw [loop];simp only [qR, cE, bM];rw [jP];simp! [D.ixq]
  by_cases hr : 0 < r
  ·obtain ⟨l1, S1, r1, c1, e1, L1⟩ := (yC 30).2 (lv := 0) D h0 h7 (by omega) (by omega) lo hr (by omega) hm (by simp; omega)
   have hl := iR ls;have hl1 := iR l1;have hsz := L1.sz;have hr1 := L1.r0;simp! [decide_eq_true hr, e1, iJ (show (cH ls).length + (cH l1).length <= sizeLine by rw [dC, dC]; exact PH.sz (by omega))]
   rw [<- jP, <- iN];obtain ⟨l2, S2, r2, c2, e2, L2⟩ := AD (p := p) (q := q) (c := c) (N := N) (z8 := z8) (z5 := z5) h0 h7 lo hm is (ls ++ l1) S1 r1 c1 L1.dr hr1 (by rw [hE]; omega) (g.app L1.gd)
   have := L2.sz;rw [hE] at this;exact ⟨l2, S2, r2, c2, e2, L2.dr, L1.sam.trans L2.sam, L2.r0, by omega, L2.gd⟩
  ·simp! [decide_eq_false hr]
   rw [<- jP];exact AD h0 h7 lo hm is ls S r l D r0 r8 g
def Aq : Stt := .either [.fin 1] []
structure Bk (p n N : Nat) (S0 : aN) (many l : Int) (bs : List (List Stt)) (T : aN) : Prop where
 ls : LS T
 n2 : 2 <= N
 hp : p < n
 len : n + 2 <= T.length
 pool : ∃ ks, T[p]? = some (PL ks) /\ ks.length = N
 call : T[n]? = some (PL [l, many])
 bod : T[n + 1]? = some (.lst (bls bs))
 old : ∀ i, i < n -> i ≠ p -> T[i]? = S0[i]?
theorem qP {T : aN} {c : Cell} {i : Nat} (h : i < T.length) : (T ++ [c])[i]? = T[i]? := aT h
structure Good (bs : List (List Stt)) : Prop where
 l1 : 1 <= bs.length
 l3 : bs.length <= 3
 gd : ∀ b ∈ bs, GdL (bs.length : Int) b 3 /\ bY b <= 8
theorem Good.ok {bs : List (List Stt)} (h : Good bs) : ∀ b ∈ bs, OkL (bs.length : Int) b 3 := fun b hb => (h.gd b hb).1.ok (by have := (h.gd b hb).2; omega)
theorem good_none : ∀ {bs : List (List Stt)} {p : Int} {many : Int}, (∀ b ∈ bs, GdL many b 3 /\ bY b <= 8) -> vU p bs = none
 | [], p, many, _ => rfl
 | b :: r, p, many, h => by
  obtain ⟨h1, h2⟩ := h b (bD ..);rw [vU, mX (n := 3) h1 (by omega) (by omega) (by omega) (by omega) (by omega) (by omega)]
  exact good_none fun b hb => h b (aU _ hb)
theorem Good.none {bs : List (List Stt)} (h : Good bs) : vU 0 bs = none := good_none h.gd
theorem JK {S : aN} {bs : List (List Stt)} (ls : LS S) (h : Good bs) : Hz false "Book" kG [.dat (.lst (bls bs))] S = .ok (.dat (bF bs)) S := by
 rw [NJ ls h.ok (by omega) rfl h.l1 h.l3, h.none]
inductive Bd where
 | blk (b : List Stt) | no (x : D)
theorem Mq {a o i : FE} {ρ : Ev} {S S1 : aN} {d : D} {n j : Nat} {k : Int} {ds : List D} (ha : a ρ S = .ok (.dat d) S1) (ho : o ρ S1 = .ok (.cel n) S1) (hi : i ρ S1 = .ok (.dat (.int k)) S1) (h : S1[n]? = some (.lst ds)) (hk : k = (j : Int)) (hj : j < ds.length) : Bq a o i ρ S = .next ρ (S1.set n (.lst (ds.set j d))) := by
 subst hk;simp only [Bq, ha, ho, hi, Bx, setC, h];rw [if_pos ⟨by omega, by simpa using hj⟩]
 simp
def pre (i : Int) (p : List Int × Stt) : List Int × Stt := (i :: p.1, p.2)
theorem GdL.okTop {many : Int} : ∀ {l : List Stt} {n : Nat}, GdL many l n -> (∀ s ∈ l, s.size <= 9) -> l.length <= 10 -> OkL many l n
 | [], n, _, _, _ => trivial
 | s :: r, n, h, h9, hl => by
  simp only [bB] at hl;exact ⟨⟨Stt.Gd.ok h.1 (by have := h9 s (bD ..); omega), by omega⟩, GdL.okTop h.2 (fun s hs => h9 s (aU _ hs)) (by omega)⟩
structure Good2 (bs : List (List Stt)) : Prop where
 l1 : 1 <= bs.length
 l3 : bs.length <= 3
 gd : ∀ b ∈ bs, GdL (bs.length : Int) b 3 /\ b.length <= 8 /\ bY b <= 12 /\ ∀ s ∈ b, s.size <= 9
theorem FB : ∀ {l : List Stt} {s : Stt}, s ∈ l -> s.size <= bY l
 | x :: r, s, h => by
  rcases cS.mp h with rfl | h
  ·simp [bY]
  ·have := FB h; simp [bY]; omega
theorem Good.two {bs : List (List Stt)} (h : Good bs) : Good2 bs := ⟨h.l1, h.l3, fun b hb => by
 obtain ⟨h1, h2⟩ := h.gd b hb;have := iR b;exact ⟨h1, by omega, by omega, fun s hs => by have := FB hs; omega⟩⟩
theorem Good2.ok {bs : List (List Stt)} (h : Good2 bs) : ∀ b ∈ bs, OkL (bs.length : Int) b 3 := fun b hb => by
 obtain ⟨h1, h2, h3, h4⟩ := h.gd b hb;exact h1.okTop h4 (by omega)
def Cmd.word : Cmd -> Str
 | .go _ => "go"
 | .turn _ => "turn"
 | .mirror => "mirror"
 | .scale _ => "scale"
 | .aim _ _ => "aim"
 | .place _ _ => "place"
 | .mark => "mark"
 | .ret => "return"
 | .exch => "exchange"
def stZ : List Int -> List Stt -> Option Stt
 | [], _ => none
 | [i], l => if 0 <= i then l[i.toNat]? else none
 | i :: j :: r, l => if 0 <= i /\ 0 <= j then (match l[i.toNat]? with
  | some s => (match s.blocks[j.toNat]? with
   | some b => stZ r b
   | none => none)
  | none => none) else none
theorem Ob {S : aN} {a0 a1 : Option Vl} {many : Int} : ∀ (m : Nat) (π : List Int) (l : List Stt) (k n : Nat) (x : Vl) (s : Stt), π.length <= m -> OkL many l k -> n % 2 = 0 -> stZ π l = some s ->
  ∃ (b : Vl), loop (.tp [4, 5]) iQ (dR n (π.map D.int)) [a0, a1, some x, some (.dat (.lst (cH l))), none, none] S = .next [a0, a1, some (.dat s.d), some b, none, none] S /\ ∃ j, j <= k /\ s.Ok many j
 | m, [], l, k, n, x, s, _, _, _, h => by cases h
 | m, [i], l, k, n, x, s, hm, ho, hn, h => by
  simp only [stZ] at h;split at h
  ·rename_i hi
   have hlt : i.toNat < l.length := (aJ.mp h).1;have hs := ho.mem s (fY h);have hix : atI (cH l) i = some s.d := by
    rw [iP (n := i.toNat) (by omega), yB, cC, h]
    rfl
   rw [bA, dR, loop];simp only [qR, kB, bB, dQ, if_true, cE, bM];rw [iQ];simp! [dJ, decide_eq_true hi, dC, decide_eq_true (show i < (l.length : Int) by omega), nK (show (0 : Int) < 2 by decide), decide_eq_true (show ((n : Nat) : Int) % 2 = 0 by omega), vP hix, uZ hs.no, cJ, dR, loop]
   exact ⟨_, rfl, k, cN _, hs⟩
  ·cases h
 | 0, i :: j :: r, l, k, n, x, s, hm, _, _, _ => by simp at hm
 | m + 1, i :: j :: r, l, k, n, x, s, hm, ho, hn, h => by
  simp only [stZ] at h;split at h
  ·rename_i hij
   cases q : l[i.toNat]? with
   | none => rw [q] at h; cases h
   | some t =>
    rw [q] at h;dsimp only at h;cases q2 : t.blocks[j.toNat]? with
    | none => rw [q2] at h; cases h
    | some b =>
     rw [q2] at h;dsimp only at h;have hlt : i.toNat < l.length := (aJ.mp q).1;have hlt2 : j.toNat < t.blocks.length := (aJ.mp q2).1;have ht := ho.mem t (fY q);obtain ⟨hk, hb⟩ := Dh ht b (fY q2);have hix : atI (cH l) i = some t.d := by
      rw [iP (n := i.toNat) (by omega), yB, cC, q]
      rfl
     have hix2 : atI (bls t.blocks) j = some (.lst (cH b)) := by
      rw [iP (n := j.toNat) (by omega)]
      simp [bls, q2]
     simp only [bB] at hm;obtain ⟨c, e, j', h1, h2⟩ := Ob (S := S) (a0 := a0) (a1 := a1) m r b (k - 1) (n + 1 + 1) (.dat t.d) s (by omega) hb (by omega) h
     refine ⟨c, ?_, j', by omega, h2⟩
     rw [bA, bA, dR, loop];simp only [qR, kB, bB, dQ, if_true, cE, bM];rw [iQ];simp! [dJ, decide_eq_true hij.1, dC, decide_eq_true (show i < (l.length : Int) by omega), nK (show (0 : Int) < 2 by decide), decide_eq_true (show ((n : Nat) : Int) % 2 = 0 by omega), vP hix, uZ ht.no]
     rw [dR, loop];simp only [qR, kB, bB, dQ, if_true, cE, bM];simp! [dJ, decide_eq_true hij.2, B9, decide_eq_true (show j < (t.blocks.length : Int) by omega), nK (show (0 : Int) < 2 by decide), decide_eq_false (show ¬ ((n + 1 : Nat) : Int) % 2 = 0 by omega), vP hix2]
     rw [<- iQ];exact e
  ·cases h
theorem LK {S : aN} {bs : List (List Stt)} {p : Int} (hl : bs.length <= 10) : gY [.dat (bF bs), .dat (.int p)] S = .ok (.dat (.bl (decide (0 <= p) && decide (p < (bs.length : Int))))) S := by
 rw [tK];unfold hC;simp! [dJ, Ky hl]
 by_cases h : 0 <= p
 ·simp! [decide_eq_true h, Ky hl]; rfl
 ·simp! [decide_eq_false h]; rfl
mutual
def repS (x : D) (k : Nat) : Stt -> Stt
 | .keep b => .keep (repL x k b)
 | .again b => .again (repL x k b)
 | .either a b => if k < bY a then .either (repL x k a) b else .either a (repL x (k - bY a) b)
 | .call g f a b => if k < bY a then .call g f (repL x k a) b else .call g f a (repL x (k - bY a) b)
 | s => s
def repL (x : D) (k : Nat) : List Stt -> List Stt
 | [] => []
 | s :: r => if k = 0 then .odd x :: r else if k < s.size then repS x (k - 1) s :: r else s :: repL x (k - s.size) r
end
inductive Deed where
 | cmd (c : Cmd) | op | cl
def Deed.d : Deed -> D
 | .cmd c => c.d
 | .op => .tup [.str "open"]
 | .cl => .tup [.str "close"]
abbrev Pa := Int × Bool × List Stt × List Stt
inductive Task where
 | lst (l : List Stt) (i : Nat) | close | again (b : List Stt) | call (p : Nat) (st : Option Pa)
structure Mc where
 bs : List (List Stt)
 bits : List Int
 taken : Nat
 deeds : List Deed
 stk : List Task
 act : List (List Nat)
 ended : Int
def Hi {α : Type} (f : α -> D) (l : List α) : List D := l.reverse.map f
theorem xH {α : Type} {f : α -> D} {x : α} {l : List α} : Hi f (x :: l) = Hi f l ++ [f x] := by simp [Hi]
theorem Hh {α : Type} {f : α -> D} {l : List α} : (Hi f l).length = l.length := by simp [Hi]
theorem szN {n : Nat} (h : n < 10000000) : n < sizeLine := Nat.lt_trans h (by decide)
def Hq (i : Int) : Er := ⟨"NoRun", ["index"], [.int i]⟩
inductive SR where
 | ok (m : Mc) | err (i : Int) (m : Mc) | no
def Bn (n : Nat) (i : Int) : Prop := i.natAbs < 2 ^ n
structure Pen where
 x : Int
 y : Int
 u : Int
 v : Int
 p : Int
 q : Int
def Pen.ns (z : Pen) : List Int := [z.x, z.y, z.u, z.v, z.p, z.q]
abbrev Pen.ds (z : Pen) : List D := [.int z.x, .int z.y, .int z.u, .int z.v, .int z.p, .int z.q]
abbrev Pen.d (z : Pen) : D := .tup z.ds
def Ci : Nat -> Int × Int -> Int × Int
 | 0, w => w
 | n + 1, w => Ci n (-w.2, w.1)
def Cmd.run : Cmd -> Pen -> Pen
 | .go k, z => { z with x := z.x + k * z.u, y := z.y + k * z.v }
 | .turn k, z => { z with u := (Ci k.toNat (z.u, z.v)).1, v := (Ci k.toNat (z.u, z.v)).2 }
 | .mirror, z => { z with v := -z.v }
 | .scale k, z => { z with u := k * z.u, v := k * z.v }
 | .aim a b, z => { z with u := a, v := b }
 | .place a b, z => { z with x := a, y := b }
 | .mark, z => { z with p := z.x, q := z.y }
 | .ret, z => { z with x := z.p, y := z.q }
 | .exch, z => ⟨z.p, z.q, z.u, z.v, z.x, z.y⟩
theorem mul9 {k j : Int} (h : -9 <= k /\ k <= 9) : IntMulOk k j := mulL (by omega) (by omega)
def dot (f : Nat -> Int) : Nat -> Int
 | 0 => 0
 | n + 1 => dot f n + f n
theorem mulB {a b : Nat} {i j : Int} (ha : Bn a i) (hb : Bn b j) (h0 : 0 < a) (h1 : 0 < b) (h : a + b <= 1000000) : IntMulOk i j := (wide_mul ha hb h0 h1 h).ok
theorem Bn.mul {a b : Nat} {i j : Int} (ha : Bn a i) (hb : Bn b j) : Bn (a + b) (i * j) := wide_lt ha hb
theorem Bn.zero {a : Nat} : Bn a 0 := by
 show 0 < 2 ^ a
 exact Nat.two_pow_pos a
theorem Bn.dot {a : Nat} {f : Nat -> Int} : ∀ {n : Nat}, (∀ j, j < n -> Bn a (f j)) -> (dot f n).natAbs <= n * 2 ^ a
 | 0, _ => by simp [PH.dot]
 | n + 1, h => by
  have h1 := Bn.dot (n := n) fun j hj => h j (by omega)
  have h2 : (f n).natAbs < 2 ^ a := h n (by omega)
  have e : PH.dot f (n + 1) = PH.dot f n + f n := rfl;rw [e, Nat.succ_mul];omega
theorem Bn.dot7 {a : Nat} {f : Nat -> Int} (h : ∀ j, j < 7 -> Bn a (f j)) : Bn (a + 3) (PH.dot f 7) := by
 have := Bn.dot h;have p : 0 < 2 ^ a := Nat.two_pow_pos a
 show (PH.dot f 7).natAbs < 2 ^ (a + 3)
 rw [Nat.pow_add];omega
def gt (M : List Int) (i : Nat) : Int := M.getD i 0
theorem DI {M : List Int} {a n : Nat} (h : ∀ x ∈ M, Bn a x) : Bn a (gt M n) := by
 by_cases hn : n < M.length
 ·have e : gt M n = M[n] := by
   unfold gt;rw [bE, cU hn];rfl
  rw [e];exact h _ (jJ hn)
 ·have e : gt M n = 0 := by
   unfold gt;rw [bE, Ic (by omega)]
   rfl
  rw [e];exact Bn.zero
theorem FV {M : List Int} {n : Nat} (h : M.length = n) : (aV n).map (gt M) = M := by
 apply List.ext_getElem
 ·simp [h]
 ·intro i h1 h2
  rw [List.getElem_map, List.getElem_range];unfold gt;rw [bE, cU h2];rfl
def imgAt (M : List Int) (z : Pen) (i : Nat) : Int := dot (fun j => gt M (7 * i + j) * gt ((1 : Int) :: z.ns) j) 7
theorem MC : ∀ n : Nat, dot (fun _ => 0) n = 0
 | 0 => rfl
 | n + 1 => by
  show dot (fun _ => 0) n + 0 = 0
  rw [MC n]; rfl
def delta (i j : Nat) : Int := if i = j then 1 else 0
@[irreducible] def mx (f : Nat -> Nat -> Int) : List Int := (aV 49).map fun t => f (t / 7) (t % 7)
theorem Bp (f : Nat -> Nat -> Int) : (mx f).length = 49 := by
 unfold mx;simp
theorem LM {f : Nat -> Int} {n t : Nat} (h : t < n) : gt ((aV n).map f) t = f t := by
 unfold gt;rw [bE, cC, zF h];rfl
theorem P9 {f : Nat -> Nat -> Int} {i j : Nat} (hi : i < 7) (hj : j < 7) : gt (mx f) (7 * i + j) = f i j := by
 unfold mx;rw [LM (by omega), show (7 * i + j) / 7 = i by omega, show (7 * i + j) % 7 = j by omega]
theorem Pz {f g : Nat -> Nat -> Int} (h : ∀ i j, i < 7 -> j < 7 -> f i j = g i j) : mx f = mx g := by
 unfold mx
 apply eW
 intro t ht;have := eI.mp ht;exact h _ _ (by omega) (by omega)
theorem Oq {M : List Int} (h : M.length = 49) : mx (fun i j => gt M (7 * i + j)) = M := by
 rw [<- FV h];unfold mx
 apply eW
 intro t ht;have ht := eI.mp ht;rw [FV h]
 show gt M (7 * (t / 7) + t % 7) = gt M t
 rw [show 7 * (t / 7) + t % 7 = t by omega]
theorem mx_eq {M N : List Int} (hM : M.length = 49) (hN : N.length = 49) (h : ∀ i j, i < 7 -> j < 7 -> gt M (7 * i + j) = gt N (7 * i + j)) : M = N := by
 rw [<- Oq hM, <- Oq hN];exact Pz h
theorem Ks {f : Nat -> Nat -> Int} {a : Nat} (h : ∀ i j, i < 7 -> j < 7 -> Bn a (f i j)) : ∀ x ∈ mx f, Bn a x := fun x hx => by
 unfold mx at hx;obtain ⟨t, ht, rfl⟩ := uR.mp hx;have := eI.mp ht;exact h _ _ (by omega) (by omega)
def rows (f : Nat -> Nat -> Int) (n : Nat) : List Int := (aV n).flatMap fun i => (aV 7).map (f i)
theorem zT (f : Nat -> Nat -> Int) (n : Nat) : rows f (n + 1) = rows f n ++ (aV 7).map (f n) := by
 unfold rows;rw [show aV (n + 1) = aV n ++ [n] from List.range_succ, List.flatMap_append]
 simp only [List.flatMap_cons, List.flatMap_nil, cZ]
theorem FQ (f : Nat -> Nat -> Int) : ∀ n, (rows f n).length = 7 * n
 | 0 => rfl
 | n + 1 => by rw [zT, cK, FQ f n]; simp; omega
theorem FP (f : Nat -> Nat -> Int) : ∀ n, rows f n = (aV (7 * n)).map fun t => f (t / 7) (t % 7)
 | 0 => rfl
 | n + 1 => by
  rw [zT, FP f n, show 7 * (n + 1) = 7 * n + 7 by omega, List.range_add, eO, fE]
  congr 1
  apply eW
  intro j hj;have := eI.mp hj
  show f n j = f ((7 * n + j) / 7) ((7 * n + j) % 7)
  rw [show (7 * n + j) / 7 = n by omega, show (7 * n + j) % 7 = j by omega]
theorem Hj (f : Nat -> Nat -> Int) : rows f 7 = mx f := by
 unfold mx;exact FP f 7
def yN (A B : List Int) : List Int := mx fun i j => dot (fun k => gt B (7 * i + k) * gt A (7 * k + j)) 7
theorem Dg (A B : List Int) : (yN A B).length = 49 := Bp _
theorem G9 {A B : List Int} {a b : Nat} (ha : ∀ x ∈ A, Bn a x) (hb : ∀ x ∈ B, Bn b x) : ∀ x ∈ yN A B, Bn (a + b + 3) x := Ks fun i j _ _ => Bn.dot7 fun k _ => by
 rw [Nat.add_comm a b];exact Bn.mul (DI hb) (DI ha)
@[irreducible] def unitM : List Int := mx delta
theorem wZ : unitM.length = 49 := by
 unfold unitM;exact Bp _
theorem Ii : ((aV 49).map fun t : Nat => (if decide ((0 + (t : Int)) % 8 = 0) = true then (1 : Int) else 0)) = unitM := by
 unfold unitM mx
 decide
def zeroP : Pen := ⟨0, 0, 0, 0, 0, 0⟩
def pD (j : Nat) : Pen := ⟨delta 0 j, delta 1 j, delta 2 j, delta 3 j, delta 4 j, delta 5 j⟩
def vc (z : Pen) (i : Nat) : Int := gt ((1 : Int) :: z.ns) i
def lQ (r : Pen -> Pen) (i j : Nat) : Int := if j = 0 then vc (r zeroP) i else vc (r (pD (j - 1))) i - vc (r zeroP) i
@[irreducible] def probeM (r : Pen -> Pen) : List Int := mx (lQ r)
theorem Gb (r : Pen -> Pen) : (probeM r).length = 49 := by
 unfold probeM;exact Bp _
def PY (r : Pen -> Pen) (M : List Int) : Prop := M.length = 49 /\ ∀ z i, i < 7 -> vc (r z) i = imgAt M z i
theorem Jx {j : Nat} (h : j < 7) : j = 0 \/ j = 1 \/ j = 2 \/ j = 3 \/ j = 4 \/ j = 5 \/ j = 6 := by omega
def Cmd.mat (m : Cmd) : List Int := probeM m.run
theorem Cmd.mat_bd {m : Cmd} (ok : m.Ok) : ∀ x ∈ m.mat, Bn 5 x := by
 unfold Cmd.mat probeM;refine Ks fun i j hi hj => ?_
 cases m with
 | turn k =>
  have hk : k = 1 \/ k = 2 \/ k = 3 := by have := ok.1; have := ok.2; omega
  rcases hk with e | e | e <;> subst e <;> rcases Jx hi with h | h | h | h | h | h | h <;> subst h <;> rcases Jx hj with h | h | h | h | h | h | h <;> subst h <;> simp [Bn, lQ, vc, gt, Cmd.run, zeroP, pD, delta, Pen.ns, Ci]
 | go k =>
  have := ok.1; have := ok.2;rcases Jx hi with h | h | h | h | h | h | h <;> subst h <;> rcases Jx hj with h | h | h | h | h | h | h <;> subst h <;> simp [Bn, lQ, vc, gt, Cmd.run, zeroP, pD, delta, Pen.ns] <;> omega
 | scale k =>
  have := ok.1; have := ok.2;rcases Jx hi with h | h | h | h | h | h | h <;> subst h <;> rcases Jx hj with h | h | h | h | h | h | h <;> subst h <;> simp [Bn, lQ, vc, gt, Cmd.run, zeroP, pD, delta, Pen.ns] <;> omega
 | aim a b =>
  have := ok.1.1; have := ok.1.2; have := ok.2.1; have := ok.2.2;rcases Jx hi with h | h | h | h | h | h | h <;> subst h <;> rcases Jx hj with h | h | h | h | h | h | h <;> subst h <;> simp [Bn, lQ, vc, gt, Cmd.run, zeroP, pD, delta, Pen.ns] <;> omega
 | place a b =>
  have := ok.1.1; have := ok.1.2; have := ok.2.1; have := ok.2.2;rcases Jx hi with h | h | h | h | h | h | h <;> subst h <;> rcases Jx hj with h | h | h | h | h | h | h <;> subst h <;> simp [Bn, lQ, vc, gt, Cmd.run, zeroP, pD, delta, Pen.ns] <;> omega
 | _ => rcases Jx hi with h | h | h | h | h | h | h <;> subst h <;> rcases Jx hj with h | h | h | h | h | h | h <;> subst h <;> simp [Bn, lQ, vc, gt, Cmd.run, zeroP, pD, delta, Pen.ns]
theorem nY {i j k l m n : Nat} {a b c d e f : D} {ρ : Ev} {S : aN} : LD (.tp [i, j, k, l, m, n]) ρ (.dat (.tup [a, b, c, d, e, f])) S = .next ((((((ρ.set i (some (.dat a))).set j (some (.dat b))).set k (some (.dat c))).set l (some (.dat d))).set m (some (.dat e))).set n (some (.dat f))) S := rfl
theorem Fj {z : Pen} {S : aN} : mT [.dat z.d] S = .ok (.dat (.bl true)) S := by
 rw [MW];unfold rM;simp! [Ao, nJ, qR, dJ, sz, bB, dQ, cE, bM];rfl
theorem Cg {S : aN} {a0 a1 a2 a3 a6 a7 a8 : Option Vl} : ∀ (n : Nat) (lo : Int) (w : Int × Int), loop (.nm 9) kJ (gI lo n) [a0, a1, a2, a3, some (.dat (.int w.1)), some (.dat (.int w.2)), a6, a7, a8, none] S = .next [a0, a1, a2, a3, some (.dat (.int (Ci n w).1)), some (.dat (.int (Ci n w).2)), a6, a7, a8, none] S
 | 0, lo, w => rfl
 | n + 1, lo, w => by
  have := Cg (S := S) (a0 := a0) (a1 := a1) (a2 := a2) (a3 := a3) (a6 := a6) (a7 := a7) (a8 := a8) n (lo + 1) (-w.2, w.1);rw [tZ, loop];simp only [qR, kB];rw [kJ];simp! [if_true];rw [<- kJ];exact this
theorem pL {c : Cmd} {z : Pen} {S : aN} (h : c.Ok) : jS [.dat z.d, .dat c.d] S = .ok (.dat (c.run z).d) S := by
 rw [HP];unfold sP;cases c with
 | go k =>
  simp! [nY, Pen.d, Pen.ds, Cmd.d, eD, qK, sM (mul9 h)];rfl
 | turn k =>
  obtain ⟨h1, h2⟩ := h;simp! [nY, Pen.d, Pen.ds, Cmd.d, eD, qK, jO (show -(2 ^ 62) <= k by omega) (show k < 2 ^ 62 by omega), Cg (k.toNat) 0 (z.u, z.v)]
  rfl
 | mirror => simp! [nY, Pen.d, Pen.ds, Cmd.d, eD]; rfl
 | scale k =>
  simp! [nY, Pen.d, Pen.ds, Cmd.d, eD, qK, sM (mul9 (show -9 <= k /\ k <= 9 by have := h.1; have := h.2; omega))]
  rfl
 | aim a b => simp! [nY, Pen.d, Pen.ds, Cmd.d, eD, qK, CV]; rfl
 | place a b => simp! [nY, Pen.d, Pen.ds, Cmd.d, eD, qK, CV]; rfl
 | mark => simp! [nY, Pen.d, Pen.ds, Cmd.d, eD]; rfl
 | ret => simp! [nY, Pen.d, Pen.ds, Cmd.d, eD]; rfl
 | exch => simp! [nY, Pen.d, Pen.ds, Cmd.d, eD]; rfl
def lI (S0 : aN) (xs ys : List D) : aN := S0 ++ [.lst xs, .lst ys]
section
variable {S0 : aN} {xs ys : List D}
theorem K9 : (lI S0 xs ys)[S0.length]? = some (.lst xs) := by simp [lI]
theorem K8 : (lI S0 xs ys)[S0.length + 1]? = some (.lst ys) := by simp [lI]
theorem Pc {c : List D} : (lI S0 xs ys).set S0.length (.lst c) = lI S0 c ys := by simp [lI]
theorem K4 {c : List D} : (lI S0 xs ys).set (S0.length + 1) (.lst c) = lI S0 xs c := by
 rw [lI, nD _ _ (by omega), show S0.length + 1 - S0.length = 1 by omega]; rfl
theorem K3 {c : Cell} : ((lI S0 xs ys).set S0.length c).take S0.length = S0 := by simp [lI]
theorem K7 {ρ : Ev} {b : FE} {d : D} (F : xs.length < 5000000) (hb : b ρ (lI S0 xs ys) = .ok (.dat d) (lI S0 xs ys)) : Gv b ρ (.cel S0.length) (lI S0 xs ys) = .ok (.dat .non) (lI S0 (xs ++ [d]) ys) := by
 rw [A2 K9, hb, iX, A3 K9 (szN (by omega)), Pc]
theorem K6 {ρ : Ev} {b : FE} {d : D} (F : ys.length < 5000000) (hb : b ρ (lI S0 xs ys) = .ok (.dat d) (lI S0 xs ys)) : Gv b ρ (.cel (S0.length + 1)) (lI S0 xs ys) = .ok (.dat .non) (lI S0 xs (ys ++ [d])) := by
 rw [A2 K8, hb, iX, A3 K8 (szN (by omega)), K4]
theorem K5 {d : D} : A8 (.cel (S0.length + 1)) (lI S0 xs (ys ++ [d])) = .ok (.dat d) (lI S0 xs ys) := by
 simp only [A8, K8];rw [show (ys ++ [d])[(ys ++ [d]).length - 1]? = some d by simp]
 dsimp only;rw [Jv, K4]
theorem Mf : S0 ++ [.lst xs] ++ [.lst ys] = lI S0 xs ys := by simp [lI]
end
theorem RR {a b c d e f : D} : cutD [a, b, c, d, e, f] none (some 4) = [a, b, c, d] := by
 unfold cutD;rw [HT.sIx_none, show ((4 : Int)) = ((4 : Nat) : Int) from rfl, HT.sIx_nat]
 simp
theorem cut_4 {a b c d e f : D} : cutD [a, b, c, d, e, f] (some 4) none = [e, f] := by
 unfold cutD;rw [HT.sIx_none, show ((4 : Int)) = ((4 : Nat) : Int) from rfl, HT.sIx_nat]
 simp
structure Ps where
 pens : List Pen
 z : Pen
 stk : List Pen
def Ox (t z : Pen) : Pen := ⟨t.x, t.y, t.u, t.v, z.p, z.q⟩
def MD : Deed -> Ps -> Option Ps
 | .cmd c, s => some ⟨s.pens ++ [c.run s.z], c.run s.z, s.stk⟩
 | .op, s => some ⟨s.pens, s.z, s.z :: s.stk⟩
 | .cl, s => match s.stk with
  | [] => none
  | t :: k => some ⟨s.pens, Ox t s.z, k⟩
def AA : List Deed -> Ps -> Option Ps
 | [], s => some s
 | d :: r, s => match MD d s with
  | none => none
  | some s' => AA r s'
def Deed.Ok : Deed -> Prop
 | .cmd c => c.Ok
 | _ => True
theorem IQ {c : Cmd} {S : aN} : bU (.dat c.d) (.dat (.int 0)) S = .ok (.dat (.str c.word)) S := by
 cases c <;> exact eD
theorem As {c : Cmd} {w : Str} (h : w = "open" \/ w = "close" \/ w = "hold" \/ w = "shut") : decide (c.word = w) = false := by
 rcases h with rfl | rfl | rfl | rfl <;> cases c <;> rfl
def t4 (z : Pen) : D := .tup [.int z.x, .int z.y, .int z.u, .int z.v]
theorem Aw {S0 : aN} {a0 : Option Vl} : ∀ (ds : List Deed) (s s' : Ps), (∀ d ∈ ds, d.Ok) -> AA ds s = some s' -> s.pens.length + s.stk.length + ds.length <= 1000000 ->
  loop (.nm 4) eF (ds.map Deed.d) [a0, some (.dat s.z.d), some (.cel S0.length), some (.cel (S0.length + 1)), none] (lI S0 (s.pens.map Pen.d) (Hi t4 s.stk)) = .next [a0, some (.dat s'.z.d), some (.cel S0.length), some (.cel (S0.length + 1)), none] (lI S0 (s'.pens.map Pen.d) (Hi t4 s'.stk))
 | [], s, s', _, h, _ => by cases h; rfl
 | d :: r, s, s', ok, h, hl => by
  rw [bB] at hl;have okd := ok d (bD ..);rw [bA, loop];simp only [qR, kB];rw [eF];cases d with
  | cmd c =>
   have ih := Aw (S0 := S0) (a0 := a0) r ⟨s.pens ++ [c.run s.z], c.run s.z, s.stk⟩ s' (fun d hd => ok d (aU _ hd)) h (by simp; omega)
   simp! [Deed.d, IQ, As (c := c) (w := "open") (.inl rfl), As (c := c) (w := "close") (.inr (.inl rfl)), pL (show c.Ok from okd), K7 (d := (c.run s.z).d) (S0 := S0) (xs := s.pens.map Pen.d) (ys := Hi t4 s.stk) (by rw [bC]; omega)]
   rw [<- eF, <- ih];simp only [eO, bA, cJ]
  | op =>
   have ih := Aw (S0 := S0) (a0 := a0) r ⟨s.pens, s.z, s.z :: s.stk⟩ s' (fun d hd => ok d (aU _ hd)) h (by simp; omega)
   have hb : ∀ {x : Option Vl}, Az false (aC 1) tL (fJ (mC (.int 4))) [a0, some (.dat s.z.d), some (.cel S0.length), some (.cel (S0.length + 1)), x] (lI S0 (s.pens.map Pen.d) (Hi t4 s.stk)) = .ok (.dat (t4 s.z)) (lI S0 (s.pens.map Pen.d) (Hi t4 s.stk)) := by
    intro x;simp! [Pen.d, Pen.ds, RR];rfl
   simp! [Deed.d, eD, K6 (by rw [Hh]; omega) hb]
   rw [<- eF, <- ih];simp only [xH, t4]
  | cl =>
   cases hk : s.stk with
   | nil => simp [AA, MD, hk] at h
   | cons t k =>
    simp only [AA, MD, hk] at h;have ih := Aw (S0 := S0) (a0 := a0) r ⟨s.pens, Ox t s.z, k⟩ s' (fun d hd => ok d (aU _ hd)) h (by simp; rw [hk] at hl; simp at hl; omega)
    rw [xH];simp! [Deed.d, eD, K5, cut_4, t4, Lx, bB, dQ, sz, jK, kI];rw [<- eF, <- ih];rfl
theorem pb_ok {S : aN} {ds : List Deed} {z : Pen} {s' : Ps} (ls : LS S) (ok : ∀ d ∈ ds, d.Ok) (h : AA ds ⟨[], z, []⟩ = some s') (hl : ds.length <= 900000) :
  jH [.dat (.lst (ds.map Deed.d)), .dat z.d] S = .ok (.dat (.tup [.lst (s'.pens.map Pen.d), s'.z.d])) S := by
 have lp := Aw (S0 := S) (a0 := some (.dat (.lst (ds.map Deed.d)))) ds ⟨[], z, []⟩ s' ok h (by simp; omega)
 have lsb : (S.all fun c => c.below S.length) = true := bI.mpr fun c hc => ls c hc _
 simp only [cJ, Hi, List.reverse_nil] at lp;rw [Cb];unfold mH;simp! [cK, bB, dQ, qA, Mf, lp, Lk (K9 (S0 := S))];dsimp only [bS, trunc];rw [K3, show (Vl.below S.length (Vl.dat (D.tup [D.lst (s'.pens.map Pen.d), s'.z.d])) && S.all fun c => c.below S.length) = true by rw [lsb]; rfl, if_pos rfl]
abbrev mD (M : List Int) : D := .lst (M.map D.int)
theorem LN {M : List Int} {i : Nat} (h : i < M.length) : (M.map D.int)[i]? = some (.int (gt M i)) := by
 rw [cC, cU h]
 show some (D.int M[i]) = some (D.int (M.getD i 0))
 rw [bE, cU h];rfl
theorem ixM {M : List Int} {t : Int} {n : Nat} {S : aN} (e : t = (n : Int)) (h : n < M.length) : bU (.dat (mD M)) (.dat (.int t)) S = .ok (.dat (.int (gt M n))) S := by
 rw [e];exact vP (atI_nat (LN h))
theorem OU {M : List Int} {lo hi : Option Int} : cutD (M.map D.int) lo hi = ((M.drop (HT.sIx M.length 0 lo)).take (HT.sIx M.length M.length hi - HT.sIx M.length 0 lo)).map D.int := by
 unfold cutD;rw [bC, <- List.map_drop, <- List.map_take]
theorem cut7 {M : List Int} {a b : Int} {k : Nat} (h : 7 * k + 7 <= M.length) (ha : a = ((7 * k : Nat) : Int)) (hb : b = ((7 * k + 7 : Nat) : Int)) : cutD (M.map D.int) (some a) (some b) = ((aV 7).map fun j => gt M (7 * k + j)).map D.int := by
 subst ha hb;rw [OU, HT.sIx_nat, HT.sIx_nat, Nat.min_eq_left (by omega), Nat.min_eq_left (by omega)]
 rw [show (M.drop (7 * k)).take (7 * k + 7 - 7 * k) = (aV 7).map fun j => gt M (7 * k + j) from ?_]
 apply List.ext_getElem
 ·simp; omega
 ·intro i h1 h2
  simp only [bC, List.length_range] at h2;rw [List.getElem_take, List.getElem_drop, List.getElem_map, List.getElem_range];unfold gt;rw [bE, cU (by omega)]
  rfl
theorem Hb {f g : Nat -> D} : ∀ {l : List Nat}, Ig (l.map f) (l.map g) = l.map fun j => .tup [f j, g j]
 | [] => rfl
 | x :: r => by rw [bA, bA, Ig, Hb]; rfl
theorem g_zip {a b : FE} {ρ : Ev} {S : aN} {xs ys : List D} (ha : a ρ S = .ok (.dat (.lst xs)) S) (hb : b ρ S = .ok (.dat (.lst ys)) S) : NK a b ρ S = .ok (Ig xs ys) S := by
 unfold NK;rw [ha, iX, hb, iX]
theorem AQ {S : aN} : sC [] S = .ok (.dat (mD unitM)) S := by
 rw [HN];unfold wQ yA;simp! [jO (show -(2 ^ 62) <= (49 : Int) by decide) (show (49 : Int) < 2 ^ 62 by decide)]
 rw [show gI 0 49 = (aV 49).map (fun k : Nat => D.int (0 + (k : Int))) from rfl]
 rw [fV (g := fun k : Nat => D.int (if decide ((0 + (k : Int)) % 8 = 0) = true then 1 else 0)) (sz (by decide)) fun k _ => ⟨_, rfl, ?_⟩]
 ·dsimp only [newL, bS]
  rw [show (aV 49).map (fun k : Nat => D.int (if decide ((0 + (k : Int)) % 8 = 0) = true then 1 else 0)) = ((aV 49).map (fun k : Nat => (if decide ((0 + (k : Int)) % 8 = 0) = true then (1 : Int) else 0))).map D.int by rw [fE]; rfl, Ii]
  rfl
 ·simp! [nK (show (0 : Int) < 8 by decide)]
def FU (A B : List Int) (i k : Nat) : List Int := (aV 7).map fun j => dot (fun l => gt B (7 * i + l) * gt A (7 * l + j)) k
theorem KW {A B : List Int} {i : Nat} : FU A B i 0 = [0, 0, 0, 0, 0, 0, 0] := rfl
theorem IP {S : aN} {A B : List Int} {a b i : Nat} {a2 : Option Vl} (hA : A.length = 49) (hB : B.length = 49) (ba : ∀ x ∈ A, Bn a x) (bb : ∀ x ∈ B, Bn b x) (a0 : 0 < a) (b0 : 0 < b) (hab : a + b <= 1000000) (hi : i < 7) : ∀ (n k : Nat), n + k = 7 ->
  loop (.nm 5) kK (gI (k : Int) n) [some (.dat (mD A)), some (.dat (mD B)), a2, some (.dat (.int (i : Int))), some (.dat (mD (FU A B i k))), none, none, none, none] S = .next [some (.dat (mD A)), some (.dat (mD B)), a2, some (.dat (.int (i : Int))), some (.dat (mD (FU A B i 7))), none, none, none, none] S
 | 0, k, h => by
  obtain rfl : k = 7 := by omega
  rfl
 | n + 1, k, h => by
  have ih := IP (S := S) (a2 := a2) hA hB ba bb a0 b0 hab hi n (k + 1) (by omega)
  rw [tZ, loop];simp only [qR, kB];rw [kK];have e1 : FU A B i (k + 1) = (aV 7).map fun j => dot (fun l => gt B (7 * i + l) * gt A (7 * l + j)) k + gt B (7 * i + k) * gt A (7 * k + j) := rfl
  have m7 : ∀ {x : Nat}, IntMulOk (7 : Int) (x : Int) := mulL (by decide) (by decide)
  have ix := ixM (M := B) (t := 7 * (i : Int) + (k : Int)) (n := 7 * i + k) (S := S) (by omega) (by omega)
  simp! [sM m7, ix]
  by_cases hc : gt B (7 * i + k) = 0
  ·simp! [hc]
   rw [<- kK, show ((k : Int) + 1) = ((k + 1 : Nat) : Int) by omega, <- ih, e1]
   simp only [hc, Int.zero_mul, Int.add_zero];rfl
  ·have hz : (NK (aC 4) (Az false (aC 0) (fJ (aS qM (mC (.int 7)) (aC 5))) (fJ (aS (cL false) (aS qM (mC (.int 7)) (aC 5)) (mC (.int 7)))))) [some (.dat (mD A)), some (.dat (mD B)), a2, some (.dat (.int (i : Int))), some (.dat (mD (FU A B i k))), some (.dat (.int (k : Int))), some (.dat (.int (gt B (7 * i + k)))), none, none] S = .ok ((aV 7).map fun j => .tup [.int (dot (fun l => gt B (7 * i + l) * gt A (7 * l + j)) k), .int (gt A (7 * k + j))]) S := by
    rw [g_zip (xs := (FU A B i k).map D.int) (ys := ((aV 7).map fun j => gt A (7 * k + j)).map D.int) (by simp! [if_true]) (by simp! [sM m7, cut7 (M := A) (a := 7 * (k : Int)) (b := 7 * (k : Int) + 7) (k := k) (by omega) (by omega) (by omega)])]
    rw [FU, fE, fE, Hb];rfl
   simp! [decide_eq_false hc, hz];rw [fV (g := fun j : Nat => D.int (dot (fun l => gt B (7 * i + l) * gt A (7 * l + j)) k + gt B (7 * i + k) * gt A (7 * k + j))) (sz (by decide)) fun j hj => ⟨_, rfl, ?_⟩]
   ·simp! [if_true]
    rw [<- kK, show ((k : Int) + 1) = ((k + 1 : Nat) : Int) by omega, <- ih, e1]
    simp only [mD, fE];rfl
   ·simp! [kB, sM (mulB (DI bb) (DI ba) b0 a0 (by omega))]
theorem lst7 {cl : Bool} {S : aN} {a b c d e f g : D} : A0 cl [.dat a, .dat b, .dat c, .dat d, .dat e, .dat f, .dat g] S = newL cl [a, b, c, d, e, f, g] S := rfl
theorem G8 {S : aN} {A B : List Int} {a b : Nat} (hA : A.length = 49) (hB : B.length = 49) (ba : ∀ x ∈ A, Bn a x) (bb : ∀ x ∈ B, Bn b x) (a0 : 0 < a) (b0 : 0 < b) (hab : a + b <= 1000000) : ∀ (n i : Nat), n + i = 7 ->
  loop (.nm 3) nQ (gI (i : Int) n) [some (.dat (mD A)), some (.dat (mD B)), some (.dat (mD (rows (fun i j => dot (fun k => gt B (7 * i + k) * gt A (7 * k + j)) 7) i))), none, none, none, none, none, none] S = .next [some (.dat (mD A)), some (.dat (mD B)), some (.dat (mD (yN A B))), none, none, none, none, none, none] S
 | 0, i, h => by
  obtain rfl : i = 7 := by omega
  rw [Hj];rfl
 | n + 1, i, h => by
  have ih := G8 (S := S) hA hB ba bb a0 b0 hab n (i + 1) (by omega)
  have inn := IP (S := S) (i := i) (a2 := some (.dat (mD (rows (fun i j => dot (fun k => gt B (7 * i + k) * gt A (7 * k + j)) 7) i)))) hA hB ba bb a0 b0 hab (by omega) 7 0 rfl
  rw [KW, mE] at inn;simp only [mD, bA, cJ] at inn;rw [tZ, loop];simp only [qR, kB];rw [nQ];simp! [lst7, jO (show -(2 ^ 62) <= (7 : Int) by decide) (show (7 : Int) < 2 ^ 62 by decide), inn, iJ, bC, FQ, FU, List.length_range, sz (show 7 * i + 7 <= 1000 by omega)]
  rw [<- nQ, show ((i : Int) + 1) = ((i + 1 : Nat) : Int) by omega, <- ih, zT]
  simp only [mD, eO]
theorem AY {S : aN} {A B : List Int} {a b : Nat} (hA : A.length = 49) (hB : B.length = 49) (ba : ∀ x ∈ A, Bn a x) (bb : ∀ x ∈ B, Bn b x) (a0 : 0 < a) (b0 : 0 < b) (hab : a + b <= 1000000) :
  sD [.dat (mD A), .dat (mD B)] S = .ok (.dat (mD (yN A B))) S := by
 have lp := G8 (S := S) hA hB ba bb a0 b0 hab 7 0 rfl;rw [show rows (fun i j => dot (fun k => gt B (7 * i + k) * gt A (7 * k + j)) 7) 0 = [] from rfl, mE] at lp
 rw [HQ];unfold wR;simp! [jO (show -(2 ^ 62) <= (7 : Int) by decide) (show (7 : Int) < 2 ^ 62 by decide), show D.lst [] = mD [] from rfl, lp]
 rfl
def AN (M : List Int) : List Int := mx fun i j => if i = 0 \/ 4 < i then gt M (7 * i + j) else gt M 0 * delta i j
theorem DE (M : List Int) : (AN M).length = 49 := Bp _
def Hx (M : List Int) : List Int := M.take 7 ++ ((unitM.drop 7).take 28).map (gt M 0 * ·) ++ M.drop 35
theorem DJ {A B : List Int} {t : Nat} : gt (A ++ B) t = if t < A.length then gt A t else gt B (t - A.length) := by
 unfold gt;rw [bE, bE, bE, List.getElem?_append]
 by_cases h : t < A.length
 ·rw [if_pos h, if_pos h]
 ·rw [if_neg h, if_neg h]
theorem IC {A : List Int} {n t : Nat} (h : t < n) : gt (A.take n) t = gt A t := by
 unfold gt;rw [bE, bE, fK, if_pos h]
theorem ID {A : List Int} {n t : Nat} : gt (A.drop n) t = gt A (n + t) := by
 unfold gt;rw [bE, bE, List.getElem?_drop]
theorem Qa {A : List Int} {c : Int} {t : Nat} : gt (A.map (c * ·)) t = c * gt A t := by
 unfold gt;rw [bE, bE, cC];cases A[t]? with
 | none => simp
 | some x => rfl
theorem L0 {M : List Int} (h : M.length = 49) : Hx M = AN M := by
 have l1 : (M.take 7).length = 7 := by rw [fG, h]; rfl
 have l2 : (((unitM.drop 7).take 28).map (gt M 0 * ·)).length = 28 := by rw [bC, fG, jL, wZ]; rfl
 refine mx_eq ?_ (DE M) fun i j hi hj => ?_
 ·unfold Hx
  rw [cK, cK, l1, l2, jL, h]
 ·unfold Hx AN
  rw [P9 hi hj, DJ, cK, l1, l2, DJ, l1]
  by_cases h0 : i = 0
  ·rw [if_pos (by omega), if_pos (by omega), if_pos (.inl h0), IC (by omega)]
  ·by_cases h4 : 4 < i
   ·rw [if_neg (by omega), if_pos (.inr h4), ID, show 35 + (7 * i + j - (7 + 28)) = 7 * i + j by omega]
   ·rw [if_pos (by omega), if_neg (by omega), if_neg (by omega), Qa, IC (by omega), ID, show 7 + (7 * i + j - 7) = 7 * i + j by omega]
    unfold unitM;rw [P9 hi hj]
theorem BF {x : Int} (h : x ∈ unitM) : x = 0 \/ x = 1 := by
 unfold unitM mx at h;obtain ⟨t, _, rfl⟩ := uR.mp h;unfold delta
 by_cases e : t / 7 = t % 7
 ·right; rw [if_pos e]
 ·left; rw [if_neg e]
theorem NQ {S : aN} {M : List Int} (h : M.length = 49) : qJ [.dat (mD M)] S = .ok (.dat (mD (AN M))) S := by
 rw [Cc];unfold qO;have i0 := ixM (M := M) (t := 0) (n := 0) (S := S) rfl (by omega)
 have c1 : cutD (unitM.map D.int) (some 7) (some 35) = ((unitM.drop 7).take 28).map D.int := by
  rw [OU, show ((7 : Int)) = ((7 : Nat) : Int) from rfl, show ((35 : Int)) = ((35 : Nat) : Int) from rfl, HT.sIx_nat, HT.sIx_nat, wZ]
  rfl
 have c2 : cutD (M.map D.int) none (some 7) = (M.take 7).map D.int := by
  rw [OU, HT.sIx_none, show ((7 : Int)) = ((7 : Nat) : Int) from rfl, HT.sIx_nat, h]
  rfl
 have c3 : cutD (M.map D.int) (some 35) none = (M.drop 35).map D.int := by
  rw [OU, HT.sIx_none, show ((35 : Int)) = ((35 : Nat) : Int) from rfl, HT.sIx_nat, h]
  rw [show min 35 49 = 35 from rfl, List.take_of_length_le (by simp; omega)]
 simp! [i0, AQ, c1];rw [fV (g := fun x : Int => D.int (gt M 0 * x)) (sz (by simp; omega)) fun x hx => ⟨_, rfl, ?_⟩]
 ·rw [show (List.map (fun x : Int => D.int (gt M 0 * x)) ((unitM.drop 7).take 28)) = (((unitM.drop 7).take 28).map (gt M 0 * ·)).map D.int by rw [fE]; rfl]
  have l1 : (M.take 7).length = 7 := by rw [fG, h]; rfl
  have l2 : (((unitM.drop 7).take 28).map (gt M 0 * ·)).length = 28 := by rw [bC, fG, jL, wZ]; rfl
  have q1 : ∀ {cl : Bool}, cL cl (.dat (.lst ((M.take 7).map D.int))) (.dat (.lst ((((unitM.drop 7).take 28).map (gt M 0 * ·)).map D.int))) S = newL cl ((M.take 7).map D.int ++ (((unitM.drop 7).take 28).map (gt M 0 * ·)).map D.int) S := iJ (by rw [bC, bC, l1, l2]; exact sz (by decide))
  have q2 : ∀ {cl : Bool}, cL cl (.dat (.lst ((M.take 7).map D.int ++ (((unitM.drop 7).take 28).map (gt M 0 * ·)).map D.int))) (.dat (.lst ((M.drop 35).map D.int))) S = newL cl ((M.take 7).map D.int ++ (((unitM.drop 7).take 28).map (gt M 0 * ·)).map D.int ++ (M.drop 35).map D.int) S := iJ (by rw [cK, bC, bC, l1, l2, bC, jL, h]; exact sz (by decide))
  simp! [c2, c3, q1, q2];rw [<- eO, <- eO]
  show Res.ok (Vl.dat (mD (Hx M))) S = _
  rw [L0 h]
 ·have hs : x = 0 \/ x = 1 := BF (wW (oF hx))
  simp! [sM (show IntMulOk (gt M 0) x from mulR (by omega) (by omega))]
theorem Jg {k j : Nat} : (if decide ((0 + (k : Int)) = (j : Int)) = true then (1 : Int) else 0) = delta k j := by
 unfold delta
 by_cases h : k = j
 ·subst h; simp
 ·rw [decide_eq_false (by omega), if_neg h]; rfl
theorem Md {cl : Bool} {j : Nat} {S : aN} {a0 a1 a2 a4 a5 a6 a7 a8 : Option Vl} : Ao cl (.nm 6) eV (m1 vJ (aS dZ (aC 6) (aC 3))) [a0, a1, a2, some (.dat (.int (j : Int))), a4, a5, a6, a7, a8] [6] (gI 0 6) S = newL cl (pD j).ds S := by
 rw [show gI 0 6 = (aV 6).map (fun k : Nat => D.int (0 + (k : Int))) from rfl, fV (g := fun k : Nat => D.int (delta k j)) (sz (by decide)) fun k _ => ⟨_, rfl, ?_⟩]
 ·rfl
 ·simp! [if_true]
  rw [Jg]
theorem Pp {S : aN} : AO (.dat (.int 6)) S = .ok (gI 0 6) S := by rw [jO (by decide) (by decide)]; rfl
theorem rng7 {S : aN} : AO (.dat (.int 7)) S = .ok (gI 0 7) S := by rw [jO (by decide) (by decide)]; rfl
theorem ixP {z : Pen} {t : Int} {n : Nat} {S : aN} (e : t = (n : Int)) (h : n < 6) : bU (.dat z.d) (.dat (.int t)) S = .ok (.dat (.int (gt z.ns n))) S := by
 rw [e];exact DM (atI_nat (LN (M := z.ns) h))
def rJ (r : Pen -> Pen) (j : Nat) : D := .lst ((aV 7).map fun i => D.int (lQ r i j))
theorem Fd {S : aN} {c : Cmd} (h : c.Ok) : ∀ (n j : Nat), n + j = 6 ->
  loop (.nm 3) lU (gI (j : Int) n) [some (.dat c.d), some (.dat (c.run zeroP).d), some (.cel S.length), none, none, none, none, none, none] (S ++ [.lst ((aV (j + 1)).map (rJ c.run))]) = .next [some (.dat c.d), some (.dat (c.run zeroP).d), some (.cel S.length), none, none, none, none, none, none] (S ++ [.lst ((aV 7).map (rJ c.run))])
 | 0, j, e => by
  obtain rfl : j = 6 := by omega
  rfl
 | n + 1, j, e => by
  have ih := Fd (S := S) h n (j + 1) (by omega)
  rw [tZ, loop];simp only [qR, kB];rw [lU];have hb : ∀ {T : aN} {a3 a4 a6 : Option Vl}, zW false (gZ (mC (.int 6))) (.nm 6) eV qN [6] [some (.dat c.d), some (.dat (c.run zeroP).d), some (.cel S.length), a3, a4, some (.dat (c.run (pD j)).d), a6, none, none] T = .ok (.dat (.lst ((aV 6).map fun i => D.int (gt (c.run (pD j)).ns i - gt (c.run zeroP).ns i)))) T := by
   intro T a3 a4 a6;simp! [Pp];rw [show gI 0 6 = (aV 6).map (fun k : Nat => D.int (0 + (k : Int))) from rfl, fV (g := fun i : Nat => D.int (gt (c.run (pD j)).ns i - gt (c.run zeroP).ns i)) (sz (by decide)) fun k hk => ⟨_, rfl, ?_⟩]
   ·rfl
   ·unfold qN
    simp! [ixP (z := c.run (pD j)) (t := 0 + (k : Int)) (n := k) (by omega) (eI.mp hk), ixP (z := c.run zeroP) (t := 0 + (k : Int)) (n := k) (by omega) (eI.mp hk)]
  have hg : (S ++ [.lst ((aV (j + 1)).map (rJ c.run))])[S.length]? = some (.lst ((aV (j + 1)).map (rJ c.run))) := by simp
  have ha : ∀ {b : FE} {ρ : Ev} {d : D}, b ρ (S ++ [.lst ((aV (j + 1)).map (rJ c.run))]) = .ok (.dat d) (S ++ [.lst ((aV (j + 1)).map (rJ c.run))]) -> Gv b ρ (.cel S.length) (S ++ [.lst ((aV (j + 1)).map (rJ c.run))]) = .ok (.dat .non) (S ++ [.lst ((aV (j + 1)).map (rJ c.run) ++ [d])]) := by
   intro b ρ d hd;rw [A2 hg, hd, iX, A3 hg (szN (by simp; omega))]
   simp
  simp! [Pp, Md, show D.tup (pD j).ds = (pD j).d from rfl, pL h]
  rw [ha (d := rJ c.run (j + 1)) (by simp! [hb]; rw [iJ (by simp; exact sz (by decide))]; rfl)]
  simp! [if_true];rw [<- lU, show ((j : Int) + 1) = ((j + 1 : Nat) : Int) by omega, <- ih, List.range_succ (n := j + 1), eO]
  rfl
theorem DC {i i1 : Nat} {mj : FI} {e : FE} {vs1 : List Nat} {ρ : Ev} {S : aN} {f : Nat -> D} {ys : List Nat} {g : Nat -> Nat -> D} {f1 : Nat -> D} : ∀ (xs : List Nat), (∀ x ∈ xs, mj (ρ.set i (some (.dat (f x)))) S = .ok (ys.map f1) S) -> (∀ x ∈ xs, ∀ y ∈ ys, e ((wipeE (ρ.set i (some (.dat (f x)))) vs1).set i1 (some (.dat (f1 y)))) S = .ok (.dat (g x y)) S) ->
  Fh (.nm i) eV mj (.nm i1) eV e vs1 ρ (xs.map f) S = .ok (xs.flatMap fun x => ys.map (g x)) S
 | [], _, _ => rfl
 | x :: r, h1, h2 => by
  have ih := DC (i := i) (i1 := i1) (mj := mj) (e := e) (vs1 := vs1) (ρ := ρ) (S := S) (f := f) (ys := ys) (g := g) (f1 := f1) r (fun x hx => h1 x (aU _ hx)) fun x hx => h2 x (aU _ hx)
  rw [bA, Fh];simp only [qR, eV, if_true];rw [h1 x (bD ..)];dsimp only;have q : nJ (.nm i1) eV e (wipeE (ρ.set i (some (.dat (f x)))) vs1) (ys.map f1) S = .ok (ys.map (g x)) S := Br fun y hy => ⟨_, rfl, h2 x (bD ..) y hy⟩
  rw [q];dsimp only;rw [ih];rfl
theorem ixLn {xs : List D} {t : Int} {n : Nat} {d : D} {S : aN} (e : t = (n : Int)) (h : xs[n]? = some d) : bU (.dat (.lst xs)) (.dat (.int t)) S = .ok (.dat d) S := by
 rw [e];exact vP (atI_nat h)
theorem Ik {T : aN} {n : Nat} {c : Cell} {d : D} (h : (T.all fun c => c.below T.length) = true) (hn : n = T.length) : trunc n (.ok (.dat d) (T ++ [c])) = .ok (.dat d) T := by
 subst hn;unfold trunc;dsimp only;rw [List.take_left, h];rfl
theorem Gj {S : aN} {c : Cmd} (lb : (S.all fun c => c.below S.length) = true) (h : c.Ok) : mS [.dat c.d] S = .ok (.dat (mD c.mat)) S := by
 have lp := Fd (S := S) h 6 0 rfl;rw [mE] at lp;have ex := pL (c := c) (z := zeroP) (S := S) h;rw [GL];unfold uP;have hg : (S ++ [.lst ((aV 7).map (rJ c.run))])[S.length]? = some (.lst ((aV 7).map (rJ c.run))) := by simp
 have hst : (bT true (aB (bT false (aB (mC (.int 1)) (Ot (aC 1) aI))) aI)) [some (.dat c.d), some (.dat (c.run zeroP).d), none, none, none, none, none, none, none] S = .ok (.cel S.length) (S ++ [.lst ((aV (0 + 1)).map (rJ c.run))]) := rfl;have hz : (bW (aB (mC (.int 0)) (aB (mC (.int 0)) (aB (mC (.int 0)) (aB (mC (.int 0)) (aB (mC (.int 0)) (aB (mC (.int 0)) aI))))))) [some (.dat c.d), none, none, none, none, none, none, none, none] S = .ok (.dat zeroP.d) S := rfl;have l2 : (Q4 false (gZ (mC (.int 7))) (.nm 7) eV (gZ (mC (.int 7))) (.nm 8) eV (aS bU (aS bU (aC 2) (aC 8)) (aC 7)) [7, 8] [8]) [some (.dat c.d), some (.dat (c.run zeroP).d), some (.cel S.length), none, none, none, none, none, none] (S ++ [.lst ((aV 7).map (rJ c.run))]) = .ok (.dat (mD c.mat)) (S ++ [.lst ((aV 7).map (rJ c.run))]) := by
  unfold Q4;simp! [rng7];rw [show gI 0 7 = (aV 7).map (fun k : Nat => D.int (0 + (k : Int))) from rfl]
  rw [DC (ys := aV 7) (f1 := fun k : Nat => D.int (0 + (k : Int))) (g := fun i j => D.int (lQ c.run i j)) (aV 7)]
  ·dsimp only
   rw [show (aV 7).flatMap (fun x => (aV 7).map fun j => D.int (lQ c.run x j)) = (rows (lQ c.run) 7).map D.int by rw [rows, List.map_flatMap]; simp only [fE]; rfl, Hj, if_pos (by rw [bC, Bp]; exact sz (by decide))]
   rw [show mx (lQ c.run) = c.mat by unfold Cmd.mat probeM; rfl]
  ·intro x hx
   simp! [rng7];rfl
  ·intro x hx y hy
   have hx := eI.mp hx;have hy := eI.mp hy;have i1 : bU (.cel S.length) (.dat (.int (0 + (y : Int)))) (S ++ [.lst ((aV 7).map (rJ c.run))]) = .ok (.dat (rJ c.run y)) (S ++ [.lst ((aV 7).map (rJ c.run))]) := PM hg (by rw [Int.zero_add]; exact atI_nat (by rw [cC, zF hy]; rfl))
   have i2 : bU (.dat (rJ c.run y)) (.dat (.int (0 + (x : Int)))) (S ++ [.lst ((aV 7).map (rJ c.run))]) = .ok (.dat (.int (lQ c.run x y))) (S ++ [.lst ((aV 7).map (rJ c.run))]) := ixLn (n := x) (by omega) (by rw [cC, zF hx]; rfl)
   simp! [wipeE, i1, i2]
 simp only [IE, PP, PN, PF, LV, HB, HA, Ef, Ee, LX, iX, hz];simp! [Gw h, hz, ex, hst, Pp, lp, l2];rw [bS, Ik lb rfl]
theorem JJ {S : aN} {c : Cmd} (ls : LS S) (h : c.Ok) : mS [.dat c.d] S = .ok (.dat (mD c.mat)) S := Gj (bI.mpr fun c hc => ls c hc _) h
inductive Ed where
 | cmd (m : List Int) (q : Nat) | bit (b : Int) (q : Nat) | unit (es : List Nat) (sv : Bool) (ts : List Nat)
structure Us where
 p : Nat
 sv : Bool
 t : Nat
structure Gr where
 ps : List (List Ed × List Us)
 st : List Nat
structure Ms where
 m : List Int
 stk : List (List Int)
def C1 : Deed -> Ms -> Option Ms
 | .cmd c, s => some ⟨yN s.m c.mat, s.stk⟩
 | .op, s => some ⟨unitM, s.m :: s.stk⟩
 | .cl, s => match s.stk with
  | [] => none
  | P :: k => some ⟨yN P (AN s.m), k⟩
def El : List Deed -> Ms -> Option Ms
 | [], s => some s
 | d :: r, s => match C1 d s with
  | none => none
  | some s' => El r s'
def CZ : List Deed -> Nat
 | [] => 0
 | .cmd _ :: r => CZ r + 1
 | _ :: r => CZ r
def MbL : List (List Int) -> Nat -> Prop
 | [], _ => True
 | M :: k, n => ∃ a, 0 < a /\ a <= n /\ M.length = 49 /\ (∀ x ∈ M, Bn a x) /\ MbL k (n - a)
theorem MbL.mono : ∀ {l : List (List Int)} {n m : Nat}, MbL l n -> n <= m -> MbL l m
 | [], _, _, _, _ => trivial
 | M :: k, n, m, ⟨a, h0, h1, h2, h3, h4⟩, h => ⟨a, h0, by omega, h2, h3, h4.mono (by omega)⟩
theorem K2 : ∀ x ∈ unitM, Bn 1 x := fun x hx => by
 rcases BF hx with rfl | rfl <;> (unfold Bn; decide)
theorem Hw {M : List Int} {a : Nat} (h : ∀ x ∈ M, Bn a x) : ∀ x ∈ AN M, Bn a x := Ks fun i j _ _ => by
 by_cases e : i = 0 \/ 4 < i
 ·rw [if_pos e]; exact DI h
 ·rw [if_neg e]
  unfold delta
  by_cases e2 : i = j
  ·rw [if_pos e2, Int.mul_one]; exact DI h
  ·rw [if_neg e2, Int.mul_zero]; exact Bn.zero
theorem Em {d : Deed} {s s' : Ms} {n : Nat} (ok : d.Ok) (h : MbL (s.m :: s.stk) n) (e : C1 d s = some s') : MbL (s'.m :: s'.stk) (n + 8) := by
 obtain ⟨a, h0, h1, h2, h3, h4⟩ := h;cases d with
 | cmd c =>
  cases e;exact ⟨a + 5 + 3, by omega, by omega, Dg _ _, G9 h3 (Cmd.mat_bd ok), h4.mono (by omega)⟩
 | op =>
  cases e;exact ⟨1, by omega, by omega, wZ, K2, a, h0, by omega, h2, h3, h4.mono (by omega)⟩
 | cl =>
  unfold C1 at e;dsimp only at e;cases hk : s.stk with
  | nil => rw [hk] at e; cases e
  | cons P k =>
   rw [hk] at e h4;cases e;obtain ⟨b, g0, g1, g2, g3, g4⟩ := h4;exact ⟨b + a + 3, by omega, by omega, Dg _ _, G9 g3 (Hw h3), g4.mono (by omega)⟩
section
variable {S0 : aN} {xs : List D}
theorem Km : (S0 ++ [Cell.lst xs])[S0.length]? = some (.lst xs) := by simp
theorem On {c : Cell} : (S0 ++ [Cell.lst xs]).set S0.length c = S0 ++ [c] := by simp
theorem N8 {ρ : Ev} {b : FE} {d : D} (F : xs.length < 5000000) (hb : b ρ (S0 ++ [.lst xs]) = .ok (.dat d) (S0 ++ [.lst xs])) : Gv b ρ (.cel S0.length) (S0 ++ [.lst xs]) = .ok (.dat .non) (S0 ++ [.lst (xs ++ [d])]) := by
 rw [A2 Km, hb, iX, A3 Km (szN (by omega)), On]
theorem N7 {d : D} : A8 (.cel S0.length) (S0 ++ [.lst (xs ++ [d])]) = .ok (.dat d) (S0 ++ [.lst xs]) := by
 simp only [A8, Km];rw [show (xs ++ [d])[(xs ++ [d]).length - 1]? = some d by simp]
 dsimp only;rw [Jv, On]
end
theorem E8 {S0 : aN} {a0 a1 a2 a3 a4 : Option Vl} (ls : LS S0) : ∀ (ds : List Deed) (s s' : Ms) (n k : Nat), (∀ d ∈ ds, d.Ok) -> El ds s = some s' -> MbL (s.m :: s.stk) n -> n + 8 * ds.length <= 900000 -> s.stk.length + ds.length <= 900000 ->
  loop (.nm 8) iA (ds.map Deed.d) [a0, a1, a2, a3, a4, some (.dat (mD s.m)), some (.cel S0.length), some (.dat (.int (k : Int))), none] (S0 ++ [.lst (Hi mD s.stk)]) = .next [a0, a1, a2, a3, a4, some (.dat (mD s'.m)), some (.cel S0.length), some (.dat (.int ((k + CZ ds : Nat) : Int))), none] (S0 ++ [.lst (Hi mD s'.stk)])
 | [], s, s', n, k, _, h, _, _, _ => by cases h; rfl
 | d :: r, s, s', n, k, ok, h, hm, hn, hl => by
  rw [bB] at hn hl;have okd := ok d (bD ..);have okr : ∀ d ∈ r, d.Ok := fun d hd => ok d (aU _ hd)
  obtain ⟨a, h0, h1, h2, h3, h4⟩ := id hm;rw [bA, loop];simp only [qR, kB];rw [iA];cases d with
  | cmd c =>
   have ih := E8 (S0 := S0) (a0 := a0) (a1 := a1) (a2 := a2) (a3 := a3) (a4 := a4) ls r ⟨yN s.m c.mat, s.stk⟩ s' (n + 8) (k + 1) okr h (Em okd hm rfl) (by omega) (by dsimp only; omega)
   simp! [Deed.d, IQ, As (c := c) (w := "open") (.inl rfl), As (c := c) (w := "close") (.inr (.inl rfl)), JJ ls.app (show c.Ok from okd), AY h2 (show c.mat.length = 49 from Gb _) h3 (Cmd.mat_bd (show c.Ok from okd)) h0 (by decide) (by omega : a + 5 <= 1000000)]
   rw [<- iA, show ((k + CZ (Deed.cmd c :: r) : Nat) : Int) = ((k + 1 + CZ r : Nat) : Int) by simp [CZ]; omega, <- ih]
   rfl
  | op =>
   have ih := E8 (S0 := S0) (a0 := a0) (a1 := a1) (a2 := a2) (a3 := a3) (a4 := a4) ls r ⟨unitM, s.m :: s.stk⟩ s' (n + 8) k okr h (Em okd hm rfl) (by omega) (by simp; omega)
   simp! [Deed.d, eD, N8 (d := mD s.m) (S0 := S0) (xs := Hi mD s.stk) (by rw [Hh]; omega), AQ]
   rw [<- iA, show ((k + CZ (Deed.op :: r) : Nat) : Int) = ((k + CZ r : Nat) : Int) from rfl, <- ih]
   simp only [xH]
  | cl =>
   cases hk : s.stk with
   | nil => simp [El, C1, hk] at h
   | cons P q =>
    have e1 : C1 .cl s = some ⟨yN P (AN s.m), q⟩ := by simp [C1, hk]
    simp only [El, C1, hk] at h;rw [hk] at h4 hl;obtain ⟨b, g0, g1, g2, g3, g4⟩ := h4;have ih := E8 (S0 := S0) (a0 := a0) (a1 := a1) (a2 := a2) (a3 := a3) (a4 := a4) ls r ⟨yN P (AN s.m), q⟩ s' (n + 8) k okr h (Em okd hm e1) (by omega) (by simp at hl ⊢; omega)
    rw [xH];simp! [Deed.d, eD, N7, NQ h2, AY g2 (DE s.m) g3 (Hw h3) g0 h0 (by omega : b + a <= 1000000)]
    rw [<- iA, show ((k + CZ (Deed.cl :: r) : Nat) : Int) = ((k + CZ r : Nat) : Int) from rfl, <- ih]
theorem N0 {S : aN} {x0 x1 x2 x3 : Vl} {e : Er} (he : dW [x0, x1, x2] S = .err e S) : Hr [x0, x1, x2, x3] S = .err e S := by
 rw [E_ran];unfold IV;simp! [he];rfl
inductive Chain : List (List Int) -> (Pen -> List Pen) -> Prop
 | nil : Chain [] (fun _ => [])
 | cons {P : List Int} {k : List (List Int)} {ts : Pen -> List Pen} {f : Pen -> Pen} : PY f P -> Chain k ts -> Chain (P :: k) (fun z => f ((ts z).headD z) :: ts z)
def Inv (s : Ms) (p : Pen -> Ps) : Prop := ∃ (ts : Pen -> List Pen) (f : Pen -> Pen), Chain s.stk ts /\ PY f s.m /\ ∀ z, (p z).stk = ts z /\ (p z).z = f ((ts z).headD z)
end PH
namespace LA
abbrev Vc := Nat -> Int
def S : Nat -> (Nat -> Int) -> Int
 | 0, _ => 0
 | n + 1, f => S n f + f n
def lin (a : Int) (v : Vc) (b : Int) (w : Vc) : Vc := fun x => a * v x + b * w x
def zv : Vc := fun _ => 0
inductive Sp (G : Vc -> Prop) : Vc -> Prop
 | gen {v : Vc} : G v -> Sp G v
 | zero : Sp G zv
 | lin {v w : Vc} (a b : Int) : Sp G v -> Sp G w -> Sp G (lin a v b w)
 | div {v : Vc} (k : Int) : k ≠ 0 -> Sp G (fun x => k * v x) -> Sp G v
end LA
namespace LA
def fn (l : List Int) : Vc := fun x => l.getD x 0
def EC : List Int -> Nat
 | [] => 0
 | x :: r => if x = 0 then EC r + 1 else 0
def gcdN (l : List Int) : Nat := l.foldl (fun g x => Nat.gcd g x.natAbs) 0
end LA
namespace LA
def mulS (row base : List Int) (m : Int) : Int := if fn row (EC base) = 0 then m else Int.fdiv (m * fn base (EC base)) (gcdN [m, fn base (EC base)])
def mulL (B : List (List Int)) (row : List Int) : Int := B.foldl (fun m base => mulS row base m) 1
end LA
namespace LA
def Bd (b : Nat) (r : List Int) : Prop := ∀ x ∈ r, x.natAbs < 2 ^ b
end LA
namespace PH
open PySem PySem.Spec PyProof PyProof.Rows L2
theorem sz1 {r : List Int} (h : r.length <= 1000) : r.length <= sizeLine := sz h
end PH
namespace LA
def Gr (R : Nat) : Nat -> List (List Int) -> Prop
 | _, [] => True
 | i, b :: B => Bd (2 ^ i * (R + 1) - 1) b /\ Gr R (i + 1) B
end LA
namespace PH
open PySem PySem.Spec PyProof PyProof.Rows L2
theorem JM {t : Tg} {mb : FS} {d : PH.D} {r : List PH.D} {ρ ρ1 ρ2 : Ev} {S S2 : aN} (h1 : qR t (.dat d) ρ = some ρ1) (h2 : mb ρ1 S = .next ρ2 S2) : loop t mb (d :: r) ρ S = loop t mb r ρ2 S2 := by
 rw [loop, h1];dsimp only;rw [h2]
theorem Nb : ∀ r : List Int, D.pys (r.map PH.D.int) = some (r.map PyData.int)
 | [] => rfl
 | x :: r => by
  rw [bA, bA, D.pys, Nb r];rfl
theorem Fl : ∀ r : List Int, D.Pls (r.map PH.D.int) /\ D.hts (r.map PH.D.int) = 0
 | [] => ⟨trivial, rfl⟩
 | x :: r => by
  obtain ⟨h1, h2⟩ := Fl r;refine ⟨⟨trivial, h1⟩, ?_⟩
  rw [bA, D.hts, h2];rfl
def exF2 (i n : Nat) : List (Nat × Nat) := (jD i n).map fun i => (2 * i, 2 * i + 1)
def exs (n : Nat) : List (Nat × Nat) := exF2 0 n
structure En where
 len : Int
 bits : List Int
 mat : List Int
structure Cand where
 p : Nat
 bits : List Int
 more : List Int
 mat : List Int
abbrev Wt := List (Int × List Cand)
abbrev Wi := List (Int × Nat × List Cand)
def zB (T : aN) (E : List (List En)) : Nat := T.length + 4 + E.length
structure SSt where
 E : List (List En)
 B : List (List (List Int))
 A : Wt
abbrev OkP := Nat -> Int -> List Int -> List Int -> Prop
def csum (f : Nat -> Nat) : Nat -> Nat
 | 0 => 0
 | n + 1 => csum f n + f n
def room (m : Nat) (C : Nat -> Nat) (E : List (List En)) : Nat := csum (fun p => C p * (m - (E.getD p []).length)) E.length
abbrev Prc := Nat -> Nat -> Int -> List Int -> List Int -> Prop
abbrev RSet := Int -> List Int -> List Int -> Prop
def Sb (F Q : RSet) : Prop := ∀ L b M, F L b M -> Q L b M
def putF (F : OkP) (p : Nat) (a : RSet) : OkP := fun q => if q = p then a else F q
def tg (af : Nat) (ex : Nat × Nat) (o : Nat) : Nat := if o = 0 then af else if o = 1 then ex.1 else ex.2
inductive Frm where
 | blk (l : List Stt) (i : Nat) | kp (zs : List Pen) | cl (f : Bool) (zs : List Pen) (a b : List Stt) | ag (a : List Stt)
abbrev R4 := Nat × Nat × (Pen -> Pen) × List Int
abbrev EP := Nat -> List Int -> Option R4
structure PSt where
 fs : List Frm
 zs : List Pen
 u : Nat
 n : Nat
 w : Nat
inductive PO where
 | go (s : PSt) | more | loop
section
variable {bs : List (List Stt)} {B : List Int}
def Pos (B : List Int) (u : Nat) (b : List Int) : Prop := u + b.length = B.length /\ B.drop u = b
end
theorem zN {T F : aN} {n : Nat} {d : PH.D} (h : (T.all fun c => c.below T.length) = true) (hn : n = T.length) : trunc n (.ok (.dat d) (T ++ F)) = .ok (.dat d) T := by
 subst hn;have e : (T ++ F).take T.length = T := by simp
 dsimp only [trunc];rw [e];simp only [Vl.below, h, zL, if_true]
inductive Pce where
 | kp (c : Cmd) | cl (f : Bool)
def chF (row : List Nat) (k : Nat) : Bool := match row.getLast? with
 | none => true
 | some a => decide (a < k)
def nxt (n : Nat) (lev : List (List Nat)) : List (List Nat) := lev.flatMap fun row => ((aV n).filter (chF row)).map fun k => row ++ [k]
def lvl (n : Nat) : Nat -> List (List Nat)
 | 0 => [[]]
 | k + 1 => nxt n (lvl n k)
theorem LS.all {S : aN} (h : LS S) : (S.all fun c => c.below S.length) = true := bI.mpr fun c hc => h c hc _
theorem FM {n : Nat} {xs : List PH.D} {S : aN} {f : FD} {i : Nat} {x y : PH.D} (hx : xs[i]? = some x) (ex : bU (.dat y) (.dat (.int (0 + (i : Int)))) S = .ok (.dat x) S) (h : f [.dat x, .dat x] S = .ok (.dat (.bl true)) S) : oC f [some (.dat y), some (.dat y), some (.dat (.int (0 + (i : Int))))] S = .ok (.dat (.bl true)) S := by
 unfold oC;simp! [ex, h]
theorem FL (n : Nat) : ∀ {S : aN} {d : PH.D}, d.Pl -> d.ht < n -> iG n [.dat d, .dat d] S = .ok (.dat (.bl true)) S := by
 induction n with
 | zero => intro S d _ h; omega
 | succ n ih =>
  intro S d hp hd;rw [HS];unfold sR;cases d with
  | non => simp! [show C0 false (.dat .non) (.dat .non) S = .ok (.dat (.bl true)) S from rfl]; rfl
  | bl b => simp! [if_true]; cases b <;> rfl
  | int i => simp! [if_true]; rfl
  | str x => simp! [if_true]; rfl
  | ins _ _ _ => exact hp.elim
  | dct => exact hp.elim
  | opq _ => exact hp.elim
  | lst xs =>
   have hl := hp.1;simp! [jO (show -(2 ^ 62) <= (xs.length : Int) by omega) (show (xs.length : Int) < 2 ^ 62 by omega), gI, mK]
   rw [fV (g := fun _ => PH.D.bl true) (sz (by simp; omega)) fun i hi => ⟨_, rfl, ?_⟩]
   ·simp! [if_true]
    rw [all_true];rfl
   ·have hi' : i < xs.length := eI.mp hi
    have hx : xs[i]? = some xs[i] := cU hi';have hm : xs[i] ∈ xs := jJ hi';have := Bv hm;have hd' : PH.D.hts xs + 1 < n + 1 := hd;exact FM (n := n) hx (vP (by rw [iP (n := i) (by omega), hx])) (ih (Bb hp.2 hm) (by omega))
  | tup xs =>
   have hl := hp.1;simp! [jO (show -(2 ^ 62) <= (xs.length : Int) by omega) (show (xs.length : Int) < 2 ^ 62 by omega), gI, mK]
   rw [fV (g := fun _ => PH.D.bl true) (sz (by simp; omega)) fun i hi => ⟨_, rfl, ?_⟩]
   ·simp! [if_true]
    rw [all_true];rfl
   ·have hi' : i < xs.length := eI.mp hi
    have hx : xs[i]? = some xs[i] := cU hi';have hm : xs[i] ∈ xs := jJ hi';have := Bv hm;have hd' : PH.D.hts xs + 1 < n + 1 := hd;exact FM (n := n) hx (DM (by rw [iP (n := i) (by omega), hx])) (ih (Bb hp.2 hm) (by omega))
def kps : List Pce -> Nat
 | [] => 0
 | .kp _ :: r => kps r + 1
 | .cl _ :: r => kps r
def cls : List Pce -> Nat
 | [] => 0
 | .kp _ :: r => cls r
 | .cl _ :: r => cls r + 1
section
variable {bs : List (List Stt)} {T : Nat -> Nat} {S : aN} {g : Nat}
abbrev R3 := Nat × Nat × List Int
end
theorem N3 (z : Pen) : z.d = .tup (z.ns.map PH.D.int) := rfl
theorem Bc (z : Pen) : (z.d).Pl /\ (z.d).ht = 1 := by
 rw [N3];obtain ⟨h1, h2⟩ := Fl z.ns;refine ⟨⟨by rw [bC]; show 6 <= 1000; omega, h1⟩, ?_⟩
 show D.hts (z.ns.map PH.D.int) + 1 = 1
 rw [h2]
theorem Pw {z w : Pen} (h : z.ns = w.ns) : z = w := by
 obtain ⟨a1, a2, a3, a4, a5, a6⟩ := z;obtain ⟨b1, b2, b3, b4, b5, b6⟩ := w;simp only [Pen.ns, List.cons.injEq, and_true] at h;obtain ⟨rfl, rfl, rfl, rfl, rfl, rfl⟩ := h;rfl
instance : DecidableEq Pen := fun z w => if h : z.ns = w.ns then .isTrue (Pw h) else .isFalse fun e => h (by rw [e])
structure Eqn where
 vars : List (Nat × Nat)
 left : List Nat
 right : List Nat
 parts : List Nat
section
variable {S : aN}
theorem ixLk {xs : List PH.D} {n : Nat} {d : PH.D} (h : xs[n]? = some d) : bU (.dat (.lst xs)) (.dat (.int (n : Int))) S = .ok (.dat d) S := vP (atI_nat h)
end
def PW {α : Type} : List α -> List (List α) -> Prop
 | [], [] => True
 | x :: xs, r :: rs => x ∈ r /\ PW xs rs
 | _, _ => False
abbrev Plc := Int × List Int
theorem plsOf {ds : List PH.D} (h : ∀ d ∈ ds, d.Pl) : PH.D.Pls ds := by
 induction ds with
 | nil => trivial
 | cons d r ih => exact ⟨h d (bD ..), ih fun x hx => h x (aU _ hx)⟩
theorem htsOf {ds : List PH.D} {k : Nat} (h : ∀ d ∈ ds, d.ht <= k) : PH.D.hts ds <= k := by
 induction ds with
 | nil => exact hW _
 | cons d r ih =>
  rw [PH.D.hts];exact Nat.max_le.mpr ⟨h d (bD ..), ih fun x hx => h x (aU _ hx)⟩
theorem Q8 {ds : List PH.D} {k : Nat} (hl : ds.length <= 1000) (h : ∀ d ∈ ds, d.Pl /\ d.ht <= k) : (PH.D.lst ds).Pl /\ (PH.D.lst ds).ht <= k + 1 :=
 ⟨⟨hl, plsOf fun d hd => (h d hd).1⟩, Nat.succ_le_succ (htsOf fun d hd => (h d hd).2)⟩
def flt : Stt -> Prop
 | .cmd c => c.Ok
 | .fin w => 0 <= w /\ w <= 1
 | _ => False
def T2 (x y : Nat) : Nat -> Nat := fun g => if g = 0 then x else y
theorem AB (n : Nat) : ∀ {S : aN} {d : PH.D}, d.Pl -> d.ht < n -> dE n [.dat d] S = .ok (.dat d) S := by
 induction n with
 | zero => intro S d _ h; omega
 | succ n ih =>
  intro S d hp hd;rw [HU];unfold sS;cases d with
  | non => simp! [if_true]; rfl
  | bl b => simp! [if_true]; rfl
  | int i => simp! [if_true]; rfl
  | str x => simp! [if_true]; rfl
  | ins _ _ _ => exact hp.elim
  | dct => exact hp.elim
  | opq _ => exact hp.elim
  | lst xs =>
   have hl := hp.1;have lc : Ao false (.nm 1) eV (aM (dE n) (aB (aC 1) aI)) [some (.dat (.lst xs)), none] [1] xs S = .ok (.dat (.lst xs)) S := by
    have := fV (cl := false) (t := .nm 1) (e := aM (dE n) (aB (aC 1) aI)) (ρ := [some (.dat (.lst xs)), none]) (S := S) (f := fun x : PH.D => x) (g := fun x : PH.D => x) (xs := xs) (vs := [1]) (sz hl) fun x hx => ⟨_, rfl, by
     have hd' : PH.D.hts xs + 1 < n + 1 := hd;have h1 := Bv hx;have e := ih (S := S) (Bb hp.2 hx) (by omega)
     show (aM (dE n) (aB (aC 1) aI)) [some (.dat (.lst xs)), some (.dat x)] S = _
     simp! [e]⟩
    rw [List.map_id'] at this;exact this
   simp! [Qx, lc];rfl
  | tup xs =>
   have hl := hp.1;have lc : Ao false (.nm 1) eV (aM (dE n) (aB (aC 1) aI)) [some (.dat (.tup xs)), none] [1] xs S = .ok (.dat (.lst xs)) S := by
    have := fV (cl := false) (t := .nm 1) (e := aM (dE n) (aB (aC 1) aI)) (ρ := [some (.dat (.tup xs)), none]) (S := S) (f := fun x : PH.D => x) (g := fun x : PH.D => x) (xs := xs) (vs := [1]) (sz hl) fun x hx => ⟨_, rfl, by
     have hd' : PH.D.hts xs + 1 < n + 1 := hd;have h1 := Bv hx;have e := ih (S := S) (Bb hp.2 hx) (by omega)
     show (aM (dE n) (aB (aC 1) aI)) [some (.dat (.tup xs)), some (.dat x)] S = _
     simp! [e]⟩
    rw [List.map_id'] at this;exact this
   simp! [Qx, lc];rfl
def T3 (x y z : Nat) : Nat -> Nat := fun g => if g = 0 then x else if g = 1 then y else z
section
variable {R : aN} {ks : List Int} {n : Nat} {v0 v3 v4 v5 v8 v9 v10 v11 v12 v13 v14 : Option Vl}
theorem IM {X : aN} {k : Int} (h2 : 2 <= ks.length) (h1 : 0 < k) (hk : k <= 1000) : ∃ (d : Nat) (ks' : List Int), bG [.cel 0, .dat (.int k)] (PL ks :: X) = .ok (.dat (.int (d : Int))) (PL ks' :: X) /\ (d : Int) < k /\ ks'.length = ks.length := by
 obtain ⟨d, k1, e1, d0, d1, l1⟩ := dO (S := PL ks :: X) (p := 0) (ks := ks) ⟨rfl, h2⟩ (k := k) h1 (by omega)
 rw [bM] at e1;refine ⟨d.toNat, k1, ?_, by omega, l1⟩
 rw [e1, Int.toNat_of_nonneg d0]
end
theorem Oa {bs : List (List Stt)} (G : Good2 bs) : (PH.D.lst (bls bs)).Pl /\ (PH.D.lst (bls bs)).ht <= 12 := by
 have h3 := G.l3;refine Q8 (k := 11) (by rw [B9]; omega) fun d hd => ?_
 unfold bls at hd;obtain ⟨b, hb, rfl⟩ := uR.mp hd;obtain ⟨h1, h2⟩ := iM b 3 (G.ok b hb);have hl := (G.gd b hb).2.1;exact ⟨⟨by rw [dC]; omega, h1⟩, by show PH.D.hts (cH b) + 1 <= 11; omega⟩
theorem Ga {j : Int} {m : Nat} : gI j (m + 1) = .int j :: gI (j + 1) m := by
 unfold gI;rw [Ha, bA, fE]
 show PH.D.int (j + (0 : Nat)) :: _ = _
 congr 1
 ·congr 1; omega
 ·refine eW fun k _ => ?_
  show PH.D.int (j + ((k + 1 : Nat) : Int)) = PH.D.int (j + 1 + (k : Int))
  congr 1; omega
def gM (d : PH.D) (b : Int) : Bool := match d with
 | .int i => decide (0 <= i) && decide (i < b)
 | _ => false
section
variable {S : aN}
theorem EB {xs : List PH.D} (h : PH.D.Pls xs) : ∀ x ∈ xs, x.Pl := by
 induction xs with
 | nil => intro x hx; cases hx
 | cons y r ih =>
  intro x hx;rcases cS.mp hx with rfl | hx
  ·exact h.1
  ·exact ih h.2 x hx
end
section
variable {S : aN}
theorem F6 {d : PH.D} (h : d.Pl) {b : Int} : uE [.dat d, .dat (.int b)] S = .ok (.dat (.bl (gM d b))) S := by
 rw [MV];unfold yP;have w : sA [.dat d] S = .ok (.dat (.bl (match d with | .int _ => true | _ => false))) S := by
  rw [IY];unfold yQ;cases d with
  | ins c ns xs => exact h.elim
  | dct => exact h.elim
  | opq _ => exact h.elim
  | _ => rfl
 cases d with
 | int i =>
  by_cases h0 : 0 <= i
  ·have e : gM (.int i) b = decide (i < b) := by
    show (decide (0 <= i) && decide (i < b)) = _
    rw [decide_eq_true h0]; rfl
   rw [e];simp! [w, gF, decide_eq_true h0];rfl
  ·have e : gM (.int i) b = false := by
    show (decide (0 <= i) && decide (i < b)) = _
    rw [decide_eq_false h0]; rfl
   rw [e];simp! [w, gF, decide_eq_false h0];rfl
 | ins c ns xs => exact h.elim
 | dct => exact h.elim
 | opq _ => exact h.elim
 | _ => simp! [w]; rfl
end
section
variable {S : aN}
theorem Et {α : Type} (f : α -> Bool) (xs : List α) : wK (.dat (.lst (xs.map fun x => PH.D.bl (f x)))) S = .ok (.dat (.bl (xs.all f))) S := by
 have : ∀ xs : List α, zC (xs.map fun x => PH.D.bl (f x)) = some (xs.map f) := fun xs => by
  induction xs with
  | nil => rfl
  | cons x r ih => simp only [bA, zC, ih]
 simp only [wK, jE, this]
 congr 3
 simp
end
inductive LT where
 | st (s : Stt) | shut | out (c : Pa) (w : Int)
def wX (l : List Stt) : List LT := l.map LT.st
structure Lm where
 bits : List Int
 extra : Nat
 taken : Nat
 way : Int
 deeds : List Deed
 opens : List (Nat × Nat)
 todo : List LT
section
variable {S0 : aN} {bs : List (List Stt)} {m : Lm}
abbrev lv (S0 : aN) : Vl := .cel (S0.length + 3)
end
inductive LF where
 | fin (m : Lm) | long (m : Lm) | never (m : Lm) | short (m : Lm) | no (m : Lm)
def Ends : LF -> SR -> Prop
 | .fin m', r => ∃ c', r = .ok c' /\ c'.taken = m'.taken /\ c'.deeds = m'.deeds /\ c'.ended = m'.way
 | .long _, _ => True
 | .never _, r => ∃ c', r = .err (-2) c'
 | .short m', r => ∃ c', r = .err (m'.bits.length : Int) c'
 | .no _, _ => False
mutual
theorem Hm : ∀ (d : D) (p : PyData), d.Pl -> d.py = some p -> PyData.eqv p p = true
 | .non, p, _, e => by cases e; rfl
 | .bl b, p, _, e => by cases e; cases b <;> rfl
 | .int i, p, _, e => by cases e; simp [PyData.eqv]
 | .str x, p, _, e => by cases e; simp [PyData.eqv]
 | .lst xs, p, h, e => by
  simp only [D.py] at e;cases q : D.pys xs with
  | none => rw [q] at e; cases e
  | some ps => rw [q] at e; cases e; simp only [PyData.eqv]; exact Ba xs ps h.2 q
 | .tup xs, p, h, e => by
  simp only [D.py] at e;cases q : D.pys xs with
  | none => rw [q] at e; cases e
  | some ps => rw [q] at e; cases e; simp only [PyData.eqv]; exact Ba xs ps h.2 q
 | .ins _ _ _, p, h, e => h.elim
 | .dct, p, h, e => h.elim
 | .opq _, p, h, e => h.elim
theorem Ba : ∀ (ds : List D) (ps : List PyData), D.Pls ds -> D.pys ds = some ps -> PyData.eqvAll ps ps = true
 | [], ps, _, e => by cases e; rfl
 | d :: r, ps, h, e => by
  simp only [D.pys] at e;cases q1 : D.py d with
  | none => rw [q1] at e; cases e
  | some p =>
   cases q2 : D.pys r with
   | none => rw [q1, q2] at e; cases e
   | some ps' =>
    rw [q1, q2] at e;cases e;simp only [PyData.eqvAll, Hm d p h.1 q1, Ba r ps' h.2 q2, zL]
end
theorem OR {xs ys : List D} {S : aN} : DP (.dat (.lst xs)) (.dat (.lst ys)) S = (match D.py (.lst xs), D.py (.lst ys) with
  | some p, some q => if shp p q = true then .ok (.dat (.bl (!PyData.eqv p q))) S else .stuck
  | _, _ => .stuck) := rfl
theorem Cu {xs : List D} {S : aN} (h : (D.lst xs).Pl) (hd : (D.lst xs).ht <= 64) : DP (.dat (.lst xs)) (.dat (.lst xs)) S = .ok (.dat (.bl false)) S := by
 obtain ⟨p, e, _, _⟩ := Kg _ h;rw [OR, e];dsimp only;rw [if_pos (by unfold shp; rw [J8 h hd e]; rfl), Hm _ _ h e]
 rfl
theorem g_kys {n : MU} {ρ : Ev} {S : aN} : L3 n (.next ρ S) = n ρ S := rfl
theorem traceT_ok {S : aN} {x0 x1 x2 : Vl} {w : Int} {ds : List Deed} {z : Pen} {s' : Ps} (ls : LS S) (he : dW [x0, x1, x2] S = .ok (.dat (.tup [.int w, .lst (ds.map Deed.d)])) S) (ok : ∀ d ∈ ds, d.Ok) (h : AA ds ⟨[], z, []⟩ = some s') (hl : ds.length <= 900000) (hp : s'.pens.length <= 900000) :
  Cw [x0, x1, x2, .dat z.d] S = .ok (s'.pens.map Pen.d) S := by
 have yf : kYf (.dat (.lst (s'.pens.map Pen.d))) S = .ok (s'.pens.map Pen.d) S := if_pos (by rw [bC]; omega)
 rw [Jp];unfold AE;simp! [Qb, g_kys, g_yf, he, Fj, pb_ok ls ok h hl, yf]
theorem AC {S : aN} {z : Pen} : kD [.dat z.d] S = .ok (.dat .non) S := by
 rw [AZ];unfold mZ;simp! [Fj];rfl
theorem Kt {S : aN} {z : Pen} {c : Cmd} (h : c.Ok) : uV [.dat z.d, .dat c.d] S = .ok (.dat (c.run z).d) S := by
 rw [IZ];unfold yR;simp! [AC, Gw h, pL h];rfl
def tM (d : PH.D) : Bool := match d with
 | .int _ => true
 | _ => false
def inR (lo hi : Int) (d : PH.D) : Bool := match d with
 | .int i => decide (lo <= i) && decide (i <= hi)
 | _ => false
def eL (d : PH.D) (n : Int) : Bool := match d with
 | .tup xs => decide ((xs.length : Int) = n) && xs.all tM
 | _ => false
def rK (d : PH.D) : Bool := match d with
 | .tup (.str w :: r) => (match limits.lookup w with
  | some (m, lo, hi) => decide (r.length = m) && r.all (inR lo hi)
  | none => false)
 | _ => false
section
variable {S : aN}
theorem EY {d : PH.D} (h : d.Pl) : cY [.dat d] S = .ok (.dat (.bl (tM d))) S := by
 cases d with
 | ins c ns xs => exact h.elim
 | dct => exact h.elim
 | opq _ => exact h.elim
 | int i => exact dJ
 | _ => rfl
theorem Au {d : PH.D} (h : d.Pl) : sA [.dat d] S = .ok (.dat (.bl (tM d))) S := by
 rw [IY];unfold yQ;cases d with
 | ins c ns xs => exact h.elim
 | dct => exact h.elim
 | opq _ => exact h.elim
 | _ => rfl
theorem I9 {d : PH.D} (h : d.Pl) {b : Int} : mU [.dat d, .dat (.int b)] S = .ok (.dat (.bl (gM d b))) S := by
 rw [GP];unfold pT;cases d with
 | int i =>
  by_cases h0 : 0 <= i
  ·have e : gM (.int i) b = decide (i < b) := by
    show (decide (0 <= i) && decide (i < b)) = _
    rw [decide_eq_true h0]; rfl
   rw [e];simp! [gF, decide_eq_true h0];rfl
  ·have e : gM (.int i) b = false := by
    show (decide (0 <= i) && decide (i < b)) = _
    rw [decide_eq_false h0]; rfl
   rw [e];simp! [gF, decide_eq_false h0];rfl
 | ins c ns xs => exact h.elim
 | dct => exact h.elim
 | opq _ => exact h.elim
 | _ => rfl
theorem Na {xs : List PH.D} (h : PH.D.Pls xs) (hl : xs.length <= 1000) {a0 a1 : Option Vl} : Ao false (.nm 2) eV iL [a0, a1, none] [2] xs S = .ok (.dat (.lst (xs.map fun x => PH.D.bl (tM x)))) S := by
 have k := fV (cl := false) (t := .nm 2) (e := iL) (ρ := [a0, a1, none]) (S := S) (f := id) (g := fun x => PH.D.bl (tM x)) (xs := xs) (vs := [2]) (sz hl) fun x hx => ⟨_, rfl, by
  have px := EB h x hx;unfold iL;cases x with
  | ins c ns xs => exact px.elim
  | dct => exact px.elim
  | opq _ => exact px.elim
  | _ => rfl⟩
 rw [CO] at k;rw [k];rfl
theorem wF {d : PH.D} (h : d.Pl) {n : Int} : iS [.dat d, .dat (.int n)] S = .ok (.dat (.bl (eL d n))) S := by
 rw [Ew];unfold oE;cases d with
 | tup xs =>
  have i : ∀ S, fIsi "tuple" (.dat (.tup xs)) S = .ok (.dat (.bl true)) S := fun _ => rfl
  have hl : ∀ S, dY (.dat (.tup xs)) S = .ok (.dat (.int (xs.length : Int))) S := fun _ => rfl
  have it : ∀ S, itemsOf (.dat (.tup xs)) S = .ok xs S := fun _ => rfl
  by_cases hn : (xs.length : Int) = n
  ·have e : eL (.tup xs) n = xs.all tM := by
    show (decide ((xs.length : Int) = n) && xs.all tM) = _
    rw [decide_eq_true hn]; rfl
   rw [e];have lc := Na (S := S) h.2 h.1 (a0 := some (.dat (.tup xs))) (a1 := some (.dat (.int n)));have al := Et (S := S) tM xs;simp! [i, hl, decide_eq_true hn, it, lc, al];rfl
  ·have e : eL (.tup xs) n = false := by
    show (decide ((xs.length : Int) = n) && xs.all tM) = _
    rw [decide_eq_false hn]; rfl
   rw [e];simp! [i, hl, decide_eq_false hn];rfl
 | ins c ns xs => exact h.elim
 | dct => exact h.elim
 | opq _ => exact h.elim
 | _ => rfl
theorem NW {d : PH.D} (h : d.Pl) : mT [.dat d] S = .ok (.dat (.bl (eL d 6))) S := by
 rw [show mT [.dat d] S = bS (rM [some (.dat d), none] S) from rfl]
 unfold rM;cases d with
 | tup xs =>
  have i : ∀ S, fIsi "tuple" (.dat (.tup xs)) S = .ok (.dat (.bl true)) S := fun _ => rfl
  have hl : ∀ S, dY (.dat (.tup xs)) S = .ok (.dat (.int (xs.length : Int))) S := fun _ => rfl
  have it : ∀ S, itemsOf (.dat (.tup xs)) S = .ok xs S := fun _ => rfl
  by_cases hn : (xs.length : Int) = 6
  ·have e : eL (.tup xs) 6 = xs.all tM := by
    show (decide ((xs.length : Int) = 6) && xs.all tM) = _
    rw [decide_eq_true hn]; rfl
   rw [e];have lc : Ao false (.nm 1) eV (aM cY (aB (aC 1) aI)) [some (.dat (.tup xs)), none] [1] xs S = .ok (.dat (.lst (xs.map fun x => PH.D.bl (tM x)))) S := by
    have k := fV (cl := false) (t := .nm 1) (e := aM cY (aB (aC 1) aI)) (ρ := [some (.dat (.tup xs)), none]) (S := S) (f := id) (g := fun x => PH.D.bl (tM x)) (xs := xs) (vs := [1]) (sz h.1) fun x hx => ⟨_, rfl, by
     have := EY (S := S) (EB h.2 x hx);simp! [this, id]⟩
    rw [CO] at k;rw [k];rfl
   have al := Et (S := S) tM xs;simp! [i, hl, decide_eq_true hn, it, lc, al];rfl
  ·have e : eL (.tup xs) 6 = false := by
    show (decide ((xs.length : Int) = 6) && xs.all tM) = _
    rw [decide_eq_false hn]; rfl
   rw [e];simp! [i, hl, decide_eq_false hn];rfl
 | ins c ns xs => exact h.elim
 | dct => exact h.elim
 | opq _ => exact h.elim
 | _ => rfl
theorem RT {xs : List PH.D} (h : PH.D.Pls xs) (hl : xs.length <= 1000) {a0 a1 : Option Vl} {lo hi : Int} : Ao false (.nm 4) eV fD [a0, a1, some (.dat (.int lo)), some (.dat (.int hi)), none] [4] xs S = .ok (.dat (.lst (xs.map fun x => PH.D.bl (inR lo hi x)))) S := by
 have k := fV (cl := false) (t := .nm 4) (e := fD) (ρ := [a0, a1, some (.dat (.int lo)), some (.dat (.int hi)), none]) (S := S) (f := id) (g := fun x => PH.D.bl (inR lo hi x)) (xs := xs) (vs := [4]) (sz hl) fun x hx => ⟨_, rfl, by
  have px := EB h x hx;have ii := EY (S := S) px;unfold fD;cases x with
  | int i =>
   have := inb (i := i) (lo := lo) (hi := hi) (S := S) (a := a0) (b := a1);exact this
  | ins c ns xs => exact px.elim
  | dct => exact px.elim
  | opq _ => exact px.elim
  | _ =>
   have ii' := ii;unfold tM at ii';simp! [id, ii'];rfl⟩
 rw [CO] at k;rw [k];rfl
theorem NX {d : PH.D} (h : d.Pl) : dN [.dat d] S = .ok (.dat (.bl (rK d))) S := by
 rw [show dN [.dat d] S = bS (fW [some (.dat d), none, none, none, none] S) from rfl]
 unfold fW;cases d with
 | tup xs =>
  have i : ∀ S, fIsi "tuple" (.dat (.tup xs)) S = .ok (.dat (.bl true)) S := fun _ => rfl
  have hl : ∀ S, dY (.dat (.tup xs)) S = .ok (.dat (.int (xs.length : Int))) S := fun _ => rfl
  cases xs with
  | nil => rfl
  | cons x r =>
   have hx := h.2.1;have i0 : ∀ S, bU (.dat (.tup (x :: r))) (.dat (.int 0)) S = .ok (.dat x) S := fun _ => eD
   have n0 : ¬ (((x :: r).length : Nat) : Int) = 0 := by simp only [bB]; omega
   obtain ⟨n, hn⟩ : ∃ n : Int, n = (((x :: r).length : Nat) : Int) := ⟨_, rfl⟩;rw [<- hn] at hl n0;cases x with
   | str w =>
    cases q : limits.lookup w with
    | none =>
     have e : rK (.tup (.str w :: r)) = false := by
      show (match limits.lookup w with | some (m, lo, hi) => decide (r.length = m) && r.all (inR lo hi) | none => false) = false
      rw [q]
     have il : ∀ S, eG true (.dat (.str w)) S = .ok (.dat (.bl true)) S := fun S => by
      simp only [eG, q, Option.isNone_none, if_true]
     rw [e];simp! [i, hl, decide_eq_false n0, i0, il];rfl
    | some v =>
     obtain ⟨m, lo, hi⟩ := v;have e : rK (.tup (.str w :: r)) = (decide (r.length = m) && r.all (inR lo hi)) := by
      show (match limits.lookup w with | some (m, lo, hi) => decide (r.length = m) && r.all (inR lo hi) | none => false) = _
      rw [q]
     have il : ∀ S, eG true (.dat (.str w)) S = .ok (.dat (.bl false)) S := fun S => by
      simp only [eG, q, Option.isNone_some, if_true]
     have lm : ∀ S, wJ (.dat (.str w)) S = .ok (.dat (.tup [.int (m : Int), .int lo, .int hi])) S := fun S => by
      simp only [wJ, q]
     have it : ∀ S, itemsOf (.dat (.tup r)) S = .ok r S := fun _ => rfl
     rw [e]
     by_cases hm : r.length = m
     ·have nm : n = (m : Int) + 1 := by rw [hn, <- hm]; simp
      have lc := RT (S := S) h.2.2 (by have := h.1; simp only [bB] at this; omega) (a0 := some (.dat (.tup (.str w :: r)))) (a1 := some (.dat (.int (m : Int)))) (lo := lo) (hi := hi)
      have al := Et (S := S) (inR lo hi) r;rw [decide_eq_true hm, zK];simp! [i, hl, decide_eq_false n0, i0, il, lm, decide_eq_true nm, yM, it, lc, al];rfl
     ·have nm : ¬ n = (m : Int) + 1 := by rw [hn]; simp only [bB]; omega
      rw [decide_eq_false hm, Bool.false_and];simp! [i, hl, decide_eq_false n0, i0, il, lm, decide_eq_false nm];rfl
   | ins c ns xs => exact hx.elim
   | dct => exact hx.elim
   | opq _ => exact hx.elim
   | _ =>
    simp! [i, hl, decide_eq_false n0, i0];rfl
 | ins c ns xs => exact h.elim
 | dct => exact h.elim
 | opq _ => exact h.elim
 | _ => rfl
def Ah (q : Str × Nat × Int × Int) : PH.D := .tup [.str q.1, .int (q.2.1 : Int), .int q.2.2.1, .int q.2.2.2]
theorem NN {xs : List PH.D} (h : PH.D.Pls xs) (hl : xs.length <= 1000) (hi' : xs.all tM = true) {a0 a1 : Option Vl} {w : Str} {m : Nat} {lo hi : Int} : Ao false (.nm 3) eV gH [a0, a1, some (.dat (Ah (w, m, lo, hi))), none] [3] xs S = .ok (.dat (.lst (xs.map fun x => PH.D.bl (inR lo hi x)))) S := by
 have k := fV (cl := false) (t := .nm 3) (e := gH) (ρ := [a0, a1, some (.dat (Ah (w, m, lo, hi))), none]) (S := S) (f := id) (g := fun x => PH.D.bl (inR lo hi x)) (xs := xs) (vs := [3]) (sz hl) fun x hx => ⟨_, rfl, by
  have px := bI.mp hi' x hx;have r2 : ∀ S, bU (.dat (Ah (w, m, lo, hi))) (.dat (.int 2)) S = .ok (.dat (.int lo)) S := fun _ => rfl
  have r3 : ∀ S, bU (.dat (Ah (w, m, lo, hi))) (.dat (.int 3)) S = .ok (.dat (.int hi)) S := fun _ => rfl
  unfold gH;cases x with
  | int i =>
   have e : inR lo hi (.int i) = (decide (lo <= i) && decide (i <= hi)) := rfl;rw [e]
   by_cases h1 : lo <= i
   ·simp! [id, gF, r2, r3, decide_eq_true h1]
    try rfl
   ·simp! [id, gF, r2, r3, decide_eq_false h1]
    try rfl
  | _ => cases px⟩
 rw [CO] at k;rw [k];rfl
theorem JN {w : Str} {r : List PH.D} (h : (PH.D.tup (.str w :: r)).Pl) {a1 a3 : Option Vl} {q : Str × Nat × Int × Int} :
  eR [some (.dat (.tup (.str w :: r))), a1, some (.dat (Ah q)), none] S = if q.1 = w /\ r.length = q.2.1 /\ r.all tM = true then .ret (.dat (.bl (r.all (inR q.2.2.1 q.2.2.2)))) S else .next [some (.dat (.tup (.str w :: r))), a1, none, none] S := by
 obtain ⟨z, m, lo, hi⟩ := q;have r0 : ∀ S, bU (.dat (Ah (z, m, lo, hi))) (.dat (.int 0)) S = .ok (.dat (.str z)) S := fun _ => rfl
 have r1 : ∀ S, bU (.dat (Ah (z, m, lo, hi))) (.dat (.int 1)) S = .ok (.dat (.int (m : Int))) S := fun _ => rfl
 have i0 : ∀ S, bU (.dat (.tup (.str w :: r))) (.dat (.int 0)) S = .ok (.dat (.str w)) S := fun _ => eD
 have pr : (PH.D.tup r).Pl := ⟨by have := h.1; simp only [bB] at this; omega, h.2.2⟩
 have io := wF (S := S) pr (n := (m : Int));have it : ∀ S, itemsOf (.dat (.tup r)) S = .ok r S := fun _ => rfl
 rw [eR];dsimp only
 by_cases hz : z = w
 ·by_cases hi' : r.length = m /\ r.all tM = true
  ·have e : eL (.tup r) (m : Int) = true := by
    show (decide ((r.length : Int) = (m : Int)) && r.all tM) = true
    rw [decide_eq_true (by omega), hi'.2]; rfl
   rw [e] at io;have lc := NN (S := S) pr.2 pr.1 hi'.2 (a0 := some (.dat (.tup (.str w :: r)))) (a1 := a1) (w := z) (m := m) (lo := lo) (hi := hi);have al := Et (S := S) (inR lo hi) r;rw [if_pos ⟨hz, hi'.1, hi'.2⟩];simp! [r0, r1, i0, decide_eq_true hz, yM, io, it, lc, al]
  ·have e : eL (.tup r) (m : Int) = false := by
    show (decide ((r.length : Int) = (m : Int)) && r.all tM) = false
    by_cases h1 : r.length = m
    ·have h2 : r.all tM = false := by
      cases q : r.all tM with
      | false => rfl
      | true => exact absurd ⟨h1, q⟩ hi'
     rw [h2, Ey]
    ·rw [decide_eq_false (by omega)]; rfl
   rw [e] at io;rw [if_neg (fun z => hi' z.2)]
   simp! [r0, r1, i0, decide_eq_true hz, yM, io]
 ·rw [if_neg (fun x => hz x.1)]
  simp! [r0, r1, i0, decide_eq_false hz]
theorem DB {w : Str} {r : List PH.D} (h : (PH.D.tup (.str w :: r)).Pl) {a1 : Option Vl} : ∀ (qs : List (Str × Nat × Int × Int)), (qs.map (·.1)).Nodup ->
  loop (.nm 2) eR (qs.map Ah) [some (.dat (.tup (.str w :: r))), a1, none, none] S = match qs.lookup w with
   | some (m, lo, hi) => if r.length = m /\ r.all tM = true then .ret (.dat (.bl (r.all (inR lo hi)))) S else .next [some (.dat (.tup (.str w :: r))), a1, none, none] S
   | none => .next [some (.dat (.tup (.str w :: r))), a1, none, none] S
 | [], _ => rfl
 | q :: qs, hn => by
  have st := JN (S := S) h (a1 := a1) (a3 := none) (q := q);have hn' := List.nodup_cons.mp (show (q.1 :: qs.map (·.1)).Nodup from hn)
  have ih := DB h (a1 := a1) qs hn'.2;rw [bA, loop];simp only [qR, cE, bM];rw [st, fH];obtain ⟨z, m, lo, hi⟩ := q;dsimp only
  by_cases hz : w = z
  ·subst hz
   rw [show (w == w) = true by simp]
   dsimp only
   by_cases hi' : r.length = m /\ r.all tM = true
   ·rw [if_pos ⟨rfl, hi'⟩, if_pos hi']
   ·rw [if_neg (fun x => hi' x.2), if_neg hi']
    dsimp only;rw [ih];have : qs.lookup w = none := by
     cases q : qs.lookup w with
     | none => rfl
     | some v => exact absurd (uR.mpr ⟨_, pJ q, rfl⟩) hn'.1
    rw [this]
  ·rw [show (w == z) = false by simpa using hz, if_neg (fun x => hz x.1.symm)]
   dsimp only;rw [ih]
theorem HL {lo hi : Int} {r : List PH.D} (h : r.all (inR lo hi) = true) : r.all tM = true := by
 rw [bI] at h ⊢;intro x hx;have := h x hx;cases x with
 | int i => rfl
 | _ => cases this
theorem QD {v : Vl} : lE [some v, none, none, none] S = (aK (bH (wD (fU (cF (m1 (fIsi "tuple") (aC 0)))) (wD (mB (aS B7 (m1 dY (aC 0)) (mC (.int 1)))) (fU (cF (m1 (fIsi "str") (aS bU (aC 0) (mC (.int 0)))))))) (bK (mC (.bl false))) aX)
 (aK (oZ (kQ (aC 1)) (.nm 2) eR)
 (bK (mC (.bl false))))) [some v, some (.dat (.lst (limits.map Ah))), none, none] S := (rfl)
theorem QE {d : PH.D} (h : d.Pl) : kN [.dat d] S = .ok (.dat (.bl (rK d))) S := by
 rw [CJ, QD];have itR : ∀ S, itemsOf (.dat (.lst (limits.map Ah))) S = .ok (limits.map Ah) S := fun _ => rfl
 cases d with
 | tup xs =>
  have i : ∀ S, fIsi "tuple" (.dat (.tup xs)) S = .ok (.dat (.bl true)) S := fun _ => rfl
  have hl : ∀ S, dY (.dat (.tup xs)) S = .ok (.dat (.int (xs.length : Int))) S := fun _ => rfl
  cases xs with
  | nil => rfl
  | cons x r =>
   have hx := h.2.1;have i0 : ∀ S, bU (.dat (.tup (x :: r))) (.dat (.int 0)) S = .ok (.dat x) S := fun _ => eD
   have n0 : ¬ (((x :: r).length : Nat) : Int) < 1 := by simp only [bB]; omega
   obtain ⟨n, hn⟩ : ∃ n : Int, n = (((x :: r).length : Nat) : Int) := ⟨_, rfl⟩;rw [<- hn] at hl n0;cases x with
   | str w =>
    have lp := DB (S := S) h (a1 := some (.dat (.lst (limits.map Ah)))) limits (by decide)
    have e : rK (.tup (.str w :: r)) = (match limits.lookup w with | some (m, lo, hi) => decide (r.length = m) && r.all (inR lo hi) | none => false) := rfl
    rw [e];cases q : limits.lookup w with
    | none =>
     rw [q] at lp;dsimp only at lp ⊢;simp! [i, hl, decide_eq_false n0, i0, itR, lp];rfl
    | some v =>
     obtain ⟨m, lo, hi⟩ := v;rw [q] at lp;dsimp only at lp ⊢
     by_cases hi' : r.length = m /\ r.all tM = true
     ·rw [if_pos hi'] at lp
      rw [decide_eq_true hi'.1, zK];simp! [i, hl, decide_eq_false n0, i0, itR, lp];rfl
     ·rw [if_neg hi'] at lp
      have ef : (decide (r.length = m) && r.all (inR lo hi)) = false := by
       by_cases h1 : r.length = m
       ·cases q2 : r.all (inR lo hi) with
        | false => exact Ey _
        | true => exact absurd ⟨h1, HL q2⟩ hi'
       ·rw [decide_eq_false h1]; rfl
      rw [ef];simp! [i, hl, decide_eq_false n0, i0, itR, lp];rfl
   | ins c ns xs => exact hx.elim
   | dct => exact hx.elim
   | opq _ => exact hx.elim
   | _ =>
    simp! [i, hl, decide_eq_false n0, i0];rfl
 | ins c ns xs => exact h.elim
 | dct => exact h.elim
 | opq _ => exact h.elim
 | _ => rfl
theorem Ea {lo hi : Int} {x : PH.D} (h : inR lo hi x = true) : ∃ k : Int, x = .int k /\ lo <= k /\ k <= hi := by
 cases x with
 | int k =>
  have h : (decide (lo <= k) && decide (k <= hi)) = true := h;rw [cA, decide_eq_true_eq, decide_eq_true_eq] at h;exact ⟨k, rfl, h⟩
 | _ => cases h
theorem RS {d : PH.D} (h : rK d = true) : ∃ c : Cmd, c.Ok /\ d = c.d := by
 cases d with
 | tup xs =>
  cases xs with
  | nil => cases h
  | cons x r =>
   cases x with
   | str w =>
    have h : (match limits.lookup w with | some (m, lo, hi) => decide (r.length = m) && r.all (inR lo hi) | none => false) = true := h
    cases q : limits.lookup w with
    | none => rw [q] at h; cases h
    | some v =>
     obtain ⟨m, lo, hi⟩ := v;rw [q] at h;dsimp only at h;rw [cA, decide_eq_true_eq] at h;have hm := pJ q;simp only [limits, cS, jM, or_false, Prod.mk.injEq] at hm;have l0 : m = 0 -> r = [] := fun e => List.length_eq_zero_iff.mp (by rw [h.1, e])
     have l1 : m = 1 -> ∃ k : Int, r = [.int k] /\ lo <= k /\ k <= hi := fun e => by
      match r, h with
      | [x], h =>
       obtain ⟨k, rfl, hk⟩ := Ea (by simpa using h.2)
       exact ⟨k, rfl, hk⟩
      | [], h => exact absurd h.1 (by rw [e]; decide)
      | _ :: _ :: _, h => exact absurd h.1 (by rw [e]; simp)
     have l2 : m = 2 -> ∃ k j : Int, r = [.int k, .int j] /\ (lo <= k /\ k <= hi) /\ lo <= j /\ j <= hi := fun e => by
      match r, h with
      | [x, y], h =>
       have h2 := h.2;simp only [fF, uS, nP, cA] at h2;obtain ⟨k, rfl, hk⟩ := Ea h2.1;obtain ⟨j, rfl, hj⟩ := Ea h2.2;exact ⟨k, j, rfl, hk, hj⟩
      | [], h => exact absurd h.1 (by rw [e]; decide)
      | [_], h => exact absurd h.1 (by rw [e]; simp)
      | _ :: _ :: _ :: _, h => exact absurd h.1 (by rw [e]; simp)
     rcases hm with ⟨rfl, rfl, rfl, rfl⟩ | ⟨rfl, rfl, rfl, rfl⟩ | ⟨rfl, rfl, rfl, rfl⟩ | ⟨rfl, rfl, rfl, rfl⟩ | ⟨rfl, rfl, rfl, rfl⟩ | ⟨rfl, rfl, rfl, rfl⟩ | ⟨rfl, rfl, rfl, rfl⟩ | ⟨rfl, rfl, rfl, rfl⟩ | ⟨rfl, rfl, rfl, rfl⟩
     ·obtain ⟨k, rfl, hk⟩ := l1 rfl; exact ⟨.go k, hk, rfl⟩
     ·obtain ⟨k, rfl, hk⟩ := l1 rfl; exact ⟨.turn k, hk, rfl⟩
     ·rw [l0 rfl]; exact ⟨.mirror, trivial, rfl⟩
     ·obtain ⟨k, rfl, hk⟩ := l1 rfl; exact ⟨.scale k, hk, rfl⟩
     ·obtain ⟨k, j, rfl, hk, hj⟩ := l2 rfl; exact ⟨.aim k j, ⟨hk, hj⟩, rfl⟩
     ·obtain ⟨k, j, rfl, hk, hj⟩ := l2 rfl; exact ⟨.place k j, ⟨hk, hj⟩, rfl⟩
     ·rw [l0 rfl]; exact ⟨.mark, trivial, rfl⟩
     ·rw [l0 rfl]; exact ⟨.ret, trivial, rfl⟩
     ·rw [l0 rfl]; exact ⟨.exch, trivial, rfl⟩
   | _ => cases h
 | _ => cases h
end
abbrev dD (a b : Int) : PH.D := .tup [.int a, .int b]
def vN (b p q r : PH.D) : List (Str × Vl) := [("book", .dat b), ("place", .dat p), ("heading", .dat q), ("mark", .dat r)]
def iZ (b : PH.D) (z : Pen) : Cell := .ins "Live" (vN b (dD z.x z.y) (dD z.u z.v) (dD z.p z.q))
abbrev Kr : Er := ⟨"NoPart", [], []⟩
abbrev Px : Er := ⟨"NoNumber", [], []⟩
abbrev EI : Er := ⟨"NoPen", [], []⟩
abbrev Py : Er := ⟨"NoCommand", [], []⟩
abbrev Gg : Er := ⟨"NoProcedure", [], []⟩
section
variable {T : aN} {n : Nat} {b : PH.D} {z z' : Pen}
theorem EN {m : Str} (h : T[n]? = some (iZ b z)) (hm : m ≠ "book" /\ m ≠ "place" /\ m ≠ "heading" /\ m ≠ "mark" := by decide +kernel) : jA T "Live" m (.cel n) = true := by
 obtain ⟨h1, h2, h3, h4⟩ := hm;simp only [jA, h];unfold iZ vN;simp only [fF, uS, nP, cA, decide_eq_true_eq];exact ⟨trivial, Ne.symm h1, Ne.symm h2, Ne.symm h3, Ne.symm h4⟩
theorem Co {p q r x : PH.D} : kA "place" (.dat x) (vN b p q r) = vN b x q r := by
 unfold vN;simp only [kA, tR, String.reduceEq, if_false, if_true]
theorem FX {p q r x : PH.D} : kA "heading" (.dat x) (vN b p q r) = vN b p x r := by
 unfold vN;simp only [kA, tR, String.reduceEq, if_false, if_true]
theorem FW {p q r x : PH.D} : kA "mark" (.dat x) (vN b p q r) = vN b p q x := by
 unfold vN;simp only [kA, tR, String.reduceEq, if_false, if_true]
theorem sl02 {S : aN} : xX false (.dat z.d) (some 0) (some 2) S = .ok (.dat (dD z.x z.y)) S := rfl
theorem sl24 {S : aN} : xX false (.dat z.d) (some 2) (some 4) S = .ok (.dat (dD z.u z.v)) S := rfl
theorem sl46 {S : aN} : xX false (.dat z.d) (some 4) (some 6) S = .ok (.dat (dD z.p z.q)) S := rfl
theorem moveF {p q r : PH.D} (h : T[n]? = some (.ins "Live" (vN b p q r))) : eZ [.cel n, .dat z'.d] T = .ok (.dat .non) (T.set n (iZ b z')) := by
 have s1 : ∀ {ρ : Ev}, kW "Live" "place" ρ (.dat (dD z'.x z'.y)) (.cel n) T = .next ρ (T.set n (.ins "Live" (vN b (dD z'.x z'.y) q r))) := fun {ρ} => by rw [iI h (by unfold vN; simp), Co]
 have a1 := lO (d := Cell.ins "Live" (vN b (dD z'.x z'.y) q r)) h;have s2 : ∀ {ρ : Ev}, kW "Live" "heading" ρ (.dat (dD z'.u z'.v)) (.cel n) (T.set n (.ins "Live" (vN b (dD z'.x z'.y) q r))) = .next ρ (T.set n (.ins "Live" (vN b (dD z'.x z'.y) (dD z'.u z'.v) r))) := fun {ρ} => by rw [iI a1 (by unfold vN; simp), FX, cP]
 have a2 := lO (d := Cell.ins "Live" (vN b (dD z'.x z'.y) (dD z'.u z'.v) r)) h;have s3 : ∀ {ρ : Ev}, kW "Live" "mark" ρ (.dat (dD z'.p z'.q)) (.cel n) (T.set n (.ins "Live" (vN b (dD z'.x z'.y) (dD z'.u z'.v) r))) = .next ρ (T.set n (.ins "Live" (vN b (dD z'.x z'.y) (dD z'.u z'.v) (dD z'.p z'.q)))) := fun {ρ} => by rw [iI a2 (by unfold vN; simp), FW, cP]
 have q1 : ∀ S, xX false (.dat (.tup z'.ds)) (some 0) (some 2) S = .ok (.dat (dD z'.x z'.y)) S := fun _ => sl02
 have q2 : ∀ S, xX false (.dat (.tup z'.ds)) (some 2) (some 4) S = .ok (.dat (dD z'.u z'.v)) S := fun _ => sl24
 have q3 : ∀ S, xX false (.dat (.tup z'.ds)) (some 4) (some 6) S = .ok (.dat (dD z'.p z'.q)) S := fun _ => sl46
 rw [uQ]; unfold iO;simp! [q1, q2, q3, s1, s2, s3];rfl
theorem moveB (h : T[n]? = some (.ins "Live" [("book", .dat b)])) : eZ [.cel n, .dat z'.d] T = .ok (.dat .non) (T.set n (iZ b z')) := by
 have e1 : kA "place" (.dat (dD z'.x z'.y)) [("book", .dat b)] = ([("book", Vl.dat b), ("place", .dat (dD z'.x z'.y))] : List (Str × Vl)) := by simp only [kA, tR, String.reduceEq, if_false, if_true]
 have e2 : kA "heading" (.dat (dD z'.u z'.v)) [("book", .dat b), ("place", .dat (dD z'.x z'.y))] = ([("book", Vl.dat b), ("place", .dat (dD z'.x z'.y)), ("heading", .dat (dD z'.u z'.v))] : List (Str × Vl)) := by simp only [kA, tR, String.reduceEq, if_false, if_true]
 have e3 : kA "mark" (.dat (dD z'.p z'.q)) [("book", .dat b), ("place", .dat (dD z'.x z'.y)), ("heading", .dat (dD z'.u z'.v))] = vN b (dD z'.x z'.y) (dD z'.u z'.v) (dD z'.p z'.q) := by unfold vN; simp only [kA, tR, String.reduceEq, if_false, if_true]
 have s1 : ∀ {ρ : Ev}, kW "Live" "place" ρ (.dat (dD z'.x z'.y)) (.cel n) T = .next ρ (T.set n (.ins "Live" [("book", Vl.dat b), ("place", .dat (dD z'.x z'.y))])) := fun {ρ} => by rw [iI h (by simp), e1]
 have a1 := lO (d := Cell.ins "Live" [("book", Vl.dat b), ("place", .dat (dD z'.x z'.y))]) h;have s2 : ∀ {ρ : Ev}, kW "Live" "heading" ρ (.dat (dD z'.u z'.v)) (.cel n) (T.set n (.ins "Live" [("book", Vl.dat b), ("place", .dat (dD z'.x z'.y))])) = .next ρ (T.set n (.ins "Live" [("book", Vl.dat b), ("place", .dat (dD z'.x z'.y)), ("heading", .dat (dD z'.u z'.v))])) := fun {ρ} => by rw [iI a1 (by simp), e2, cP]
 have a2 := lO (d := Cell.ins "Live" [("book", Vl.dat b), ("place", .dat (dD z'.x z'.y)), ("heading", .dat (dD z'.u z'.v))]) h;have s3 : ∀ {ρ : Ev}, kW "Live" "mark" ρ (.dat (dD z'.p z'.q)) (.cel n) (T.set n (.ins "Live" [("book", Vl.dat b), ("place", .dat (dD z'.x z'.y)), ("heading", .dat (dD z'.u z'.v))])) = .next ρ (T.set n (iZ b z')) := fun {ρ} => by rw [iI a2 (by simp), e3, cP]; rfl
 have q1 : ∀ S, xX false (.dat (.tup z'.ds)) (some 0) (some 2) S = .ok (.dat (dD z'.x z'.y)) S := fun _ => sl02
 have q2 : ∀ S, xX false (.dat (.tup z'.ds)) (some 2) (some 4) S = .ok (.dat (dD z'.u z'.v)) S := fun _ => sl24
 have q3 : ∀ S, xX false (.dat (.tup z'.ds)) (some 4) (some 6) S = .ok (.dat (dD z'.p z'.q)) S := fun _ => sl46
 rw [uQ]; unfold iO;simp! [q1, q2, q3, s1, s2, s3];rfl
theorem NM (h : T[n]? = some (iZ b z)) : EU "Live" "book" (.cel n) T = .ok (.dat b) T := B3 h rfl
theorem Ff (h : T[n]? = some (iZ b z)) : EU "Live" "place" (.cel n) T = .ok (.dat (dD z.x z.y)) T := B3 h (by unfold vN; rfl)
theorem Hv (h : T[n]? = some (iZ b z)) : EU "Live" "heading" (.cel n) T = .ok (.dat (dD z.u z.v)) T := B3 h (by unfold vN; rfl)
theorem Hu (h : T[n]? = some (iZ b z)) : EU "Live" "mark" (.cel n) T = .ok (.dat (dD z.p z.q)) T := B3 h (by unfold vN; rfl)
theorem Ki (h : T[n]? = some (iZ b z)) : eY [.cel n] T = .ok (.dat z.d) T := by
 have a1 : cL false (.dat (dD z.x z.y)) (.dat (dD z.u z.v)) T = .ok (.dat (.tup [.int z.x, .int z.y, .int z.u, .int z.v])) T := rfl;have a2 : cL false (.dat (.tup [.int z.x, .int z.y, .int z.u, .int z.v])) (.dat (dD z.p z.q)) T = .ok (.dat z.d) T := rfl;rw [HR]; unfold sQ;simp! [DN, Ff h, Hv h, Hu h, a1, a2];rfl
theorem qY (h : T[n]? = some (iZ b z)) : tA "Live" eY (.cel n) T = .ok (.dat z.d) T := by
 unfold tA;rw [if_pos (EN h), Ki h];rfl
theorem LO {d : PH.D} (hd : d.Pl) (h : T[n]? = some (iZ b z)) : (gM d 3 = false -> xZ "Live" gD (.cel n) (.dat d) T = .err Kr T) /\ (gM d 3 = true -> ∃ x : PH.D, xZ "Live" gD (.cel n) (.dat d) T = .ok (.dat x) T) := by
 have w := F6 (S := T) hd (b := 3);unfold xZ;rw [if_pos (EN h), CI]; unfold lD;cases q : gM d 3 with
 | false =>
  rw [q] at w;refine ⟨fun _ => ?_, fun e => by cases e⟩
  simp! [w];rfl
 | true =>
  rw [q] at w;refine ⟨fun e => (by cases e), fun _ => ?_⟩
  cases d with
  | int i =>
   by_cases h0 : i = 0
   ·refine ⟨dD z.x z.y, ?_⟩
    simp! [w, decide_eq_true h0, DN, Ff h];rfl
   ·by_cases h1 : i = 1
    ·refine ⟨dD z.u z.v, ?_⟩
     simp! [w, decide_eq_false h0, decide_eq_true h1, DN, Hv h];rfl
    ·refine ⟨dD z.p z.q, ?_⟩
     simp! [w, decide_eq_false h0, decide_eq_false h1, DN, Hu h];rfl
  | _ => cases q
theorem KN {d v : PH.D} (hd : d.Pl) (hv : v.Pl) (h : T[n]? = some (iZ b z)) : (gM d 3 = false -> dM [.cel n, .dat d, .dat v] T = .err Kr T) /\ (gM d 3 = true -> eL v 2 = false -> dM [.cel n, .dat d, .dat v] T = .err Px T) /\ (gM d 3 = true -> eL v 2 = true -> ∃ z' : Pen, dM [.cel n, .dat d, .dat v] T = .ok (.dat .non) (T.set n (iZ b z'))) := by
 have w := F6 (S := T) hd (b := 3);rw [CH]; unfold lC;cases q : gM d 3 with
 | false =>
  rw [q] at w;refine ⟨fun _ => ?_, fun e => (by cases e), fun e => (by cases e)⟩
  simp! [w];rfl
 | true =>
  rw [q] at w;refine ⟨fun e => (by cases e), fun _ e2 => ?_, fun _ e2 => ?_⟩
  ·cases v with
   | tup xs =>
    have i : ∀ S, fIsi "tuple" (.dat (.tup xs)) S = .ok (.dat (.bl true)) S := fun _ => rfl
    have hl : ∀ S, dY (.dat (.tup xs)) S = .ok (.dat (.int (xs.length : Int))) S := fun _ => rfl
    match xs, hv, e2 with
    | [x, y], hv, e2 =>
     have w1 := Au (S := T) hv.2.1;have w2 := Au (S := T) hv.2.2.1;have l2 : ∀ S, dY (.dat (.tup [x, y])) S = .ok (.dat (.int 2)) S := fun _ => rfl
     have i0 : ∀ S, bU (.dat (.tup [x, y])) (.dat (.int 0)) S = .ok (.dat x) S := fun _ => rfl
     have i1 : ∀ S, bU (.dat (.tup [x, y])) (.dat (.int 1)) S = .ok (.dat y) S := fun _ => rfl
     have e3 : (tM x && tM y) = false := by
      have : (decide ((2 : Int) = 2) && (tM x && (tM y && true))) = false := e2
      simpa using this
     cases q1 : tM x with
     | false =>
      rw [q1] at w1;simp! [w, l2, i0, w1];rfl
     | true =>
      rw [q1, zK] at e3;rw [q1] at w1;rw [e3] at w2;simp! [w, l2, i0, i1, w1, w2];rfl
    | [], _, _ => simp! [w]; rfl
    | [x], _, _ => simp! [w]; rfl
    | x :: y :: k :: r, _, _ =>
     have hl : ∀ S, dY (.dat (.tup (x :: y :: k :: r))) S = .ok (.dat (.int (((x :: y :: k :: r).length : Nat) : Int))) S := fun _ => rfl
     have i : ∀ S, fIsi "tuple" (.dat (.tup (x :: y :: k :: r))) S = .ok (.dat (.bl true)) S := fun _ => rfl
     obtain ⟨m, hm⟩ : ∃ m : Int, m = (((x :: y :: k :: r).length : Nat) : Int) := ⟨_, rfl⟩;rw [<- hm] at hl;have n2 : ¬ m = 2 := by rw [hm]; simp only [bB]; omega
     simp! [w, i, hl, decide_eq_false n2];rfl
   | ins c ns xs => exact hv.elim
   | dct => exact hv.elim
   | opq _ => exact hv.elim
   | _ => simp! [w]; rfl
  ·obtain ⟨i, j, rfl⟩ : ∃ i j : Int, v = dD i j := by
    cases v with
    | tup xs =>
     have e2 : (decide ((xs.length : Int) = 2) && xs.all tM) = true := e2;rw [cA, decide_eq_true_eq] at e2
     match xs, e2 with
     | [x, y], e2 =>
      have := e2.2;simp only [fF, uS, nP, cA] at this;obtain ⟨h1, h2⟩ := this;cases x with
      | int i => cases y with
       | int j => exact ⟨i, j, rfl⟩
       | _ => cases h2
      | _ => cases h1
     | [], e2 => exact absurd e2.1 (by decide)
     | [_], e2 => exact absurd e2.1 (by simp)
     | _ :: _ :: _ :: r, e2 => exact absurd e2.1 (by simp only [bB]; omega)
    | _ => cases e2
   have w1 := Au (S := T) (d := .int i) trivial;have w2 := Au (S := T) (d := .int j) trivial;unfold tM at w1 w2;have l2 : ∀ S, dY (.dat (.tup [.int i, .int j])) S = .ok (.dat (.int 2)) S := fun _ => rfl
   have i0 : ∀ S, bU (.dat (.tup [.int i, .int j])) (.dat (.int 0)) S = .ok (.dat (.int i)) S := fun _ => rfl
   have i1 : ∀ S, bU (.dat (.tup [.int i, .int j])) (.dat (.int 1)) S = .ok (.dat (.int j)) S := fun _ => rfl
   have hh : T[n]? = some (.ins "Live" (vN b (dD z.x z.y) (dD z.u z.v) (dD z.p z.q))) := h;cases d with
   | int k =>
    by_cases h0 : k = 0
    ·refine ⟨{ z with x := i, y := j }, ?_⟩
     have s1 : ∀ {ρ : Ev}, kW "Live" "place" ρ (.dat (.tup [.int i, .int j])) (.cel n) T = .next ρ (T.set n (iZ b { z with x := i, y := j })) := fun {ρ} => by rw [iI hh (by unfold vN; simp), Co]; rfl
     simp! [w, l2, i0, i1, w1, w2, decide_eq_true h0, s1];rfl
    ·by_cases h1 : k = 1
     ·refine ⟨{ z with u := i, v := j }, ?_⟩
      have s1 : ∀ {ρ : Ev}, kW "Live" "heading" ρ (.dat (.tup [.int i, .int j])) (.cel n) T = .next ρ (T.set n (iZ b { z with u := i, v := j })) := fun {ρ} => by rw [iI hh (by unfold vN; simp), FX]; rfl
      simp! [w, l2, i0, i1, w1, w2, decide_eq_false h0, decide_eq_true h1, s1];rfl
     ·refine ⟨{ z with p := i, q := j }, ?_⟩
      have s1 : ∀ {ρ : Ev}, kW "Live" "mark" ρ (.dat (.tup [.int i, .int j])) (.cel n) T = .next ρ (T.set n (iZ b { z with p := i, q := j })) := fun {ρ} => by rw [iI hh (by unfold vN; simp), FW]; rfl
      simp! [w, l2, i0, i1, w1, w2, decide_eq_false h0, decide_eq_false h1, s1];rfl
   | _ => cases q
theorem Kj {v : PH.D} (h : eL v 6 = true) : ∃ z : Pen, v = z.d := by
 cases v with
 | tup xs =>
  have e2 : (decide ((xs.length : Int) = 6) && xs.all tM) = true := h;rw [cA, decide_eq_true_eq] at e2
  match xs, e2 with
  | [a, b, c, d, e, f], e2 =>
   have := e2.2;simp only [fF, uS, nP, cA] at this;obtain ⟨h1, h2, h3, h4, h5, h6⟩ := this;have key : ∀ {x : PH.D}, tM x = true -> ∃ i : Int, x = .int i := fun {x} hx => by
    cases x with
    | int i => exact ⟨i, rfl⟩
    | _ => cases hx
   obtain ⟨a, rfl⟩ := key h1;obtain ⟨b, rfl⟩ := key h2;obtain ⟨c, rfl⟩ := key h3;obtain ⟨d, rfl⟩ := key h4;obtain ⟨e, rfl⟩ := key h5;obtain ⟨f, rfl⟩ := key h6;exact ⟨⟨a, b, c, d, e, f⟩, rfl⟩
  | [], e2 => exact absurd e2.1 (by decide)
  | [_], e2 => exact absurd e2.1 (by simp)
  | [_, _], e2 => exact absurd e2.1 (by simp)
  | [_, _, _], e2 => exact absurd e2.1 (by simp)
  | [_, _, _, _], e2 => exact absurd e2.1 (by simp)
  | [_, _, _, _, _], e2 => exact absurd e2.1 (by simp)
  | _ :: _ :: _ :: _ :: _ :: _ :: _ :: r, e2 => exact absurd e2.1 (by simp only [bB]; omega)
 | _ => cases h
theorem JP (h : T[n]? = some (.ins "Live" [])) : dG [.cel n, .dat b, .dat z'.d] T = .ok (.dat .non) (T.set n (iZ b z')) := by
 have ck := AC (S := T) (z := z');have s1 : ∀ {ρ : Ev}, kW "Live" "book" ρ (.dat b) (.cel n) T = .next ρ (T.set n (.ins "Live" [("book", .dat b)])) := fun {ρ} => by rw [iI h (by simp)]; rfl
 have a1 := lO (d := Cell.ins "Live" [("book", Vl.dat b)]) h;have mv := moveB (z' := z') a1;rw [cP] at mv;have ii : jA (T.set n (.ins "Live" [("book", .dat b)])) "Live" "move_to" (.cel n) = true := by
  have ne : (Str.ofString "book" : Str) ≠ Str.ofString "move_to" := by decide +kernel
  simp only [jA, a1, fF, uS, nP, cA, decide_eq_true_eq];exact ⟨trivial, ne⟩
 rw [Aa]; unfold nA;simp! [ck, s1, Ec ii, mv];rfl
theorem Gx {v : PH.D} (hv : v.Pl) (h : eL v 6 = false) : dG [.cel n, .dat b, .dat v] T = .err EI T := by
 have ip := NW (S := T) hv;rw [h] at ip;have ck : kD [.dat v] T = .err EI T := by
  rw [AZ]; unfold mZ;simp! [ip];rfl
 rw [Aa]; unfold nA;simp! [ck];rfl
theorem Cv {v : PH.D} (hv : v.Pl) (ls : LS T) : (eL v 6 = false -> sH true "Live" dG [.dat b] (.dat v) T = .err EI T) /\ (∀ z' : Pen, v = z'.d -> sH true "Live" dG [.dat b] (.dat v) T = .ok (.cel T.length) (T ++ [iZ b z'])) := by
 refine ⟨fun h => ?_, fun z' e => ?_⟩
 ·have := Gx (T := T ++ [.ins "Live" []]) (n := T.length) (b := b) hv h
  unfold sH;rw [show [Vl.dat b] ++ [.dat v] = [.dat b, .dat v] from rfl, this]
  unfold made;dsimp only;rw [List.take_left, if_pos (LS.all ls)]
 ·subst e
  have at0 : (T ++ [Cell.ins "Live" []])[T.length]? = some (.ins "Live" []) := by simp
  have := JP (b := b) (z' := z') at0;unfold sH;rw [show [Vl.dat b] ++ [.dat z'.d] = [.dat b, .dat z'.d] from rfl, this]
  unfold made;dsimp only;rw [if_pos rfl, nD _ _ (cN _), Nat.sub_self];rfl
theorem NH {d : PH.D} (hd : d.Pl) : (rK d = false -> uV [.dat z.d, .dat d] T = .err Py T) /\ (rK d = true -> ∃ z' : Pen, uV [.dat z.d, .dat d] T = .ok (.dat z'.d) T) := by
 refine ⟨fun h => ?_, fun h => ?_⟩
 ·have ic := NX (S := T) hd
  rw [h] at ic;have ck := AC (S := T) (z := z);rw [IZ]; unfold yR;simp! [ck, ic];rfl
 ·obtain ⟨c, hc, rfl⟩ := RS h
  exact ⟨c.run z, Kt hc⟩
theorem JQ {d : PH.D} (hd : d.Pl) (h : T[n]? = some (iZ b z)) : (rK d = false -> gJ [.cel n, .dat d] T = .err Py T) /\ (rK d = true -> ∃ z' : Pen, gJ [.cel n, .dat d] T = .ok (.cel n) (T.set n (iZ b z'))) := by
 obtain ⟨m1, m2⟩ := NH (T := T) (z := z) hd;have pr := qY h;have ii : jA T "Live" "move_to" (.cel n) = true := EN h;rw [GM]; unfold pQ;refine ⟨fun e => ?_, fun e => ?_⟩
 ·have mv := m1 e
  simp! [Ec ii, pr, mv];rfl
 ·obtain ⟨z', mv⟩ := m2 e
  have mt := moveF (z' := z') (T := T) (n := n) (b := b) (show T[n]? = some (.ins "Live" (vN b (dD z.x z.y) (dD z.u z.v) (dD z.p z.q))) from h)
  refine ⟨z', ?_⟩
  simp! [Ec ii, pr, mv, mt];rfl
end
def IW (v : PH.D) : Prop := ∀ S, qZ [.dat v] S = .ok (.dat (.bl false)) S
section
variable {S T : aN} {bs : List (List Stt)} {p n : Nat} {z : Pen}
theorem ls_lv {T : aN} {n : Nat} {b : PH.D} {z : Pen} (ls : LS T) : LS (T.set n (iZ b z)) := fun c hc m => by
 rcases rS hc with h | rfl
 ·exact ls c h m
 ·rfl
theorem jX {T : aN} {e : Er} (ls : LS T) : (trunc T.length (.err e T) : Res Vl) = .err e T := by
 unfold trunc;dsimp only;rw [List.take_length, if_pos (bI.mpr fun c hc => ls c hc _)]
theorem has97 (hl : bs.length <= 10) {d : PH.D} (h : d.Pl) : gY [.dat (bF bs), .dat d] S = .ok (.dat (.bl (gM d bs.length))) S := by
 cases d with
 | int i => exact LK hl
 | ins c ns xs => exact h.elim
 | dct => exact h.elim
 | opq _ => exact h.elim
 | _ =>
  have ii := EY (S := S) h;unfold tM at ii;rw [tK];unfold hC;simp! [ii];rfl
theorem CA {a0 a1 a2 a5 : Option Vl} {v : PH.D} {r : List PH.D} (hv : IW v) : ∀ (xs : List Int) (i : Nat), (∀ b ∈ xs, b = 0 \/ b = 1) -> ∃ ρ', loop (.tp [3, 4]) eQ (dR i (xs.map PH.D.int ++ v :: r)) [a0, a1, a2, none, none, a5] S = .err (Hq ((i + xs.length : Nat) : Int)) ρ' S
 | [], i, _ => by
  rw [cJ, kI, dR, loop];simp only [qR, kB, bB, dQ, if_true, cE, bM];rw [eQ];simp! [hv S];exact ⟨_, rfl⟩
 | b :: xs, i, h => by
  have hb : (decide (0 <= b) && decide (b <= 1)) = true := by rcases h b (bD ..) with rfl | rfl <;> rfl
  obtain ⟨ρ', ih⟩ := CA (a0 := a0) (a1 := a1) (a2 := a2) (a5 := a5) (r := r) hv xs (i + 1) fun b hb => h b (aU _ hb)
  rw [bA, jK, dR, loop];simp only [qR, kB, bB, dQ, if_true, cE, bM];rw [eQ];simp! [DF, hb];rw [<- eQ];refine ⟨ρ', ?_⟩
  rw [ih]
  congr 3
  omega
inductive NoRunV : PH.D -> Prop
 | bad {xs : List Int} {v : PH.D} {r : List PH.D} (hx : ∀ b ∈ xs, b = 0 \/ b = 1) (hv : IW v) : NoRunV (.lst (xs.map PH.D.int ++ v :: r))
 | non : NoRunV .non
 | int {i : Int} : NoRunV (.int i)
 | str {s : Str} : NoRunV (.str s)
 | tup {xs : List PH.D} : NoRunV (.tup xs)
theorem RM (hl : bs.length <= 10) (ls : LS S) {d t : PH.D} (h : d.Pl) (ht : NoRunV t) : (gM d bs.length = false -> dW [.dat (bF bs), .dat d, .dat t] S = .err Gg S) /\ (gM d bs.length = true -> ∃ i : Int, dW [.dat (bF bs), .dat d, .dat t] S = .err (Hq i) S) := by
 have hp := has97 (S := S) hl h;rw [CG];unfold lA;refine ⟨fun q => ?_, fun q => ?_⟩
 ·rw [q] at hp
  simp! [hp];exact jX ls
 ·rw [q] at hp
  cases ht with
  | @bad xs v r hx hv =>
   obtain ⟨ρ', lp⟩ := CA (S := S) (a0 := some (.dat (bF bs))) (a1 := some (.dat d)) (a2 := some (.dat (.lst (xs.map PH.D.int ++ v :: r)))) (a5 := none) (r := r) hv xs 0 hx;refine ⟨((0 + xs.length : Nat) : Int), ?_⟩
   simp! [hp, lp];exact jX ls
  | non => refine ⟨-1, ?_⟩; simp! [hp]; exact jX ls
  | int => refine ⟨-1, ?_⟩; simp! [hp]; exact jX ls
  | str => refine ⟨-1, ?_⟩; simp! [hp]; exact jX ls
  | tup => refine ⟨-1, ?_⟩; simp! [hp]; exact jX ls
theorem RV (hl : bs.length <= 10) (ls : LS T) {d t : PH.D} (hd : d.Pl) (ht : NoRunV t) (h : T[n]? = some (iZ (bF bs) z)) : (gM d bs.length = false -> fT [.cel n, .dat d, .dat t] T = .err Gg T) /\ (gM d bs.length = true -> ∃ i : Int, fT [.cel n, .dat d, .dat t] T = .err (Hq i) T) := by
 obtain ⟨e1, e2⟩ := RM (S := T) hl ls hd ht;have pr := qY h;have fb := NM h;have ran : ∀ {e : Er}, dW [.dat (bF bs), .dat d, .dat t] T = .err e T -> fT [.cel n, .dat d, .dat t] T = .err e T := fun {e} he => by
  have r := N0 (x3 := .dat z.d) he;rw [GN]; unfold pR;simp! [IF, DK, DL, DN, fb, pr, jK, kI, r];rfl
 refine ⟨fun q => ran (e1 q), fun q => ?_⟩
 obtain ⟨i, e⟩ := e2 q;exact ⟨i, ran e⟩
end
def uI (nb k : Int) (part thing : PH.D) : Option Nat :=
 if k < 2 then (if gM part 3 = false then some 0 else if k = 1 /\ eL thing 2 = false then some 1 else none)
 else if k = 2 then (if eL thing 6 = false then some 2 else none)
 else if k = 3 then (if rK thing = false then some 3 else none)
 else if gM part nb = false then some 4 else some 5
def A9 : Option Nat -> PH.D
 | none => .lst []
 | some i => .lst [.int (i : Int), .int 9]
def MG : List Str := ["NoPart", "NoNumber", "NoPen", "NoCommand", "NoProcedure", "NoRun"]
abbrev OV : List Str := ["NoBook", "NoCommand", "NoNumber", "NoPart", "NoPath", "NoPen", "NoProcedure", "NoRun"]
abbrev Jo : FS := (bH (mB (aS dZ (aC 2) (mC (.int 0)))) (bJ (aS (xZ "Live" gD) (aC 0) (aC 3)) (.nm 4)) (bH (mB (aS dZ (aC 2) (mC (.int 1)))) (Cy "Live" dM (aC 4) (aC 0) (aC 3)) (bH (mB (aS dZ (aC 2) (mC (.int 2)))) (bJ (sF true "Live" 1 dG (aB (aC 1) aI) (aC 4)) (.nm 4)) (bH (mB (aS dZ (aC 2) (mC (.int 3)))) (zX "Live" gJ 0 (aC 4)) (bJ (zY "Live" fT 0 (aB (aC 3) (aB (aC 4) aI))) (.nm 4))))))
section
variable {S T : aN} {bs : List (List Stt)} {p n : Nat} {z : Pen} {k : Int} {part thing : PH.D}
theorem RW (hl : bs.length <= 10) (ls : LS T) (hp : part.Pl) (ht : thing.Pl) (hk : 4 <= k -> NoRunV thing) (h0 : 0 <= k) (h : T[n]? = some (iZ (bF bs) z)) :
  (uI bs.length k part thing = none -> ∃ (v : Vl) (z' : Pen) (ext : List Cell), Jo [some (.cel n), some (.dat (bF bs)), some (.dat (.int k)), some (.dat part), some (.dat thing), some (.dat (.lst [])), none, none] T = .next [some (.cel n), some (.dat (bF bs)), some (.dat (.int k)), some (.dat part), some v, some (.dat (.lst [])), none, none] (T.set n (iZ (bF bs) z') ++ ext)) /\
  (∀ i, uI bs.length k part thing = some i -> ∃ e : Er, MG[i]? = some e.cls /\ Jo [some (.cel n), some (.dat (bF bs)), some (.dat (.int k)), some (.dat part), some (.dat thing), some (.dat (.lst [])), none, none] T = .err e [some (.cel n), some (.dat (bF bs)), some (.dat (.int k)), some (.dat part), some (.dat thing), some (.dat (.lst [])), none, none] T) := by
 have same : T = T.set n (iZ (bF bs) z) := by
  obtain ⟨h1, e⟩ := aJ.mp h;rw [<- e, Ie]
 have ii := EN (m := "") h;unfold uI Jo
 by_cases k2 : k < 2
 ·rw [if_pos k2]
  obtain ⟨g1, g2⟩ := LO (T := T) hp h;obtain ⟨s1, s2, s3⟩ := KN (T := T) hp ht h;rcases (by omega : k = 0 \/ k = 1) with rfl | rfl
  ·cases q : gM part 3 with
   | false =>
    refine ⟨fun e => (by cases e), fun i e => ?_⟩
    cases e;refine ⟨Kr, rfl, ?_⟩
    have g := g1 q;simp! [g]
   | true =>
    refine ⟨fun _ => ?_, fun i e => (by cases e)⟩
    obtain ⟨x, g⟩ := g2 q;refine ⟨.dat x, z, [], ?_⟩
    rw [cZ, <- same];simp! [g]
  ·cases q : gM part 3 with
   | false =>
    refine ⟨fun e => (by cases e), fun i e => ?_⟩
    cases e;refine ⟨Kr, rfl, ?_⟩
    have g := s1 q;have st : ∀ {ρ : Ev}, uH "Live" dM ρ (.dat thing) (.cel n) (.dat part) T = .err Kr ρ T := fun {ρ} => by
     unfold uH;rw [if_pos ii, g];rfl
    simp! [Cy, st]
   | true =>
    cases q2 : eL thing 2 with
    | false =>
     refine ⟨fun e => (by cases e), fun i e => ?_⟩
     cases e;refine ⟨Px, rfl, ?_⟩
     have g := s2 q q2;have st : ∀ {ρ : Ev}, uH "Live" dM ρ (.dat thing) (.cel n) (.dat part) T = .err Px ρ T := fun {ρ} => by
      unfold uH;rw [if_pos ii, g];rfl
     simp! [Cy, st]
    | true =>
     refine ⟨fun _ => ?_, fun i e => (by cases e)⟩
     obtain ⟨z', g⟩ := s3 q q2;refine ⟨.dat thing, z', [], ?_⟩
     rw [cZ];have st : ∀ {ρ : Ev}, uH "Live" dM ρ (.dat thing) (.cel n) (.dat part) T = .next ρ (T.set n (iZ (bF bs) z')) := fun {ρ} => by
      unfold uH;rw [if_pos ii, g];rfl
     simp! [Cy, st]
 ·rw [if_neg k2]
  have n0 : ¬ k = 0 := by omega
  have n1 : ¬ k = 1 := by omega
  by_cases k2' : k = 2
  ·rw [if_pos k2']
   obtain ⟨m1, m2⟩ := Cv (T := T) (b := bF bs) ht ls;have mk : ∀ {ρ : Ev}, lk ρ 1 = some (.dat (bF bs)) -> lk ρ 4 = some (.dat thing) -> sF true "Live" 1 dG (aB (aC 1) aI) (aC 4) ρ T = sH true "Live" dG [.dat (bF bs)] (.dat thing) T := fun {ρ} h1 h4 => by
    unfold sF Bs;simp! [h1, h4]
   cases q : eL thing 6 with
   | false =>
    refine ⟨fun e => (by cases e), fun i e => ?_⟩
    cases e;refine ⟨EI, rfl, ?_⟩
    have g := m1 q;have mk1 := mk (ρ := [some (.cel n), some (.dat (bF bs)), some (.dat (.int k)), some (.dat part), some (.dat thing), some (.dat (.lst [])), none, none]) rfl rfl;rw [g] at mk1;simp! [decide_eq_false n0, decide_eq_false n1, decide_eq_true k2', mk1]
   | true =>
    refine ⟨fun _ => ?_, fun i e => (by cases e)⟩
    obtain ⟨z', e⟩ := Kj q;have g := m2 z' e;have mk1 := mk (ρ := [some (.cel n), some (.dat (bF bs)), some (.dat (.int k)), some (.dat part), some (.dat thing), some (.dat (.lst [])), none, none]) rfl rfl;rw [g] at mk1;refine ⟨.cel T.length, z, [iZ (bF bs) z'], ?_⟩
    rw [<- same];simp! [decide_eq_false n0, decide_eq_false n1, decide_eq_true k2', mk1]
  ·rw [if_neg k2']
   by_cases k3 : k = 3
   ·rw [if_pos k3]
    obtain ⟨m1, m2⟩ := JQ (T := T) (n := n) (b := bF bs) ht h;have st : ∀ {r : Res Vl}, gJ [.cel n, .dat thing] T = r -> zX "Live" gJ 0 (aC 4) [some (.cel n), some (.dat (bF bs)), some (.dat (.int k)), some (.dat part), some (.dat thing), some (.dat (.lst [])), none, none] T = r.toS [some (.cel n), some (.dat (bF bs)), some (.dat (.int k)), some (.dat part), some (.dat thing), some (.dat (.lst [])), none, none] fun zz S2 => .next [some zz, some (.dat (bF bs)), some (.dat (.int k)), some (.dat part), some (.dat thing), some (.dat (.lst [])), none, none] S2 := fun {r} hr => by
     unfold zX;simp! [ET, ii, hr]
    cases q : rK thing with
    | false =>
     refine ⟨fun e => (by cases e), fun i e => ?_⟩
     cases e;refine ⟨Py, rfl, ?_⟩
     have g := st (m1 q);simp! [decide_eq_false n0, decide_eq_false n1, decide_eq_false k2', decide_eq_true k3, g]
    | true =>
     refine ⟨fun _ => ?_, fun i e => (by cases e)⟩
     obtain ⟨z', g0⟩ := m2 q;have g := st g0;refine ⟨.dat thing, z', [], ?_⟩
     rw [cZ];simp! [decide_eq_false n0, decide_eq_false n1, decide_eq_false k2', decide_eq_true k3, g]
   ·rw [if_neg k3]
    have nr := hk (by omega)
    obtain ⟨c1, c2⟩ := RV (T := T) hl ls hp nr h;have st : ∀ {e : Er}, fT [.cel n, .dat part, .dat thing] T = .err e T -> zY "Live" fT 0 (aB (aC 3) (aB (aC 4) aI)) [some (.cel n), some (.dat (bF bs)), some (.dat (.int k)), some (.dat part), some (.dat thing), some (.dat (.lst [])), none, none] T = .err e T := fun {e} he => by
     unfold zY;simp! [EV, ii, he]
    refine ⟨fun e => (by split at e <;> cases e), fun i e => ?_⟩
    cases q : gM part bs.length with
    | false =>
     rw [q, if_pos rfl] at e;cases e;refine ⟨Gg, rfl, ?_⟩
     have g := st (c1 q);simp! [decide_eq_false n0, decide_eq_false n1, decide_eq_false k2', decide_eq_false k3, g]
    | true =>
     rw [q, if_neg (by simp)] at e
     cases e;obtain ⟨i, g0⟩ := c2 q;refine ⟨Hq i, rfl, ?_⟩
     have g := st g0;simp! [decide_eq_false n0, decide_eq_false n1, decide_eq_false k2', decide_eq_false k3, g]
abbrev GU : FS := (bK (aS (cL false) (zW false (gZ (m1 dY (aC 5))) (.nm 7) (cF (aS bU (aC 5) (aC 7))) (aC 7) [7]) (aS IL (bT false (aB (mC (.int 9)) aI)) (m1 vJ (aS Ek (m1 dY (aC 5)) (mC (.int 0)))))))
theorem tail0 {v0 v1 v2 v3 v4 : Option Vl} : GU [v0, v1, v2, v3, v4, some (.dat (.lst [])), none, none] S = .ret (.dat (.lst [])) S := rfl
theorem tail6 {v0 v1 v2 v3 v4 : Option Vl} {c : Str} {i : Nat} (h : MG[i]? = some c) : GU [v0, v1, v2, v3, v4, some (.dat (.lst ((([[XH.own "NoPart", .own "NoNumber", .own "NoPen"], [.own "NoCommand", .own "NoProcedure", .own "NoRun"]] : List (List XH)).flatten.map (vK c)).map PH.D.bl))), none, none] S = .ret (.dat (.lst [.int (i : Int), .int 9])) S := by
 match i, h with
 | 0, h => cases h; rfl
 | 1, h => cases h; rfl
 | 2, h => cases h; rfl
 | 3, h => cases h; rfl
 | 4, h => cases h; rfl
 | 5, h => cases h; rfl
 | i + 6, h => cases h
theorem RU {c : Str} {i : Nat} (h : MG[i]? = some c) : c ∈ OV := by
 match i, h with
 | 0, h => cases h; decide
 | 1, h => cases h; decide
 | 2, h => cases h; decide
 | 3, h => cases h; decide
 | 4, h => cases h; decide
 | 5, h => cases h; decide
 | i + 6, h => cases h
theorem req97 (hl : bs.length <= 10) (ls : LS T) (hp : part.Pl) (ht : thing.Pl) (hk : 4 <= k -> NoRunV thing) (h0 : 0 <= k) (h : T[n]? = some (iZ (bF bs) z)) :
  ∃ z' : Pen, hJ [.cel n, .dat (bF bs), .dat (.int k), .dat part, .dat thing] T = .ok (.dat (A9 (uI bs.length k part thing))) (T.set n (iZ (bF bs) z')) /\ (uI bs.length k part thing ≠ none -> z' = z) := by
 obtain ⟨b1, b2⟩ := RW (k := k) hl ls hp ht hk h0 h;have same : T = T.set n (iZ (bF bs) z) := by
  obtain ⟨h1, e⟩ := aJ.mp h;rw [<- e, Ie]
 rw [Cd];have e0 : mJ [some (.cel n), some (.dat (bF bs)), some (.dat (.int k)), some (.dat part), some (.dat thing), none, none, none] T = (aK (xT OV Jo 6 5 [.own "NoPart", .own "NoNumber", .own "NoPen"] [[.own "NoCommand", .own "NoProcedure", .own "NoRun"]] none) GU) [some (.cel n), some (.dat (bF bs)), some (.dat (.int k)), some (.dat part), some (.dat thing), some (.dat (.lst [])), none, none] T := rfl;rw [e0];cases q : uI bs.length k part thing with
 | none =>
  obtain ⟨v, z', ext, e⟩ := b1 q;refine ⟨z', ?_, fun z => absurd rfl z⟩
  have tr : xT OV Jo 6 5 [.own "NoPart", .own "NoNumber", .own "NoPen"] [[.own "NoCommand", .own "NoProcedure", .own "NoRun"]] none [some (.cel n), some (.dat (bF bs)), some (.dat (.int k)), some (.dat part), some (.dat thing), some (.dat (.lst [])), none, none] T = .next [some (.cel n), some (.dat (bF bs)), some (.dat (.int k)), some (.dat part), some v, some (.dat (.lst [])), none, none] (T.set n (iZ (bF bs) z') ++ ext) := by
   rw [LR, e]; rfl
  unfold aK;rw [tr];dsimp only;rw [tail0];exact zN (LS.all (ls_lv ls)) (by rw [eP])
 | some i =>
  obtain ⟨e, hc, eb⟩ := b2 i q;refine ⟨z, ?_, fun _ => rfl⟩
  have tr : xT OV Jo 6 5 [.own "NoPart", .own "NoNumber", .own "NoPen"] [[.own "NoCommand", .own "NoProcedure", .own "NoRun"]] none [some (.cel n), some (.dat (bF bs)), some (.dat (.int k)), some (.dat part), some (.dat thing), some (.dat (.lst [])), none, none] T = .next [some (.cel n), some (.dat (bF bs)), some (.dat (.int k)), some (.dat part), some (.dat thing), some (.dat (.lst ((([[XH.own "NoPart", .own "NoNumber", .own "NoPen"], [.own "NoCommand", .own "NoProcedure", .own "NoRun"]] : List (List XH)).flatten.map (vK e.cls)).map PH.D.bl))), none, none] T := by
   rw [LR, eb];unfold QH;dsimp only;rw [if_pos (RU hc)];unfold xU;rw [if_pos ⟨by show 6 < 8; decide, by show 5 < 8; decide, by decide⟩]
   rfl
  unfold aK;rw [tr];dsimp only;rw [tail6 hc, <- same];have := zN (T := T) (F := []) (n := T.length) (d := .lst [.int (i : Int), .int 9]) (LS.all ls) rfl;rw [cZ] at this;exact this
end
mutual
def nC : Stt -> Nat
 | .keep b => An b
 | .again b => An b
 | .either a b => An a + An b
 | .call _ _ a b => 1 + (An a + An b)
 | _ => 0
def An : List Stt -> Nat
 | [] => 0
 | s :: r => nC s + An r
end
mutual
theorem nC_le : ∀ s : Stt, nC s <= s.size
 | .keep b => by have := uD b; simp only [nC, Stt.size]; omega
 | .again b => by have := uD b; simp only [nC, Stt.size]; omega
 | .either a b => by have := uD a; have := uD b; simp only [nC, Stt.size]; omega
 | .call _ _ a b => by have := uD a; have := uD b; simp only [nC, Stt.size]; omega
 | .cmd _ => by simp [nC]
 | .fin _ => by simp [nC]
 | .bad => by simp [nC]
 | .odd _ => by simp [nC]
theorem uD : ∀ l : List Stt, An l <= bY l
 | [] => by simp [An]
 | s :: r => by have := nC_le s; have := uD r; simp only [An, bY]; omega
end
theorem Ax : ∀ a b : List Stt, An (a ++ b) = An a + An b
 | [], b => by simp [An]
 | s :: r, b => by rw [jK, An, Ax r b, An]; omega
theorem B0 : ∀ a b : List PH.D, PH.D.hts (a ++ b) = max (PH.D.hts a) (PH.D.hts b)
 | [], b => by simp [PH.D.hts]
 | x :: r, b => by rw [jK, PH.D.hts, PH.D.hts, B0 r b, Nat.max_assoc]
mutual
theorem Ng {many : Int} : ∀ (s : Stt) {n : Nat}, s.Gd many n -> s.d.ht <= 3 * s.size
 | .cmd c, n, _ => by cases c <;> simp [Stt.d, Cmd.d, PH.D.ht, PH.D.hts, Stt.size]
 | .fin w, n, _ => by simp [Stt.d, PH.D.ht, PH.D.hts, Stt.size]
 | .keep a, n, h => by have := mV a h.2; simp only [Stt.d, PH.D.ht, PH.D.hts, Stt.size]; omega
 | .again a, n, h => by have := mV a h.2; simp only [Stt.d, PH.D.ht, PH.D.hts, Stt.size]; omega
 | .either a b, n, h => by have := mV a h.2.1; have := mV b h.2.2; simp only [Stt.d, PH.D.ht, PH.D.hts, Stt.size]; omega
 | .call _ _ a b, n, h => by have := mV a h.2.1; have := mV b h.2.2; simp only [Stt.d, PH.D.ht, PH.D.hts, Stt.size]; omega
 | .bad, n, h => h.elim
 | .odd _, n, h => h.elim
theorem mV {many : Int} : ∀ (l : List Stt) {n : Nat}, GdL many l n -> PH.D.hts (cH l) <= 3 * bY l
 | [], n, _ => by simp [cH, PH.D.hts]
 | s :: r, n, h => by have := Ng s h.1; have := mV r h.2; simp only [cH, PH.D.hts, bY]; omega
end
theorem MN {p q c N : Nat} {many : Int} {S : aN} {r l mood low : Int} (D : Dr p q c N many S r l) (h0 : 0 <= mood) (h7 : mood <= 7) (lo : 0 <= low) (r0 : 0 <= r) (r8 : r <= 8) (m1 : 1 <= many) (m3 : many <= 3) :
  ∃ (ls : List Stt) (S' : aN) (r' l' : Int), uF [.cel p, .dat (.int mood), .cel q, .cel c, .dat (.int low)] S = .ok (.dat (.lst (cH ls))) S' /\ ((An ls : Int) <= r /\ (r <= 2 -> PH.D.hts (cH ls) <= 6)) /\ Left p q c N many S (r + 2) 3 ls S' r' l' := by
 rw [show uF [.cel p, .dat (.int mood), .cel q, .cel c, .dat (.int low)] S = bS (yY [some (.cel p), some (.dat (.int mood)), some (.cel q), some (.cel c), some (.dat (.int low)), none, none, none, none] S) from rfl]
 unfold yY;obtain ⟨d, S1, e1, d0, d1, D1, s1⟩ := D.draw (k := 6) (by decide) (by decide)
 obtain ⟨a, S2, e2, a0, a1, D2, s2⟩ := D1.draw (k := 2) (by decide) (by decide)
 -- behind the loop
 have fin : ∀ (ls : List Stt) (T : aN) (r1 l1 : Int), Dr p q c N many T r1 l1 -> Sam [p, q, c] S T -> 0 <= r1 -> (bY ls : Int) + r1 <= r -> GdL many ls 3 -> ∃ (ls' : List Stt) (S' : aN) (r' l' : Int), bS (aK (oZ (gZ (aS (cL false) (mC (.int 1)) (aM bG (aB (aC 0) (aB (mC (.int 4)) aI))))) (.nm 7) jP)
 (aK (bJ (bT false (aB (bT false (aB (bW (aB (mC (.str "either")) (aB (bT false (aB (bW (aB (mC (.str "end")) (aB (mC (.int 1)) aI))) aI)) (aB (bT false aI) aI)))) aI)) (aB (bT false (aB (bW (aB (mC (.str "end")) (aB (mC (.int 1)) aI))) aI)) aI))) (.nm 8))
 (aK (bH (wD (mB (aS dZ (aC 5) (mC (.int 1)))) (mB (aS dZ (aC 5) (mC (.int 3))))) (bK (aS (cL false) (aC 6) (aS bU (aC 8) (aS tD (aC 5) (mC (.int 2)))))) aX)
 (aK (bH (mB (aS dZ (aC 5) (mC (.int 2)))) (bK (aS (cL false) (aS bU (aC 8) (mC (.int 0))) (aC 6))) aX)
 (bK (aC 6))))) [some (.cel p), some (.dat (.int mood)), some (.cel q), some (.cel c), some (.dat (.int low)), some (.dat (.int d)), some (.dat (.lst (cH ls))), none, none] T) = .ok (.dat (.lst (cH ls'))) S' /\ ((An ls' : Int) <= r /\ (r <= 2 -> PH.D.hts (cH ls') <= 6)) /\ Left p q c N many S (r + 2) 3 ls' S' r' l' := fun ls T r1 l1 DT sT r10 hsz g => by
  obtain ⟨x, T1, e3, x0, x1, D3, s3⟩ := DT.draw (k := 4) (by decide) (by decide)
  obtain ⟨l4, T4, r4, c4, e4, L4⟩ := AD (z8 := none) (z5 := some (.dat (.int d))) h0 h7 lo m3 (gI 0 (1 + x).toNat) ls T1 r1 l1 D3 r10 (by omega) g
  have hs4 := L4.sz;have hr4 := L4.r0;have hl4 := iR l4;have hc0 := uD l4;have ht0 := mV l4 L4.gd;have htA : PH.D.hts (cH [Aq]) <= 6 := by decide
  have htB : PH.D.hts (cH [.fin 1]) <= 6 := by decide
  have s4 := sT.trans (s3.trans L4.sam);simp! [e3, jO (show -(2 ^ 62) <= 1 + x by omega) (show 1 + x < 2 ^ 62 by omega), e4]
  have hA : GdL many [Aq] 3 := ⟨⟨by omega, ⟨⟨by omega, by omega⟩, trivial⟩, trivial⟩, trivial⟩
  have hB : GdL many [.fin 1] 3 := ⟨⟨by omega, by omega⟩, trivial⟩
  have a1 : (cH l4).length + (cH [Aq]).length <= sizeLine := sz (by rw [dC, dC]; simp; omega)
  have a2 : (cH l4).length + (cH [.fin 1]).length <= sizeLine := sz (by rw [dC, dC]; simp; omega)
  have a3 : (cH [Aq]).length + (cH l4).length <= sizeLine := sz (by rw [dC, dC]; simp; omega)
  have q1 : ∀ T, bU (.dat (.lst [.lst [.tup [.str "either", .lst [.tup [.str "end", .int 1]], .lst []]], .lst [.tup [.str "end", .int 1]]])) (.dat (.int 0)) T = .ok (.dat (.lst (cH [Aq]))) T := fun T => rfl
  have q2 : ∀ T, bU (.dat (.lst [.lst [.tup [.str "either", .lst [.tup [.str "end", .int 1]], .lst []]], .lst [.tup [.str "end", .int 1]]])) (.dat (.int 1)) T = .ok (.dat (.lst (cH [.fin 1]))) T := fun T => rfl
  rcases (by omega : d = 0 \/ d = 1 \/ d = 2 \/ d = 3 \/ d = 4 \/ d = 5) with rfl | rfl | rfl | rfl | rfl | rfl
  ·simp! [if_true]
   exact ⟨l4, T4, r4, c4, rfl, ⟨by omega, fun _ => by omega⟩, L4.dr, s4, hr4, by omega, L4.gd⟩
  ·have f1 : ∀ T, tD (.dat (.int 1)) (.dat (.int 2)) T = .ok (.dat (.int 0)) T := fun T => rfl
   simp! [f1, q1, iJ a1];refine ⟨l4 ++ [Aq], T4, r4, c4, by rw [iN]; rfl, ⟨by rw [Ax]; simp [Aq, An, nC]; omega, fun _ => by rw [iN, B0]; omega⟩, L4.dr, s4, hr4, ?_, L4.gd.app hA⟩
   rw [hE]; simp only [bY, Aq, Stt.size]; omega
  ·simp! [q1, iJ a3]
   refine ⟨[Aq] ++ l4, T4, r4, c4, by rw [iN]; rfl, ⟨by rw [Ax]; simp [Aq, An, nC]; omega, fun _ => by rw [iN, B0]; omega⟩, L4.dr, s4, hr4, ?_, hA.app L4.gd⟩
   rw [hE]; simp only [bY, Aq, Stt.size]; omega
  ·have f1 : ∀ T, tD (.dat (.int 3)) (.dat (.int 2)) T = .ok (.dat (.int 1)) T := fun T => rfl
   simp! [f1, q2, iJ a2];refine ⟨l4 ++ [.fin 1], T4, r4, c4, by rw [iN]; rfl, ⟨by rw [Ax]; simp [Aq, An, nC]; omega, fun _ => by rw [iN, B0]; omega⟩, L4.dr, s4, hr4, ?_, L4.gd.app hB⟩
   rw [hE]; simp only [bY, Stt.size]; omega
  ·simp! [if_true]
   exact ⟨l4, T4, r4, c4, rfl, ⟨by omega, fun _ => by omega⟩, L4.dr, s4, hr4, by omega, L4.gd⟩
  ·simp! [if_true]
   exact ⟨l4, T4, r4, c4, rfl, ⟨by omega, fun _ => by omega⟩, L4.dr, s4, hr4, by omega, L4.gd⟩
 have fin0 := fin [] S2 r l D2 (s1.trans s2) r0 (by simp [bY]) trivial
 rw [IE] at fin0
 by_cases ha : a = 0
 ·by_cases hr : 3 < r
  ·by_cases hl : 0 < l
   ·obtain ⟨la, Sa, ra, ca, ea, La⟩ := Jm D2 h0 h7 hr m1 m3
    have := La.sz;have f := fin la Sa ra ca La.dr (s1.trans (s2.trans La.sam)) La.r0 (by omega) La.gd
    rw [IE] at f;simp! [e1, e2, decide_eq_true ha, D2.ixq, decide_eq_true hr, D2.ixc0, decide_eq_true hl, ea] at f ⊢;exact f
   ·simp! [e1, e2, decide_eq_true ha, D2.ixq, decide_eq_true hr, D2.ixc0, decide_eq_false hl] at fin0 ⊢
    exact fin0
  ·simp! [e1, e2, decide_eq_true ha, D2.ixq, decide_eq_false hr] at fin0 ⊢
   exact fin0
 ·simp! [e1, e2, decide_eq_false ha] at fin0 ⊢
  exact fin0
theorem C9 {p n N : Nat} {S0 T : aN} {many l mood low rm : Int} {bs : List (List Stt)} (B : Bk p n N S0 many l bs T) (h0 : 0 <= mood) (h7 : mood <= 7) (lo : 0 <= low) (r0 : 0 <= rm) (r8 : rm <= 8) (m1 : 1 <= many) (m3 : many <= 3) (hb : bs.length <= 3) :
  ∃ (b : List Stt) (T2 : aN) (l' : Int), uF [.cel p, .dat (.int mood), .cel T.length, .cel n, .dat (.int low)] (T ++ [PL [rm]]) = .ok (.dat (.lst (cH b))) T2 /\ T2[n + 1]? = some (.lst (bls bs)) /\ GdL many b 3 /\ (bY b : Int) <= rm + 2 /\ ((An b : Int) <= rm /\ (rm <= 2 -> PH.D.hts (cH b) <= 6)) /\ Bk p n N S0 many l' (bs ++ [b]) (T2.set (n + 1) (.lst (bls bs ++ [.lst (cH b)]))) := by
 obtain ⟨ks, hk, hkl⟩ := B.pool;have hlen := B.len;have hp := B.hp;have D : Dr p T.length n N many (T ++ [PL [rm]]) rm l := ⟨B.ls.app, B.n2, ⟨ks, by rw [qP (by omega)]; exact hk, hkl⟩, by simp, by rw [qP (by omega)]; exact B.call, by omega, by omega, by omega⟩
 obtain ⟨b, T2, r', l', e, cn, L⟩ := MN D h0 h7 lo r0 r8 m1 m3;have hsz := L.sz;have hr := L.r0;have h1 : T2[n + 1]? = some (.lst (bls bs)) := by
  rw [L.sam.2 (n + 1) (by simp; omega), qP (by omega)]
  exact B.bod
 have hl2 : T2.length = T.length + 1 := by rw [L.sam.1]; simp
 refine ⟨b, T2, l', e, h1, L.gd, by omega, cn, L.dr.ls.set, B.n2, B.hp, by simp; omega, ?_, by rw [nE (by omega)]; exact L.dr.call, ?_, fun i hi hip => ?_⟩
 ·obtain ⟨ks', hk', hkl'⟩ := L.dr.pool
  exact ⟨ks', by rw [nE (by omega)]; exact hk', hkl'⟩
 ·rw [lO h1]
  simp [bls]
 ·rw [nE (by omega), L.sam.2 i (by simp; omega), qP (by omega)]
  exact B.old i hi hip
theorem wN {p n N : Nat} {S0 : aN} {many mood most size : Int} {wild : Bool} (h0 : 0 <= mood) (h7 : mood <= 7) (m1 : 1 <= many) (m3 : many <= 3) (z3 : 3 <= size) (z8 : size <= 8) {R : Int} (hR0 : (size - 2 - (if decide ((2 : Int) < many) = true then (1 : Int) else 0)) = R) :
  ∀ (j : Nat) (i : Int) (bs : List (List Stt)) (T : aN) (l : Int), Bk p n N S0 many l bs T -> 0 <= i -> bs.length + j <= 3 -> (∀ b ∈ bs, GdL many b 3 /\ (bY b : Int) <= size /\ ((An b : Int) <= R /\ (R <= 2 -> PH.D.hts (cH b) <= 6))) -> ∃ (bs' : List (List Stt)) (T' : aN) (l' : Int),
   loop (.nm 8) lN (gI i j) [some (.cel p), some (.dat (.int most)), some (.dat (.int size)), some (.dat (.int mood)), some (.dat (.bl wild)), some (.dat (.int many)), some (.cel n), some (.cel (n + 1)), none, none, none] T =
    .next [some (.cel p), some (.dat (.int most)), some (.dat (.int size)), some (.dat (.int mood)), some (.dat (.bl wild)), some (.dat (.int many)), some (.cel n), some (.cel (n + 1)), none, none, none] T' /\ Bk p n N S0 many l' bs' T' /\ (∀ b ∈ bs', GdL many b 3 /\ (bY b : Int) <= size /\ ((An b : Int) <= R /\ (R <= 2 -> PH.D.hts (cH b) <= 6))) /\ bs'.length = bs.length + j
 | 0, i, bs, T, l, B, _, _, g => ⟨bs, T, l, rfl, B, g, rfl⟩
 | j + 1, i, bs, T, l, B, hi, hj, g => by
  have hlen := B.len;have hR := hR0;have hrm : 0 <= R /\ R <= size - 2 := by rw [<- hR]; split <;> omega
  obtain ⟨b1, T1, l1, e1, a1, g1, s1, n1, B1⟩ := C9 (rm := R) (mood := mood) (low := 0) B h0 h7 (by omega) (by omega) (by omega) m1 m3 (by omega)
  obtain ⟨b2, T2, l2, e2, a2, g2, s2, n2, B2⟩ := C9 (rm := R) (mood := mood) (low := i + 1) B h0 h7 (by omega) (by omega) (by omega) m1 m3 (by omega)
  have hat : (T ++ [PL [R]])[n + 1]? = some (.lst (bls bs)) := by rw [qP (by omega)]; exact B.bod
  have hsl : (bls bs).length < sizeLine := by rw [B9]; exact Nat.lt_of_le_of_lt (show bs.length <= 3 by omega) (by decide)
  rw [show PL [R] = .lst [.int R] from rfl] at e1 e2 hat
  rw [tZ, loop];simp only [qR, cE, bM];rw [lN];cases wild with
  | true =>
   simp! [hR, A2 hat, e1, A3 a1 hsl];rw [<- lN];obtain ⟨bs', T', l', e, B', g', n'⟩ := wN (hR0 := hR0) (most := most) h0 h7 m1 m3 z3 z8 j (i + 1) (bs ++ [b1]) _ l1 B1 (by omega) (by simp; omega) (fun b hb => by
    rcases hZ.mp hb with hb | hb
    ·exact g b hb
    ·rw [hX.mp hb]; exact ⟨g1, by omega, n1⟩)
   exact ⟨bs', T', l', e, B', g', by rw [n']; simp; omega⟩
  | false =>
   simp! [hR, A2 hat, e2, A3 a2 hsl];rw [<- lN];obtain ⟨bs', T', l', e, B', g', n'⟩ := wN (hR0 := hR0) (most := most) h0 h7 m1 m3 z3 z8 j (i + 1) (bs ++ [b2]) _ l2 B2 (by omega) (by simp; omega) (fun b hb => by
    rcases hZ.mp hb with hb | hb
    ·exact g b hb
    ·rw [hX.mp hb]; exact ⟨g2, by omega, n2⟩)
   exact ⟨bs', T', l', e, B', g', by rw [n']; simp; omega⟩
theorem MM {S : aN} {p : Nat} {ks : List Int} {most size : Int} (hP : PoolAt S p ks) (ls : LS S) (m1 : 1 <= most) (m3 : most <= 3) (z3 : 3 <= size) (z8 : size <= 8) :
  ∃ (bs : List (List Stt)) (ks' : List Int), xS [.cel p, .dat (.int most), .dat (.int size)] S = .ok (.dat (.lst (bls bs))) (S.set p (PL ks')) /\ Good bs /\ (∀ b ∈ bs, (bY b : Int) <= size) /\ (bs.length : Int) <= most /\ ks'.length = ks.length /\ ∀ b ∈ bs, ((An b : Int) <= size - 2 - (if decide ((2 : Int) < (bs.length : Int)) = true then (1 : Int) else 0) /\ (size - 2 - (if decide ((2 : Int) < (bs.length : Int)) = true then (1 : Int) else 0) <= 2 -> PH.D.hts (cH b) <= 6)) := by
 obtain ⟨d1, k1, e1, h10, h11, l1⟩ := dO hP (k := 6) (by decide) (by decide)
 obtain ⟨d2, k2, e2, h20, h21, l2⟩ := dO (hP.next l1) (k := 8) (by decide) (by decide)
 obtain ⟨d3, k3, e3, h30, h31, l3⟩ := dO ((hP.next l1).next l2) (k := most) (by omega) (by omega)
 simp only [cP] at e2 e3;have hp : p < S.length := (aJ.mp hP.1).1;have P3 : PoolAt (S.set p (PL k3)) p k3 := ⟨lO hP.1, by have := hP.2; omega⟩
 have ls3 : LS (S.set p (PL k3)) := ls.set;have hS3 : (S.set p (PL k3)).length = S.length := by simp
 rw [show xS [.cel p, .dat (.int most), .dat (.int size)] S = trunc S.length (bS (yX [some (.cel p), some (.dat (.int most)), some (.dat (.int size)), none, none, none, none, none, none, none, none] S)) from rfl]
 unfold yX;simp! [e1, e2, e3, jO (show -(2 ^ 62) <= 1 + d3 by omega) (show 1 + d3 < 2 ^ 62 by omega), eP, cK]
 have B : Bk p S.length k3.length S (1 + d3) 4 [] (S.set p (PL k3) ++ [PL [4, 1 + d3]] ++ [.lst []]) := by
  refine ⟨ls3.app.app, by have := hP.2; omega, hp, by simp, ⟨k3, ?_, rfl⟩, ?_, ?_, fun i hi hip => ?_⟩
  ·rw [qP (by simp; omega), qP (by simp; omega)]; exact P3.1
  ·rw [qP (by simp), <- hS3]; simp
  ·rw [show S.length + 1 = (S.set p (PL k3) ++ [PL [4, 1 + d3]]).length by simp]; simp [bls]
  ·rw [qP (by simp; omega), qP (by simp; omega), nE (Ne.symm hip)]
 obtain ⟨bs, T, l, e, B', g, nb⟩ := wN (hR0 := rfl) (p := p) (most := most) (wild := decide (d2 = 0)) (mood := d1) h10 (by omega) (by omega) (by omega) z3 z8 (1 + d3).toNat 0 [] _ 4 B (by omega) (by simp; omega) (fun b hb => nomatch hb)
 have nb' : bs.length = (1 + d3).toNat := by rw [nb]; simp
 have hm : (bs.length : Int) = 1 + d3 := by omega
 rw [show ([PL [4, 1 + d3]] : aN) = [.lst [.int 4, .int (1 + d3)]] from rfl, show PL k3 = .lst (k3.map D.int) from rfl] at e
 simp! [e, Lk B'.bod];obtain ⟨ks', hk, hkl⟩ := B'.pool;have hlen := B'.len;have et : (T.set (S.length + 1) Cell.dead).take S.length = S.set p (PL ks') := by
  apply lT
  intro i;rw [fK]
  by_cases hi : i < S.length
  ·rw [if_pos hi, nE (by omega)]
   by_cases hip : i = p
   ·rw [hip, hk, lO hP.1]
   ·rw [nE (Ne.symm hip)]; exact B'.old i hi hip
  ·rw [if_neg hi, Ic (by simp; omega)]
 refine ⟨bs, ks', ?_, ⟨by omega, by omega, fun b hb => ?_⟩, fun b hb => (g b hb).2.1, by omega, by omega, fun b hb => by rw [hm]; exact (g b hb).2.2⟩
 ·show trunc S.length (.ok (.dat (.lst (bls bs))) (T.set (S.length + 1) Cell.dead)) = _
  dsimp only [trunc];rw [et];have : ((S.set p (PL ks')).all fun c => c.below S.length) = true := bI.mpr fun c hc => (LS.set ls : LS (S.set p (PL ks'))) c hc _
  simp only [Vl.below, this, zL, if_true]
 ·have := (g b hb).2.1
  rw [hm];exact ⟨(g b hb).1, by omega⟩
section
variable {bs : List (List Stt)} {T T' : Nat -> Nat} {X : Nat} {S : aN} {qs : List Eqn} {G : List Plc -> List (List En)} {r : Option (List Plc) × List PH.D} {p : Nat} {ks : List Int}
theorem I8 {xs : List PH.D} {i : Int} (h0 : 0 <= i) (h1 : i < xs.length) : ∃ d, d ∈ xs /\ ∀ S : aN, bU (.dat (.lst xs)) (.dat (.int i)) S = .ok (.dat d) S := by
 obtain ⟨n, rfl⟩ : ∃ n : Nat, i = (n : Int) := ⟨i.toNat, by omega⟩
 have hn : n < xs.length := by omega
 exact ⟨xs[n], jJ hn, fun S => ixLk (cU hn)⟩
end
section
variable {S : aN} {ds : List PH.D} {k : Int} {part thing : PH.D}
theorem MB (h0 : 0 <= k) (h4 : k <= 4) (hp : part.Pl) (ht : thing.Pl) : rC [.dat (.lst ds), .dat (.int k), .dat part, .dat thing] S = .ok (.dat (A9 (uI ds.length k part thing))) S := by
 have hl : ∀ S, dY (.dat (.lst ds)) S = .ok (.dat (.int (ds.length : Int))) S := fun _ => rfl
 have x3 := I9 (S := S) hp (b := 3);have xn := I9 (S := S) hp (b := (ds.length : Int));have i2 := wF (S := S) ht (n := 2);have i6 := wF (S := S) ht (n := 6);have lc := QE (S := S) ht;rw [Js];unfold vE uI;rcases (by omega : k = 0 \/ k = 1 \/ k = 2 \/ k = 3 \/ k = 4) with rfl | rfl | rfl | rfl | rfl
 ·cases q : gM part 3 with
  | false => rw [q] at x3; simp! [x3]; rfl
  | true => rw [q] at x3; simp! [x3]; rfl
 ·cases q : gM part 3 with
  | false => rw [q] at x3; simp! [x3]; rfl
  | true =>
   rw [q] at x3;cases q2 : eL thing 2 with
   | false => rw [q2] at i2; simp! [x3, i2]; rfl
   | true => rw [q2] at i2; simp! [x3, i2]; rfl
 ·cases q : eL thing 6 with
  | false => rw [q] at i6; simp! [i6]; rfl
  | true => rw [q] at i6; simp! [i6]; rfl
 ·cases q : rK thing with
  | false => rw [q] at lc; simp! [lc]; rfl
  | true => rw [q] at lc; simp! [lc]; rfl
 ·cases q : gM part ds.length with
  | false => rw [q] at xn; simp! [hl, xn]; rfl
  | true => rw [q] at xn; simp! [hl, xn]; rfl
end
def Bl : List PH.D := [.int (-1), .int 3, .int 7, .non, .bl true, .bl false, .str "0", .str "", .lst [.int 0], .tup [.int 0], .tup [], .lst []]
def Tm (d : PH.D) : Prop := d.Pl /\ d.ht <= 2
theorem JF : ∀ d ∈ Bl, d.Pl /\ d.ht <= 1 := by
 have hs : PyData.strOk (Str.ofString "0") = true := by decide +kernel
 have h1 : PyData.strOk (Str.ofString "") = true := by decide +kernel
 intro d hd;simp only [Bl, cS, jM, or_false] at hd;rcases hd with rfl | rfl | rfl | rfl | rfl | rfl | rfl | rfl | rfl | rfl | rfl | rfl
 all_goals refine ⟨by simp [PH.D.Pl, PH.D.Pls, hs, h1], by simp [PH.D.ht, PH.D.hts]⟩
section
variable {S : aN} {p : Nat} {ks : List Int}
theorem NB {v : Vl} : vD [some v, none] S = (bK (aM (dE 20) (aB (aS bU (aC 1) (aM bG (aB (aC 0) (aB (m1 dY (aC 1)) aI)))) aI))) [some v, some (.dat (.lst Bl))] S := (rfl)
theorem Bm (hP : PoolAt S p ks) : ∃ (d : PH.D) (ks' : List Int), hL [.cel p] S = .ok (.dat d) (S.set p (PL ks')) /\ (d.Pl /\ d.ht <= 1) /\ ks'.length = ks.length := by
 obtain ⟨j, k1, e1, h0, h1, l1⟩ := dO hP (k := 12) (by decide) (by decide)
 obtain ⟨d, hd, ix⟩ := I8 (xs := Bl) h0 (by show j < 12; exact h1)
 have sm := JF d hd;have cp := AB 20 (S := S.set p (PL k1)) sm.1 (by have := sm.2; omega)
 refine ⟨d, k1, ?_, sm, l1⟩
 have hl12 : ∀ T, dY (.dat (.lst Bl)) T = .ok (.dat (.int 12)) T := fun T => rfl
 rw [Jr, NB];simp! [hl12, e1, ix, cp];rfl
def oY (S : aN) (p : Nat) (ks : List Int) (xs : List PH.D) : aN := S.set p (PL ks) ++ [.lst xs]
theorem EL {xs : List PH.D} {k0 : List Int} (hP : PoolAt S p ks) (hl : k0.length = ks.length) : PoolAt (oY S p k0 xs) p k0 := by
 have h1 := hP.next hl;refine ⟨?_, h1.2⟩
 unfold oY;rw [aT (by have := (aJ.mp h1.1).1; exact this)]
 exact h1.1
theorem Bo {xs : List PH.D} : (oY S p ks xs)[S.length]? = some (.lst xs) := by
 unfold oY;rw [cM (by simp)]
 simp
theorem EJ {xs : List PH.D} {k0 k1 : List Int} (hP : PoolAt S p ks) : (oY S p k0 xs).set p (PL k1) = oY S p k1 xs := by
 unfold oY;rw [Jw _ _ (by have := (aJ.mp hP.1).1; rw [eP]; exact this), cP]
theorem EK {xs : List PH.D} {c : Cell} : (oY S p ks xs).set S.length c = S.set p (PL ks) ++ [c] := by
 unfold oY;rw [nD _ _ (by simp)]
 simp
theorem Fc {d : PH.D} {c : Cell} (ls : LS S) : (trunc S.length (.ok (.dat d) (S.set p (PL ks) ++ [c])) : Res Vl) = .ok (.dat d) (S.set p (PL ks)) :=
 zN (LS.all ls.set) (by rw [eP])
theorem Pq (hP : PoolAt S p ks) : S.set p (PL ks) = S := by
 apply lT
 intro i;rw [aQ]
 by_cases h : p = i
 ·subst h
  rw [if_pos rfl, if_pos (aJ.mp hP.1).1];exact hP.1.symm
 ·rw [if_neg h]
theorem pw8 {S : aN} : Ej (.dat (.int 10)) (.dat (.int 8)) S = .ok (.dat (.int 100000000)) S := rfl
theorem PX {S : aN} : qM (.dat (.int 2)) (.dat (.int 100000000)) S = .ok (.dat (.int 200000000)) S := rfl
theorem Ho {e : FE} {t : Tg} {ρ : Ev} (hmd : ∀ (S : aN) (ks : List Int) (d : PH.D), PoolAt S p ks -> ∃ ρ1, qR t (.dat d) ρ = some ρ1 /\ ∃ (x : Int) (ks' : List Int), e ρ1 S = .ok (.dat (.int x)) (S.set p (PL ks')) /\ ks'.length = ks.length) : ∀ (ds : List PH.D) (S : aN) (ks : List Int), PoolAt S p ks -> ∃ (xs : List Int) (ks' : List Int), nJ t eV e ρ ds S = .ok (xs.map PH.D.int) (S.set p (PL ks')) /\ xs.length = ds.length /\ ks'.length = ks.length
 | [], S, ks, h => ⟨[], ks, by rw [Pq h]; rfl, rfl, rfl⟩
 | d :: r, S, ks, h => by
  obtain ⟨ρ1, h1, x, k1, e1, l1⟩ := hmd S ks d h;obtain ⟨xs, k2, e2, z1, z3⟩ := Ho hmd r _ k1 (h.next l1);rw [cP] at e2;refine ⟨x :: xs, k2, ?_, by simp [z1], by omega⟩
  simp only [nJ, h1, eV, e1, e2, if_true];rfl
theorem Hn {cl : Bool} {e : FE} {t : Tg} {ρ : Ev} {vs : List Nat} (hmd : ∀ (S : aN) (ks : List Int) (d : PH.D), PoolAt S p ks -> ∃ ρ1, qR t (.dat d) (wipeE ρ vs) = some ρ1 /\ ∃ (x : Int) (ks' : List Int), e ρ1 S = .ok (.dat (.int x)) (S.set p (PL ks')) /\ ks'.length = ks.length) (hP : PoolAt S p ks) {n : Nat} (hn : n <= 900) : ∃ (xs : List Int) (ks' : List Int), Ao cl t eV e ρ vs (gI 0 n) S = newL cl (xs.map PH.D.int) (S.set p (PL ks')) /\ xs.length = n /\ ks'.length = ks.length := by
 obtain ⟨xs, k1, e1, z1, z3⟩ := Ho hmd (gI 0 n) S ks hP;have rl : (gI 0 n).length = n := by unfold gI; simp
 refine ⟨xs, k1, ?_, by omega, z3⟩
 unfold Ao;rw [if_pos (by rw [rl]; exact sz (by omega)), e1]
theorem Bu {n : Nat} : ∀ {xs : List PH.D}, (∀ x ∈ xs, x.ht <= n) -> PH.D.hts xs <= n
 | [], _ => hW n
 | x :: r, h => by
  have h1 := h x (bD ..);have h2 := Bu (xs := r) fun y hy => h y (aU _ hy)
  show max x.ht (PH.D.hts r) <= n
  omega
theorem zU : ∀ {xs : List PH.D}, (∀ x ∈ xs, x.Pl) -> PH.D.Pls xs
 | [], _ => trivial
 | x :: r, h => ⟨h x (bD ..), zU fun y hy => h y (aU _ hy)⟩
theorem iB {xs : List PH.D} (hl : xs.length <= 100) (h : ∀ x ∈ xs, x.Pl /\ x.ht <= 1) : Tm (.tup xs) :=
 ⟨⟨by omega, zU fun x hx => (h x hx).1⟩, by have := Bu (n := 1) fun x hx => (h x hx).2; show PH.D.hts xs + 1 <= 2; omega⟩
theorem KA {xs : List PH.D} (hl : xs.length <= 100) (h : ∀ x ∈ xs, x.Pl /\ x.ht <= 1) : Tm (.lst xs) :=
 ⟨⟨by omega, zU fun x hx => (h x hx).1⟩, by have := Bu (n := 1) fun x hx => (h x hx).2; show PH.D.hts xs + 1 <= 2; omega⟩
theorem NZ {xs : List Int} : ∀ x ∈ xs.map PH.D.int, x.Pl /\ x.ht <= 1 := fun x hx => by
 obtain ⟨i, _, rfl⟩ := uR.mp hx;exact ⟨trivial, hW 1⟩
theorem Ct (hP : PoolAt S p ks) (ls : LS S) {n : Nat} (h1 : 1 <= n) (h6 : n <= 6) : ∃ (d : PH.D) (ks' : List Int), eC [.cel p, .dat (.int (n : Int))] S = .ok (.dat d) (S.set p (PL ks')) /\ Tm d /\ ks'.length = ks.length := by
 have s12 : PyData.strOk (Str.ofString "12") = true := by decide +kernel
 obtain ⟨xs, k1, e1, z1, l1⟩ := Hn (cl := true) (t := .nm 5) (e := jI) (ρ := [some (.cel p), some (.dat (.int (n : Int))), none, none, none, none]) (vs := [5]) (fun T k d h => ⟨[some (.cel p), some (.dat (.int (n : Int))), none, none, none, some (.dat d)], rfl, by
   obtain ⟨j, k', e, _, _, l⟩ := dO h (k := 200000001) (by decide) (by decide)
   refine ⟨j - 100000000, k', ?_, l⟩
   unfold jI;simp! [pw8, PX, e]⟩) hP (n := n) (by omega)
 have e1 : Ao true (.nm 5) eV jI [some (.cel p), some (.dat (.int (n : Int))), none, none, none, none] [5] (gI 0 n) S = .ok (.cel S.length) (oY S p k1 (xs.map PH.D.int)) := by
  rw [e1]
  show Res.ok (Vl.cel (S.set p (PL k1)).length) _ = _
  rw [eP];rfl
 have rg : ∀ T, AO (.dat (.int (n : Int))) T = .ok (gI 0 n) T := fun T => by rw [jO (by omega) (by omega), mK]
 have P1 := EL (xs := xs.map PH.D.int) hP l1;obtain ⟨kd, k2, e2, d0, d1, l2⟩ := dO P1 (k := 8) (by decide) (by decide)
 rw [EJ hP] at e2;have P2 := EL (xs := xs.map PH.D.int) hP (l2.trans l1);obtain ⟨at', k3, e3, a0, a1, l3⟩ := dO P2 (k := (n : Int)) (by omega) (by omega)
 rw [EJ hP] at e3;obtain ⟨a, rfl⟩ : ∃ a : Nat, at' = (a : Int) := ⟨at'.toNat, by omega⟩
 have l3' := l3.trans (l2.trans l1);have P3 := EL (xs := xs.map PH.D.int) hP l3';obtain ⟨x, hx⟩ : ∃ x : Int, xs[a]? = some x := ⟨xs[a]'(by omega), by simp [show a < xs.length by omega]⟩
 have hx' : (xs.map PH.D.int)[a]? = some (.int x) := by rw [cC, hx]; rfl
 have hln : (xs.map PH.D.int).length = n := by rw [bC]; exact z1
 rw [GO];unfold pS;have tpl : ∀ {ys : List PH.D} {k4 : List Int}, fTuple (.cel S.length) (S.set p (PL k4) ++ [.lst ys]) = .ok (.dat (.tup ys)) (S.set p (PL k4) ++ [.lst ys]) := fun {ys k4} => by
  have := Bo (S := S) (p := p) (ks := k4) (xs := ys);unfold oY at this;simp only [fTuple, jE, this]
 have tp2 : ∀ {ys : List PH.D} {k4 : List Int}, fTuple (.cel S.length) (oY S p k4 ys) = .ok (.dat (.tup ys)) (oY S p k4 ys) := fun {ys k4} => tpl
 have sm0 : ∀ x ∈ xs.map PH.D.int, x.Pl /\ x.ht <= 1 := NZ;rcases (by omega : kd = 0 \/ kd = 1 \/ kd = 2 \/ kd = 3 \/ 4 <= kd) with rfl | rfl | rfl | rfl | k4
 ·obtain ⟨d, k4, e4, sm, l4⟩ := Bm P3
  rw [EJ hP] at e4;have st := Mq (a := aM hL (aB (aC 0) aI)) (o := aC 2) (i := aC 4) (ρ := [some (.cel p), some (.dat (.int (n : Int))), some (.cel S.length), some (.dat (.int 0)), some (.dat (.int (a : Int))), none]) (S := oY S p k3 (xs.map PH.D.int)) (S1 := oY S p k4 (xs.map PH.D.int)) (d := d) (n := S.length) (k := (a : Int)) (j := a) (by simp! [e4]) rfl rfl Bo rfl (by rw [hln]; omega)
  rw [EK] at st;refine ⟨_, k4, ?_, iB (xs := (xs.map PH.D.int).set a d) (by rw [eP, hln]; omega) fun x hx => ?_, by omega⟩
  ·simp! [rg, e1, e2, e3, st, tpl]
   exact Fc ls
  ·rcases rS hx with h | rfl
   ·exact sm0 x h
   ·exact sm
 ·obtain ⟨j, k4, e4, b0, b1, l4⟩ := dO (hP.next (l3'.trans rfl) |> fun h : PoolAt (S.set p (PL k3)) p k3 => (show PoolAt (S.set p (PL k3) ++ [.dead]) p k3 from ⟨by rw [aT (by have := (aJ.mp h.1).1; exact this)]; exact h.1, h.2⟩)) (k := 6) (by decide) (by decide)
  have fz : Cz 2 [some (.cel p), some (.dat (.int (n : Int))), some (.cel S.length), some (.dat (.int 1)), some (.dat (.int (a : Int))), none] (oY S p k3 (xs.map PH.D.int)) = .next [some (.cel p), some (.dat (.int (n : Int))), some (.dat (.lst (xs.map PH.D.int))), some (.dat (.int 1)), some (.dat (.int (a : Int))), none] (S.set p (PL k3) ++ [.dead]) := by
   rw [Lq (n := S.length) rfl Bo, EK];rfl
  have e4 : bG [.cel p, .dat (.int 6)] (S.set p (PL k3) ++ [.dead]) = .ok (.dat (.int j)) (S.set p (PL k4) ++ [.dead]) := by
   rw [e4, Jw _ _ (by have := (aJ.mp hP.1).1; rw [eP]; exact this), cP]
  have ix : ∀ {T : aN}, bU (.dat (.lst (xs.map PH.D.int))) (.dat (.int (a : Int))) T = .ok (.dat (.int x)) T := fun {T} => ixLn rfl hx'
  obtain ⟨d, hd, ixd⟩ := I8 (xs := [.lst (xs.map PH.D.int), .non, .int x, .bl true, .str "12", .tup []]) b0 (by show j < 6; exact b1)
  have td : Tm d := by
   simp only [cS, jM, or_false] at hd;rcases hd with rfl | rfl | rfl | rfl | rfl | rfl
   ·exact KA (by rw [hln]; omega) sm0
   all_goals exact ⟨by simp [PH.D.Pl, PH.D.Pls, s12], by simp [PH.D.ht, PH.D.hts]⟩
  refine ⟨d, k4, ?_, td, by omega⟩
  simp! [rg, e1, e2, e3, fz, ix, kLst6, e4, ixd];exact Fc ls
 ·have ins : ∀ {k3 : List Int}, CW (.cel S.length) (.dat (.int (a : Int))) (.dat (.int 0)) (oY S p k3 (xs.map PH.D.int)) = .ok (.dat .non) (S.set p (PL k3) ++ [.lst ((xs.map PH.D.int).take a ++ [.int 0] ++ (xs.map PH.D.int).drop a)]) := fun {k3} => by
   rw [RA (n := S.length) Bo (by rw [hln]; exact Nat.lt_of_le_of_lt (show n <= 6 by omega) (by decide)) (by omega), EK]
  have kin : ∀ {k3 : List Int} {b : FE} {i : FE} {ρ : Ev}, I7 i b ρ (.cel S.length) (oY S p k3 (xs.map PH.D.int)) = (i ρ (oY S p k3 (xs.map PH.D.int))).bind (I6 b ρ (.cel S.length)) := fun {k3 b i ρ} => Nz Bo
  refine ⟨_, k3, ?_, iB (xs := (xs.map PH.D.int).take a ++ [.int 0] ++ (xs.map PH.D.int).drop a) (by simp only [cK, fG, jL, hln, List.length_singleton]; omega) fun x hx => ?_, l3'⟩
  ·simp! [rg, e1, e2, e3, g_ins, kin, Ny, ins, tpl]
   exact Fc ls
  ·rcases hZ.mp hx with h | h
   ·rcases hZ.mp h with h | h
    ·exact sm0 x (oF h)
    ·rw [hX.mp h]; exact ⟨trivial, hW 1⟩
   ·exact sm0 x (wW h)
 ·have pop : ∀ {k3 : List Int}, sO (.cel S.length) (.dat (.int (a : Int))) (oY S p k3 (xs.map PH.D.int)) = .ok (.dat (.int x)) (S.set p (PL k3) ++ [.lst ((xs.map PH.D.int).take a ++ (xs.map PH.D.int).drop (a + 1))]) := fun {k3} => by
   rw [Lr (n := S.length) Bo (by omega) hx', EK]
  have kin : ∀ {k3 : List Int} {b : FE} {ρ : Ev}, ES b ρ (.cel S.length) (oY S p k3 (xs.map PH.D.int)) = (b ρ (oY S p k3 (xs.map PH.D.int))).bind (sO (.cel S.length)) := fun {k3 b ρ} => Le Bo
  refine ⟨_, k3, ?_, iB (xs := (xs.map PH.D.int).take a ++ (xs.map PH.D.int).drop (a + 1)) (by simp only [cK, fG, jL, hln]; omega) fun x hx => ?_, l3'⟩
  ·simp! [rg, e1, e2, e3, Nl, kin, pop, tpl]
   exact Fc ls
  ·rcases hZ.mp hx with h | h
   ·exact sm0 x (oF h)
   ·exact sm0 x (wW h)
 ·refine ⟨_, k3, ?_, iB (xs := xs.map PH.D.int) (by rw [hln]; omega) sm0, l3'⟩
  simp! [rg, e1, e2, e3, decide_eq_false (show ¬ kd = 0 by omega), decide_eq_false (show ¬ kd = 1 by omega), decide_eq_false (show ¬ kd = 2 by omega), decide_eq_false (show ¬ kd = 3 by omega), tp2]
  exact Fc ls
end
theorem Mp (c : Cmd) : ∃ w : Str, PyData.strOk w = true /\ (c.d = .tup [.str w] \/ (∃ a : Int, c.d = .tup [.str w, .int a]) \/ ∃ a b : Int, c.d = .tup [.str w, .int a, .int b]) := by
 cases c with
 | go a => exact ⟨"go", by decide +kernel, .inr (.inl ⟨a, rfl⟩)⟩
 | turn a => exact ⟨"turn", by decide +kernel, .inr (.inl ⟨a, rfl⟩)⟩
 | mirror => exact ⟨"mirror", by decide +kernel, .inl rfl⟩
 | scale a => exact ⟨"scale", by decide +kernel, .inr (.inl ⟨a, rfl⟩)⟩
 | aim a b => exact ⟨"aim", by decide +kernel, .inr (.inr ⟨a, b, rfl⟩)⟩
 | place a b => exact ⟨"place", by decide +kernel, .inr (.inr ⟨a, b, rfl⟩)⟩
 | mark => exact ⟨"mark", by decide +kernel, .inl rfl⟩
 | ret => exact ⟨"return", by decide +kernel, .inl rfl⟩
 | exch => exact ⟨"exchange", by decide +kernel, .inl rfl⟩
section
variable {S : aN} {p : Nat} {ks : List Int}
theorem Q9 {a b c d e f g h : PH.D} {S : aN} : A0 false [.dat a, .dat b, .dat c, .dat d, .dat e, .dat f, .dat g, .dat h] S = .ok (.dat (.lst [a, b, c, d, e, f, g, h])) S := rfl
theorem rT {i : Int} : (PH.D.int i).Pl /\ (PH.D.int i).ht <= 1 := ⟨trivial, hW 1⟩
theorem sm_s {w : Str} (h : PyData.strOk w = true) : (PH.D.str w).Pl /\ (PH.D.str w).ht <= 1 := ⟨h, hW 1⟩
theorem all1 {P : PH.D -> Prop} {a : PH.D} (ha : P a) : ∀ x ∈ [a], P x := fun x hx => by rw [hX.mp hx]; exact ha
theorem pC {P : PH.D -> Prop} {a : PH.D} {r : List PH.D} (ha : P a) (hr : ∀ x ∈ r, P x) : ∀ x ∈ a :: r, P x := fun x hx => by
 rcases cS.mp hx with rfl | h
 ·exact ha
 ·exact hr x h
theorem all0 {P : PH.D -> Prop} : ∀ x ∈ ([] : List PH.D), P x := fun x hx => by cases hx
theorem Kk {t b1 b2 : List PH.D} (h1 : t.length <= 9) (h2 : b1.length <= 9) (h3 : b2.length <= 9) (a1 : ∀ x ∈ t, x.Pl /\ x.ht <= 1) (a2 : ∀ x ∈ b1, x.Pl /\ x.ht <= 1) (a3 : ∀ x ∈ b2, x.Pl /\ x.ht <= 1) {j : Int} (b0 : 0 <= j) (b8 : j < 8) :
  ∃ d, Tm d /\ ∀ S : aN, bU (.dat (.lst [.lst t, .tup b1, .tup b2, .non, .str "mark", .tup [.str "keep", .lst []], .tup [.str "end", .int 0], .tup [.str "Go", .int 1]])) (.dat (.int j)) S = .ok (.dat d) S := by
 have s1 : PyData.strOk (Str.ofString "mark") = true := by decide +kernel
 have s2 : PyData.strOk (Str.ofString "keep") = true := by decide +kernel
 have s3 : PyData.strOk (Str.ofString "end") = true := by decide +kernel
 have s4 : PyData.strOk (Str.ofString "Go") = true := by decide +kernel
 obtain ⟨d, hd, ixd⟩ := I8 (xs := [.lst t, .tup b1, .tup b2, .non, .str "mark", .tup [.str "keep", .lst []], .tup [.str "end", .int 0], .tup [.str "Go", .int 1]]) b0 (by show j < 8; exact b8)
 refine ⟨d, ?_, ixd⟩
 simp only [cS, jM, or_false] at hd;rcases hd with rfl | rfl | rfl | rfl | rfl | rfl | rfl | rfl
 ·exact KA (by omega) a1
 ·exact iB (by omega) a2
 ·exact iB (by omega) a3
 all_goals exact ⟨by simp [PH.D.Pl, PH.D.Pls, s1, s2, s3, s4], by simp [PH.D.ht, PH.D.hts]⟩
theorem Pg (hP : PoolAt S p ks) : ∃ (d : PH.D) (ks' : List Int), rA [.cel p] S = .ok (.dat d) (S.set p (PL ks')) /\ Tm d /\ ks'.length = ks.length := by
 obtain ⟨c, k1, e1, hc, l1⟩ := C8 hP (mood := 5) (by decide) (by decide)
 have P1 := hP.next l1;obtain ⟨kd, k2, e2, d0, d1, l2⟩ := dO P1 (k := 7) (by decide) (by decide)
 simp only [cP] at e2;have l2' := l2.trans l1;have P2 := hP.next l2';obtain ⟨od, k3, e3, sm, l3⟩ := Bm P2;obtain ⟨j8, k8, e8, b0, b1, l8⟩ := dO P2 (k := 8) (by decide) (by decide)
 obtain ⟨jo, k4, e4, c0, c1, l4⟩ := dO P2 (k := 1) (by decide) (by decide)
 obtain ⟨jw, k5, e5, f0, f1, l5⟩ := dO P2 (k := 2) (by decide) (by decide)
 obtain ⟨j6, k6, e6, _, _, l6⟩ := dO (P2.next l4) (k := 25) (by decide) (by decide)
 obtain ⟨j7, k7, e7, _, _, l7⟩ := dO (P2.next l5) (k := 25) (by decide) (by decide)
 simp only [cP] at e3 e4 e5 e6 e7 e8;have jz : jo = 0 := by omega
 subst jz;obtain ⟨w, hw, sh⟩ := Mp c;rw [MX];unfold yT;have sw := sm_s hw;rcases sh with sh | ⟨a, sh⟩ | ⟨a, b, sh⟩ <;> rw [sh] at e1
 ·have hl : ∀ S, dY (.dat (.tup [.str w])) S = .ok (.dat (.int 1)) S := fun _ => rfl
  have ad : ∀ S, cL false (.dat (.tup [.str w])) (.dat (.tup [od])) S = .ok (.dat (.tup [.str w, od])) S := fun _ => rfl
  have li : ∀ S, vQ false (.dat (.tup [.str w])) S = .ok (.dat (.lst [.str w])) S := fun _ => rfl
  have s1 : ∀ S, xX false (.dat (.tup [.str w])) none (some (-1)) S = .ok (.dat (.tup [])) S := fun _ => rfl
  have s2 : ∀ S, xX false (.dat (.tup [.str w])) (some 1) none S = .ok (.dat (.tup [])) S := fun _ => rfl
  obtain ⟨d8, t8, i8⟩ := Kk (t := [.str w]) (b1 := []) (b2 := []) (by simp) (by simp) (by simp) (all1 sw) all0 all0 b0 b1
  rcases (by omega : kd = 0 \/ kd = 3 \/ (kd ≠ 0 /\ kd ≠ 3)) with rfl | rfl | ⟨n0, n3⟩
  ·refine ⟨_, k3, ?_, iB (xs := [.str w, od]) (by simp) (pC sw (all1 sm)), by omega⟩
   simp! [e1, e2, e3, ad];rfl
  ·refine ⟨d8, k8, ?_, t8, by omega⟩
   simp! [e1, e2, hl, li, s1, s2, Q9, e8, i8];rfl
  ·refine ⟨_, k2, ?_, iB (xs := [.str w]) (by simp) (all1 sw), by omega⟩
   by_cases n1 : kd = 1
   ·subst n1
    simp! [e1, e2, hl];rfl
   ·by_cases n2 : kd = 2
    ·subst n2
     simp! [e1, e2, hl];rfl
    ·simp! [e1, e2, hl, decide_eq_false n0, decide_eq_false n1, decide_eq_false n2, decide_eq_false n3]
     rfl
 ·have hl : ∀ S, dY (.dat (.tup [.str w, .int a])) S = .ok (.dat (.int 2)) S := fun _ => rfl
  have ad : ∀ S, cL false (.dat (.tup [.str w, .int a])) (.dat (.tup [od])) S = .ok (.dat (.tup [.str w, .int a, od])) S := fun _ => rfl
  have ad2 : ∀ S, cL false (.dat (.tup [.str w])) (.dat (.tup [od])) S = .ok (.dat (.tup [.str w, od])) S := fun _ => rfl
  have li : ∀ S, vQ false (.dat (.tup [.str w, .int a])) S = .ok (.dat (.lst [.str w, .int a])) S := fun _ => rfl
  have s1 : ∀ S, xX false (.dat (.tup [.str w, .int a])) none (some (-1)) S = .ok (.dat (.tup [.str w])) S := fun _ => rfl
  have s2 : ∀ S, xX false (.dat (.tup [.str w, .int a])) (some 1) none S = .ok (.dat (.tup [.int a])) S := fun _ => rfl
  have s3 : ∀ S, xX false (.dat (.tup [.str w, .int a])) none (some 1) S = .ok (.dat (.tup [.str w])) S := fun _ => rfl
  have s4 : ∀ S, xX false (.dat (.tup [.str w, .int a])) (some 2) none S = .ok (.dat (.tup [])) S := fun _ => rfl
  have a3 : ∀ (i : Int) S, cL false (.dat (.tup [.str w])) (.dat (.tup [.int i])) S = .ok (.dat (.tup [.str w, .int i])) S := fun _ _ => rfl
  have a4 : ∀ (i : Int) S, cL false (.dat (.tup [.str w, .int i])) (.dat (.tup [])) S = .ok (.dat (.tup [.str w, .int i])) S := fun _ _ => rfl
  obtain ⟨d8, t8, i8⟩ := Kk (t := [.str w, .int a]) (b1 := [.str w]) (b2 := [.int a]) (by simp) (by simp) (by simp) (pC sw (all1 rT)) (all1 sw) (all1 rT) b0 b1
  rcases (by omega : kd = 0 \/ kd = 1 \/ kd = 2 \/ kd = 3 \/ 4 <= kd) with rfl | rfl | rfl | rfl | n4
  ·refine ⟨_, k3, ?_, iB (xs := [.str w, .int a, od]) (by simp) (pC sw (pC rT (all1 sm))), by omega⟩
   simp! [e1, e2, e3, ad];rfl
  ·refine ⟨_, k6, ?_, iB (xs := [.str w, .int (j6 - 12)]) (by simp) (pC sw (all1 rT)), by omega⟩
   simp! [e1, e2, hl, e4, e6, s3, s4, a3, a4];rfl
  ·refine ⟨_, k3, ?_, iB (xs := [.str w, od]) (by simp) (pC sw (all1 sm)), by omega⟩
   simp! [e1, e2, hl, s1, e3, ad2];rfl
  ·refine ⟨d8, k8, ?_, t8, by omega⟩
   simp! [e1, e2, hl, li, s1, s2, Q9, e8, i8];rfl
  ·refine ⟨_, k2, ?_, iB (xs := [.str w, .int a]) (by simp) (pC sw (all1 rT)), by omega⟩
   simp! [e1, e2, hl, decide_eq_false (show ¬ kd = 0 by omega), decide_eq_false (show ¬ kd = 1 by omega), decide_eq_false (show ¬ kd = 2 by omega), decide_eq_false (show ¬ kd = 3 by omega)]
   rfl
 ·have hl : ∀ S, dY (.dat (.tup [.str w, .int a, .int b])) S = .ok (.dat (.int 3)) S := fun _ => rfl
  have ad : ∀ S, cL false (.dat (.tup [.str w, .int a, .int b])) (.dat (.tup [od])) S = .ok (.dat (.tup [.str w, .int a, .int b, od])) S := fun _ => rfl
  have ad2 : ∀ S, cL false (.dat (.tup [.str w, .int a])) (.dat (.tup [od])) S = .ok (.dat (.tup [.str w, .int a, od])) S := fun _ => rfl
  have li : ∀ S, vQ false (.dat (.tup [.str w, .int a, .int b])) S = .ok (.dat (.lst [.str w, .int a, .int b])) S := fun _ => rfl
  have s1 : ∀ S, xX false (.dat (.tup [.str w, .int a, .int b])) none (some (-1)) S = .ok (.dat (.tup [.str w, .int a])) S := fun _ => rfl
  have s2 : ∀ S, xX false (.dat (.tup [.str w, .int a, .int b])) (some 1) none S = .ok (.dat (.tup [.int a, .int b])) S := fun _ => rfl
  have s3 : ∀ S, xX false (.dat (.tup [.str w, .int a, .int b])) none (some 1) S = .ok (.dat (.tup [.str w])) S := fun _ => rfl
  have s4 : ∀ S, xX false (.dat (.tup [.str w, .int a, .int b])) (some 2) none S = .ok (.dat (.tup [.int b])) S := fun _ => rfl
  have s5 : ∀ S, xX false (.dat (.tup [.str w, .int a, .int b])) none (some 2) S = .ok (.dat (.tup [.str w, .int a])) S := fun _ => rfl
  have s6 : ∀ S, xX false (.dat (.tup [.str w, .int a, .int b])) (some 3) none S = .ok (.dat (.tup [])) S := fun _ => rfl
  have a3 : ∀ (i : Int) S, cL false (.dat (.tup [.str w])) (.dat (.tup [.int i])) S = .ok (.dat (.tup [.str w, .int i])) S := fun _ _ => rfl
  have a4 : ∀ (i : Int) S, cL false (.dat (.tup [.str w, .int i])) (.dat (.tup [.int b])) S = .ok (.dat (.tup [.str w, .int i, .int b])) S := fun _ _ => rfl
  have a5 : ∀ (i : Int) S, cL false (.dat (.tup [.str w, .int a])) (.dat (.tup [.int i])) S = .ok (.dat (.tup [.str w, .int a, .int i])) S := fun _ _ => rfl
  have a6 : ∀ (i : Int) S, cL false (.dat (.tup [.str w, .int a, .int i])) (.dat (.tup [])) S = .ok (.dat (.tup [.str w, .int a, .int i])) S := fun _ _ => rfl
  obtain ⟨d8, t8, i8⟩ := Kk (t := [.str w, .int a, .int b]) (b1 := [.str w, .int a]) (b2 := [.int a, .int b]) (by simp) (by simp) (by simp) (pC sw (pC rT (all1 rT))) (pC sw (all1 rT)) (pC rT (all1 rT)) b0 b1
  rcases (by omega : kd = 0 \/ kd = 1 \/ kd = 2 \/ kd = 3 \/ 4 <= kd) with rfl | rfl | rfl | rfl | n4
  ·refine ⟨_, k3, ?_, iB (xs := [.str w, .int a, .int b, od]) (by simp) (pC sw (pC rT (pC rT (all1 sm)))), by omega⟩
   simp! [e1, e2, e3, ad];rfl
  ·rcases (by omega : jw = 0 \/ jw = 1) with rfl | rfl
   ·refine ⟨_, k7, ?_, iB (xs := [.str w, .int (j7 - 12), .int b]) (by simp) (pC sw (pC rT (all1 rT))), by omega⟩
    simp! [e1, e2, hl, e5, e7, s3, s4, a3, a4];rfl
   ·refine ⟨_, k7, ?_, iB (xs := [.str w, .int a, .int (j7 - 12)]) (by simp) (pC sw (pC rT (all1 rT))), by omega⟩
    simp! [e1, e2, hl, e5, e7, s5, s6, a5, a6];rfl
  ·refine ⟨_, k3, ?_, iB (xs := [.str w, .int a, od]) (by simp) (pC sw (pC rT (all1 sm))), by omega⟩
   simp! [e1, e2, hl, s1, e3, ad2];rfl
  ·refine ⟨d8, k8, ?_, t8, by omega⟩
   simp! [e1, e2, hl, li, s1, s2, Q9, e8, i8];rfl
  ·refine ⟨_, k2, ?_, iB (xs := [.str w, .int a, .int b]) (by simp) (pC sw (pC rT (all1 rT))), by omega⟩
   simp! [e1, e2, hl, decide_eq_false (show ¬ kd = 0 by omega), decide_eq_false (show ¬ kd = 1 by omega), decide_eq_false (show ¬ kd = 2 by omega), decide_eq_false (show ¬ kd = 3 by omega)]
   rfl
end
section
variable {S : aN} {bs : List (List Stt)} {ks : List Int} {v0 v4 v6 v12 : Option Vl} {z : Pen}
theorem QA {k : List Int} {b : PH.D} {z : Pen} : LS [PL k, iZ b z] := fun c hc m => by
 simp only [cS, jM, or_false] at hc;rcases hc with rfl | rfl <;> rfl
abbrev KC : FS := (aK (bJ (aM rC (aB (aC 2) (aB (aC 8) (aB (aC 9) (aB (aC 10) aI))))) (.nm 11))
 (aK (bH (mB (aS DP (aM hJ (aB (aC 5) (aB (aC 3) (aB (aC 8) (aB (aC 9) (aB (aM (dE 20) (aB (aC 10) aI)) aI)))))) (aC 11))) (bK (mC (.bl false))) aX)
 (bH (rF (cF (aC 11)) (fU (cF (aM (iG 20) (aB (m1 (tA "Live" eY) (aC 5)) (aB (aC 7) aI)))))) (bK (mC (.bl false))) aX)))
theorem Mg (hl : bs.length <= 10) {k : Int} {part thing : PH.D} (h0 : 0 <= k) (h4 : k <= 4) (hp : part.Pl) (ht : Tm thing) (hk : 4 <= k -> NoRunV thing) :
  ∃ (z' : Pen) (v : Vl), KC [v0, some (.cel 0), some (.dat (.lst (bls bs))), some (.dat (bF bs)), v4, some (.cel 1), v6, some (.dat z.d), some (.dat (.int k)), some (.dat part), some (.dat thing), none, v12] [PL ks, iZ (bF bs) z] =
   .next [v0, some (.cel 0), some (.dat (.lst (bls bs))), some (.dat (bF bs)), v4, some (.cel 1), v6, some (.dat z.d), some (.dat (.int k)), some (.dat part), some (.dat thing), some v, v12] [PL ks, iZ (bF bs) z'] := by
 have du := MB (S := [PL ks, iZ (bF bs) z]) (ds := bls bs) h0 h4 hp ht.1;rw [B9] at du;have cp := AB 20 (S := [PL ks, iZ (bF bs) z]) ht.1 (by have := ht.2; omega)
 obtain ⟨z', rq, same⟩ := req97 (n := 1) (z := z) hl (QA (k := ks) (b := bF bs) (z := z)) hp ht.1 hk h0 rfl;have rq : hJ [.cel 1, .dat (bF bs), .dat (.int k), .dat part, .dat thing] [PL ks, iZ (bF bs) z] = .ok (.dat (A9 (uI bs.length k part thing))) [PL ks, iZ (bF bs) z'] := rq;have pr := qY (T := [PL ks, iZ (bF bs) z']) (n := 1) (b := bF bs) (z := z') rfl;refine ⟨z', .dat (A9 (uI bs.length k part thing)), ?_⟩
 cases q : uI bs.length k part thing with
 | none =>
  rw [q] at du rq;have ne : ∀ T, DP (.dat (.lst [])) (.dat (.lst [])) T = .ok (.dat (.bl false)) T := fun T => Cu ⟨by decide, trivial⟩ (by decide)
  unfold A9 at du rq ⊢;unfold KC;simp! [du, cp, rq, ne, List.isEmpty_nil]
 | some i =>
  rw [q] at du rq;have zz := same (by rw [q]; simp)
  subst zz;have ne : ∀ T, DP (.dat (.lst [.int (i : Int), .int 9])) (.dat (.lst [.int (i : Int), .int 9])) T = .ok (.dat (.bl false)) T := fun T => Cu ⟨by simp, trivial, trivial, trivial⟩ (by simp [PH.D.ht, PH.D.hts])
  have sm := FL 20 (S := [PL ks, iZ (bF bs) z']) (Bc z').1 (by rw [(Bc z').2]; decide)
  unfold A9 at du rq ⊢;unfold KC;simp! [du, cp, rq, ne, List.isEmpty_cons, pr, sm]
def ND : List PH.D := [.non, .int 0, .tup [.int 0, .int 1], .lst [.int 0, .int 1, .bl true], .lst [.int 0, .non], .lst [.str "0"], .lst [.int 2], .str "01"]
theorem NC : ∀ d ∈ ND, Tm d /\ NoRunV d := by
 have hs : PyData.strOk (Str.ofString "0") = true := by decide +kernel
 have h1 : PyData.strOk (Str.ofString "01") = true := by decide +kernel
 intro d hd;simp only [ND, cS, jM, or_false] at hd;rcases hd with rfl | rfl | rfl | rfl | rfl | rfl | rfl | rfl
 all_goals refine ⟨⟨by simp [PH.D.Pl, PH.D.Pls, hs, h1], by simp [PH.D.ht, PH.D.hts]⟩, ?_⟩
 ·exact .non
 ·exact .int
 ·exact .tup
 ·exact .bad (xs := [0, 1]) (v := .bl true) (r := []) (by simp) fun _ => rfl
 ·exact .bad (xs := [0]) (v := .non) (r := []) (by simp) fun _ => rfl
 ·exact .bad (xs := []) (v := .str "0") (r := []) (by simp) fun _ => rfl
 ·exact .bad (xs := []) (v := .int 2) (r := []) (by simp) fun _ => rfl
 ·exact .str
theorem Pd (hl : bs.length <= 10) (h2 : 2 <= ks.length) : ∃ (z' : Pen) (ks' : List Int), mL [v0, some (.cel 0), some (.dat (.lst (bls bs))), some (.dat (bF bs)), v4, some (.cel 1), v6, none, none, none, none, none, v12] [PL ks, iZ (bF bs) z] =
   .next [v0, some (.cel 0), some (.dat (.lst (bls bs))), some (.dat (bF bs)), v4, some (.cel 1), none, none, none, none, none, none, v12] [PL ks', iZ (bF bs) z'] /\ ks'.length = ks.length := by
 have pr := qY (T := [PL ks, iZ (bF bs) z]) (n := 1) (b := bF bs) (z := z) rfl;obtain ⟨kd, k1, e1, d1, l1⟩ := IM (X := [iZ (bF bs) z]) h2 (k := 5) (by decide) (by decide)
 obtain ⟨pt, k2, e2, d2, l2⟩ := IM (X := [iZ (bF bs) z]) (ks := k1) (by omega) (k := 3) (by decide) (by decide)
 obtain ⟨jo, k3, e3, d3, l3⟩ := IM (X := [iZ (bF bs) z]) (ks := k2) (by omega) (k := 4) (by decide) (by decide)
 have kl8 : ∀ T, A0 false [.dat .non, .dat (.int 0), .dat (.tup [.int 0, .int 1]), .dat (.lst [.int 0, .int 1, .bl true]), .dat (.lst [.int 0, .non]), .dat (.lst [.str "0"]), .dat (.lst [.int 2]), .dat (.str "01")] T = .ok (.dat (.lst ND)) T := fun T => rfl
 -- the part
 obtain ⟨part, k4, hp, l4, e4⟩ : ∃ (part : PH.D) (k4 : List Int), part.Pl /\ k4.length = ks.length /\ (bH (mB (aS dZ (aM bG (aB (aC 1) (aB (mC (.int 4)) aI))) (mC (.int 0)))) (bJ (aM hL (aB (aC 1) aI)) (.nm 9)) aX) [v0, some (.cel 0), some (.dat (.lst (bls bs))), some (.dat (bF bs)), v4, some (.cel 1), v6, some (.dat z.d), some (.dat (.int (kd : Int))), some (.dat (.int (pt : Int))), none, none, v12] [PL k2, iZ (bF bs) z] =
   .next [v0, some (.cel 0), some (.dat (.lst (bls bs))), some (.dat (bF bs)), v4, some (.cel 1), v6, some (.dat z.d), some (.dat (.int (kd : Int))), some (.dat part), none, none, v12] [PL k4, iZ (bF bs) z] := by
  by_cases hj : (jo : Int) = 0
  ·obtain ⟨d, k4, e4, sm, l4⟩ := Bm (S := [PL k3, iZ (bF bs) z]) (p := 0) (ks := k3) ⟨rfl, by omega⟩
   rw [bM] at e4;refine ⟨d, k4, sm.1, by omega, ?_⟩
   simp! [e3, decide_eq_true hj, e4]
  ·refine ⟨.int pt, k3, trivial, by omega, ?_⟩
   simp! [e3, decide_eq_false hj]
 -- the thing
 obtain ⟨thing, k5, ht, hk, l5, e5⟩ : ∃ (thing : PH.D) (k5 : List Int), Tm thing /\ (4 <= (kd : Int) -> NoRunV thing) /\ k5.length = ks.length /\ (bH (mB (aS B7 (aC 8) (mC (.int 2)))) (bJ (aM eC (aB (aC 1) (aB (mC (.int 2)) aI))) (.nm 10)) (bH (mB (aS dZ (aC 8) (mC (.int 2)))) (bJ (aM eC (aB (aC 1) (aB (mC (.int 6)) aI))) (.nm 10)) (bH (mB (aS dZ (aC 8) (mC (.int 3)))) (bJ (aM rA (aB (aC 1) aI)) (.nm 10)) (bJ (aS bU (bT false (aB (mC .non) (aB (mC (.int 0)) (aB (bW (aB (mC (.int 0)) (aB (mC (.int 1)) aI))) (aB (bT false (aB (mC (.int 0)) (aB (mC (.int 1)) (aB (mC (.bl true)) aI)))) (aB (bT false (aB (mC (.int 0)) (aB (mC .non) aI))) (aB (bT false (aB (mC (.str "0")) aI)) (aB (bT false (aB (mC (.int 2)) aI)) (aB (mC (.str "01")) aI))))))))) (aM bG (aB (aC 1) (aB (mC (.int 8)) aI)))) (.nm 10))))) [v0, some (.cel 0), some (.dat (.lst (bls bs))), some (.dat (bF bs)), v4, some (.cel 1), v6, some (.dat z.d), some (.dat (.int (kd : Int))), some (.dat part), none, none, v12] [PL k4, iZ (bF bs) z] =
   .next [v0, some (.cel 0), some (.dat (.lst (bls bs))), some (.dat (bF bs)), v4, some (.cel 1), v6, some (.dat z.d), some (.dat (.int (kd : Int))), some (.dat part), some (.dat thing), none, v12] [PL k5, iZ (bF bs) z] := by
  have P4 : PoolAt [PL k4, iZ (bF bs) z] 0 k4 := ⟨rfl, by omega⟩
  obtain ⟨x2, q2, e2', t2, m2⟩ := Ct P4 QA (n := 2) (by decide) (by decide)
  obtain ⟨x6, q6, e6', t6, m6⟩ := Ct P4 QA (n := 6) (by decide) (by decide)
  obtain ⟨xs, qs, es', ts, ms⟩ := Pg P4;obtain ⟨j8, k8, e8, d8, l8⟩ := IM (X := [iZ (bF bs) z]) (ks := k4) (by omega) (k := 8) (by decide) (by decide)
  rw [bM] at e2' e6' es';have e2' : eC [.cel 0, .dat (.int 2)] [PL k4, iZ (bF bs) z] = .ok (.dat x2) [PL q2, iZ (bF bs) z] := e2';have e6' : eC [.cel 0, .dat (.int 6)] [PL k4, iZ (bF bs) z] = .ok (.dat x6) [PL q6, iZ (bF bs) z] := e6';rcases (by omega : kd = 0 \/ kd = 1 \/ kd = 2 \/ kd = 3 \/ kd = 4) with rfl | rfl | rfl | rfl | rfl
  ·refine ⟨x2, q2, t2, fun h => absurd h (by decide), by omega, ?_⟩
   simp! [e2']
  ·refine ⟨x2, q2, t2, fun h => absurd h (by decide), by omega, ?_⟩
   simp! [e2']
  ·refine ⟨x6, q6, t6, fun h => absurd h (by decide), by omega, ?_⟩
   simp! [e6']
  ·refine ⟨xs, qs, ts, fun h => absurd h (by decide), by omega, ?_⟩
   simp! [es']
  ·obtain ⟨d, hd, ixd⟩ := I8 (xs := ND) (show (0 : Int) <= (j8 : Int) by omega) (by show (j8 : Int) < 8; exact d8)
   obtain ⟨t1, n1⟩ := NC d hd;refine ⟨d, k8, t1, fun _ => n1, by omega, ?_⟩
   simp! [kl8, e8, ixd]
 obtain ⟨z', v, tl⟩ := Mg (ks := k5) (v0 := v0) (v4 := v4) (v6 := v6) (v12 := v12) (z := z) hl (k := (kd : Int)) (by omega) (by omega) hp ht hk
 refine ⟨z', k5, ?_, l5⟩
 have b0 : mL = gL [6, 7, 8, 9, 10, 11] (aK (bJ (m1 (tA "Live" eY) (aC 5)) (.nm 7))
 (aK (bJ (aM bG (aB (aC 1) (aB (mC (.int 5)) aI))) (.nm 8))
 (aK (bJ (aM bG (aB (aC 1) (aB (mC (.int 3)) aI))) (.nm 9))
 (aK (bH (mB (aS dZ (aM bG (aB (aC 1) (aB (mC (.int 4)) aI))) (mC (.int 0)))) (bJ (aM hL (aB (aC 1) aI)) (.nm 9)) aX)
 (aK (bH (mB (aS B7 (aC 8) (mC (.int 2)))) (bJ (aM eC (aB (aC 1) (aB (mC (.int 2)) aI))) (.nm 10)) (bH (mB (aS dZ (aC 8) (mC (.int 2)))) (bJ (aM eC (aB (aC 1) (aB (mC (.int 6)) aI))) (.nm 10)) (bH (mB (aS dZ (aC 8) (mC (.int 3)))) (bJ (aM rA (aB (aC 1) aI)) (.nm 10)) (bJ (aS bU (bT false (aB (mC .non) (aB (mC (.int 0)) (aB (bW (aB (mC (.int 0)) (aB (mC (.int 1)) aI))) (aB (bT false (aB (mC (.int 0)) (aB (mC (.int 1)) (aB (mC (.bl true)) aI)))) (aB (bT false (aB (mC (.int 0)) (aB (mC .non) aI))) (aB (bT false (aB (mC (.str "0")) aI)) (aB (bT false (aB (mC (.int 2)) aI)) (aB (mC (.str "01")) aI))))))))) (aM bG (aB (aC 1) (aB (mC (.int 8)) aI)))) (.nm 10))))) KC))))) := rfl
 rw [b0];generalize KC = TL at tl ⊢;have s5 : ∀ {a b : FS} {ρ ρ' : Ev} {T T' : aN}, a ρ T = .next ρ' T' -> aK a b ρ T = b ρ' T' := fun h => by unfold aK; rw [h]
 unfold gL;rw [s5 (ρ' := [v0, some (.cel 0), some (.dat (.lst (bls bs))), some (.dat (bF bs)), v4, some (.cel 1), v6, some (.dat z.d), none, none, none, none, v12]) (T' := [PL ks, iZ (bF bs) z]) (by simp! [pr])]
 rw [s5 (ρ' := [v0, some (.cel 0), some (.dat (.lst (bls bs))), some (.dat (bF bs)), v4, some (.cel 1), v6, some (.dat z.d), some (.dat (.int (kd : Int))), none, none, none, v12]) (T' := [PL k1, iZ (bF bs) z]) (by simp! [e1])]
 rw [s5 (ρ' := [v0, some (.cel 0), some (.dat (.lst (bls bs))), some (.dat (bF bs)), v4, some (.cel 1), v6, some (.dat z.d), some (.dat (.int (kd : Int))), some (.dat (.int (pt : Int))), none, none, v12]) (T' := [PL k2, iZ (bF bs) z]) (by simp! [e2])]
 rw [s5 e4, s5 e5, tl];rfl
theorem Hc (hl : bs.length <= 10) : ∀ (n : Nat) (lo : Int) (ks : List Int) (z : Pen), 2 <= ks.length -> ∃ (z' : Pen) (ks' : List Int), loop (.nm 6) mL (gI lo n) [v0, some (.cel 0), some (.dat (.lst (bls bs))), some (.dat (bF bs)), v4, some (.cel 1), none, none, none, none, none, none, v12] [PL ks, iZ (bF bs) z] =
   .next [v0, some (.cel 0), some (.dat (.lst (bls bs))), some (.dat (bF bs)), v4, some (.cel 1), none, none, none, none, none, none, v12] [PL ks', iZ (bF bs) z']
 | 0, lo, ks, z, h2 => ⟨z, ks, rfl⟩
 | n + 1, lo, ks, z, h2 => by
  obtain ⟨z1, k1, e1, l1⟩ := Pd (v0 := v0) (v4 := v4) (v12 := v12) (z := z) (v6 := some (.dat (.int lo))) hl h2;obtain ⟨z2, k2, e2⟩ := Hc hl n (lo + 1) k1 z1 (by omega)
  refine ⟨z2, k2, ?_⟩
  rw [Ga, <- e2];exact JM (ρ1 := [v0, some (.cel 0), some (.dat (.lst (bls bs))), some (.dat (bF bs)), v4, some (.cel 1), some (.dat (.int lo)), none, none, none, none, none, v12]) rfl e1
end
theorem law_true_k97 : ∀ ns : List Int, ns.length <= 63 -> ∃ S, m_law_k97 [.scr ns] [] = .ok (.dat (.bl true)) S := by
 intro ns hn;refine ⟨[], ?_⟩
 rw [Jq];obtain ⟨k0, e0, h0⟩ := N1 (S := []) hn;simp only [kI] at e0;have ls0 : ∀ (k : List Int), LS [PL k] := fun k c hc m => by
  rw [hX.mp hc]; rfl
 obtain ⟨bs, k1, e1, G, sz1, mo, l1, cn⟩ := MM (S := [PL k0]) (p := 0) (ks := k0) (most := 3) (size := 6) ⟨rfl, h0⟩ (ls0 k0) (by decide) (by decide) (by decide) (by decide)
 rw [bM] at e1;obtain ⟨pb, hb⟩ := Oa G.two;have cp := AB 20 (S := [PL k1]) pb (by omega)
 have mk := JK (S := [PL k1]) (ls0 k1) G;obtain ⟨xs, k2, e2, z2, l2⟩ := Hn (cl := false) (p := 0) (S := [PL k1]) (ks := k1) (t := .nm 12) (e := mY) (ρ := [some (.scr ns), some (.cel 0), some (.dat (.lst (bls bs))), some (.dat (bF bs)), none, none, none, none, none, none, none, none, none]) (vs := [12]) (fun T k d h => ⟨[some (.scr ns), some (.cel 0), some (.dat (.lst (bls bs))), some (.dat (bF bs)), none, none, none, none, none, none, none, none, some (.dat d)], rfl, by
   obtain ⟨j, k', e, _, _, l⟩ := dO h (k := 200000001) (by decide) (by decide)
   refine ⟨j - 100000000, k', ?_, l⟩
   unfold mY;simp! [pw8, PX, e]⟩) ⟨rfl, by omega⟩ (n := 6) (by decide)
 obtain ⟨z, hz⟩ : ∃ z : Pen, PH.D.tup (xs.map PH.D.int) = z.d := by
  match xs, z2 with
  | [a, b, c, d, e, f], _ => exact ⟨⟨a, b, c, d, e, f⟩, rfl⟩
 have e2 : Ao false (.nm 12) eV mY [some (.scr ns), some (.cel 0), some (.dat (.lst (bls bs))), some (.dat (bF bs)), none, none, none, none, none, none, none, none, none] [12] (gI 0 6) [PL k1] = .ok (.dat (.lst (xs.map PH.D.int))) [PL k2] := e2;have tu : ∀ T, fTuple (.dat (.lst (xs.map PH.D.int))) T = .ok (.dat z.d) T := fun T => by rw [Fs, hz]
 have rg6 : ∀ T, AO (.dat (.int 6)) T = .ok (gI 0 6) T := fun T => rfl
 have rg8 : ∀ T, AO (.dat (.int 8)) T = .ok (gI 0 8) T := fun T => rfl
 have mk2 := (Cv (T := [PL k2]) (b := bF bs) (v := z.d) (Bc z).1 (ls0 k2)).2 z rfl;have mkl : sF true "Live" 1 dG (aB (aC 3) aI) (aC 4) [some (.scr ns), some (.cel 0), some (.dat (.lst (bls bs))), some (.dat (bF bs)), some (.dat z.d), none, none, none, none, none, none, none, none] [PL k2] = .ok (.cel 1) [PL k2, iZ (bF bs) z] := by
  have e : sF true "Live" 1 dG (aB (aC 3) aI) (aC 4) [some (.scr ns), some (.cel 0), some (.dat (.lst (bls bs))), some (.dat (bF bs)), some (.dat z.d), none, none, none, none, none, none, none, none] [PL k2] = sH true "Live" dG [.dat (bF bs)] (.dat z.d) [PL k2] := by
   unfold sF Bs;simp! [if_true]
  rw [e, mk2];rfl
 have pr := qY (T := [PL k2, iZ (bF bs) z]) (n := 1) (b := bF bs) (z := z) rfl;have sm := FL 20 (S := [PL k2, iZ (bF bs) z]) (Bc z).1 (by rw [(Bc z).2]; decide)
 have b3 := G.l3;obtain ⟨z', k3, lp⟩ := Hc (bs := bs) (v0 := some (.scr ns)) (v4 := some (.dat z.d)) (v12 := none) (by omega) 8 0 k2 z (by omega)
 have rl : pF [some (.scr ns), some (.cel 0), some (.dat (.lst (bls bs))), some (.dat (bF bs)), some (.dat z.d), some (.cel 1), none, none, none, none, none, none, none] [PL k2, iZ (bF bs) z] = .ret (.dat (.bl true)) [PL k3, iZ (bF bs) z'] := by
  unfold pF;simp! [rg8, lp]
 unfold rL;simp! [e0, e1, cp, mk, rg6, e2, tu, mkl, pr, sm, rl];rfl
end PH
open PySem PySem.W PySem.Calls PyProof.Rows
set_option maxHeartbeats 0 in
theorem PySem.Challenge.cw_penhome_k97_refused_by_a_live_pen_holds : PySem.Challenge.rw_penhome_k97_refused_by_a_live_pen.Holds := by
 w_on; o_law
 refine HandSHeadRun.head_any (r := OpenLaw.row PySem.Challenge.rw_penhome_k97_refused_by_a_live_pen) (q := view (OpenLaw.row PySem.Challenge.rw_penhome_k97_refused_by_a_live_pen).prog [65]) (H := PHZ.hk) (ob := PHZ.ob) (M := 8000) (loose := PHZ.loose) (d := HandSHeadRun.topDef (OpenLaw.row PySem.Challenge.rw_penhome_k97_refused_by_a_live_pen).prog 65) (kwd := []) PHZ.ob_eq
  (by kernel_rfl) (fun s => by kernel_rfl) PHZ.run_ (by kernel_rfl) (by kernel_rfl) (by kernel_rfl) (by rfl) (by first | assumption | decide +kernel) (by decide +kernel) ⟨rfl, rfl, rfl, rfl, rfl, by decide +kernel⟩ ?hw ?hc
 case hw => w_witness2
 case hc =>
  refine PH.walk_x (l := PySem.Challenge.rw_penhome_k97_refused_by_a_live_pen) (n := 63) (k := 36) (x := "_law_script") rfl (by decide) (by kernel_rfl) ⟨rfl, by decide, by decide⟩ ?F
  intro w mg fa h Y G hmg0;obtain ⟨K, KX, c⟩ := Y;have hmg : mg ("law" : PySem.Str) = some (.ref fa) := by
   have e : (HandSHeadRun.topDef (OpenLaw.row PySem.Challenge.rw_penhome_k97_refused_by_a_live_pen).prog 65).name = ("law" : PySem.Str) := by kernel_rfl
   rw [<- e];exact hmg0
  have T := PHZ.txt (w := w) KX G c;have e := hmg.symm.trans T.G_law_k97;cases e;obtain ⟨fd, b, F⟩ := PHZ.law_fn (P := (PySem.Challenge.rw_penhome_k97_refused_by_a_live_pen).prog) T;exact ⟨K, fd, PH.spF K PH.m_law_k97, KX, fun s v => b s [v] rfl, fun H a ns hl hO hS => PH.law_start PH.law_true_k97 H a ns hl hO hS, fun base _ _ => F base⟩
