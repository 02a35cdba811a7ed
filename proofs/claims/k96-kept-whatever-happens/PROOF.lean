import PyProof.Rows.All
import Wide.All
import OpenK.AllK
import Wide.FinOn
import KE.KStateDown
import Lean
import HandS.ForMost
import HandS.ForExc
import HandS.More
import HandS.Flow
import HandS.IsInst
import HandS.Defaults
import HandS.Head0
import HandS.Head1
import HandS.Head2
import HandS.HeadEnd
import HandS.HeadHook1
import HandS.HeadHook2
import HandS.HeadHook3
import HandS.TupAny
import HandS.Star
import HandS.Wide
import HandS.Zip
import HandS.Rev
import HandS.TryMany
import HandS.Small
import HandS.RaiseMore
import HandS.OwnEq
import HandS.Walk
import HandS.Lambda
import HandS.HeadHook4
import HandS.Deep
import HandS.ExcInit
import HandS.ExcField
import HandS.RevRange
import HandS.SortInts
import KE.GoesMore
import HandS.CallSlots
import PyProof.Rows.NestShow
import HandS.Dict
import HandS.Style
import HandS.Text
import HandS.FStr
import HandS.StrMore
import HandS.SetFor
import PyProof.InstNe
import HandS.ReplaceLit
import KE.SortKeyHeap
import HandS.ExcValue
import HandS.SortKw
import HandS.SetKeys
import HandS.WordsDict
import HandS.Conv
import HandS.DictComp
import HandS.Iter
import HandS.TupLen
import HandS.GenList
import HandS.IterNext
import HandS.DictSub
import HandS.GenOver
import HandS.ExcInitHot
import KE.KExcIs
import PyProof.EqKinds
import PyProof.FactsAll.dict
import PyProof.P3In
import HandS.Property
import HandS.MakeKwOnly
import KE.KCallOwn
import HandS.ExcIs
import HandS.HeadNt
import KE.KEqDict
import HandS.Nested
import HandS.Finally
import HandS.RaiseOp
import HandS.ExcBuiltin
import HandS.NestedK
import HandS.EndTab
import PyProof.ReprLen
import PyProof.StrLawsRepr
import PySem.Challenge.RW_penhome_k96_kept_whatever_happens
set_option Elab.async false
set_option linter.all false
set_option maxRecDepth 100000
set_option maxHeartbeats 4000000
open PySem.W renaming Frag → aA, fnOf → cD, findIn → eX, nsIn → iQ, keepIn → kH, typeIn → kI, view → kJ, callWith_K → oD, noSeq → pQ, kla_obj → rY, methodCall_KW → sD, selfFirst → xS, codeHdIn → zS, SharedT → AC, exmOne → BA, subIn → CB, fnIn → DF, callWith_K0 → Fo, plainGet_of → Fp, boot_heap → IH, openGood → IK
open And renaming intro → aE
open List renaming getElem?_eq_some_iff → aH, getElem?_append_left → aK, mem_cons_of_mem → aM, length_cons → aN, range → aO, getElem?_set → aP, map_cons → aQ, getD_eq_getElem?_getD → aU, getElem?_append_right → aW, mem_cons_self → aY, mem_of_getElem? → aZ, length_map → bA, all_eq_true → bD, getElem?_map → bG, append_nil → bJ, replicate → bL, mem_cons → bN, map_nil → bR, set_set → bW, set_cons_succ → bZ, length_append → cA, length_nil → cM, getElem?_eq_getElem → cU, range' → dO, getElem?_take → dX, set_cons_zero → dY, mem_range → eD, map_congr_left → eO, lookup_cons → eZ, set_append_right → fF, map_append → fT, all_cons → gE, mem_singleton → hE, map_map → hI, length_take → iW, mem_or_eq_of_mem_set → jA, getElem?_cons_succ → kK, mem_map → kX, dropLast_concat → nD, nil_append → oC, zip_cons_cons → pP, getElem?_eq_none_iff → qH, ext_getElem? → qJ, getElem_mem → rX, cons_append → rZ, length_drop → sA, length_set → tX, mem_of_mem_take → vK, getElem?_range → xP, mem_filterMap → yV, all_nil → A2, not_mem_nil → B9, mem_append → BO, drop_eq_getElem_cons → DE, range_succ_eq_map → Fq, dropLast_eq_take → Gi, forall_mem_cons → II
open Bool renaming and_eq_true → bV, and_true → rL, true_and → Ef
open Nat renaming le_refl → bX, zero_add → pD, le_of_not_lt → sC, zero_le → vL, lt_succ_self → BB, ne_of_lt → Gj
open Int renaming emod_nonneg → oE, emod_lt_of_pos → pR
open Or renaming inr → rW, inl → xO
namespace PH
open PySem PySem.Spec PyProof.Rows L2
abbrev veL : List Value := [.type "ValueError", .type "Exception", .type "BaseException", .type "object"]
def xcB (K : aA) (x : Str) : Bool := PySem.W.excIn K (He.ga K x) veL "ValueError.__new__" && (kH K (.ref (He.ga K x)) && (decide (CB K (.ref (He.ga K x)) (.type "BaseException") = some true) && decide (kI K (.ref (He.ga K x)) = some (.type "type"))))
def gU : Stmt -> List Stmt
 | .ClassDef _ _ _ b _ _ _ _ _ _ _ => b
 | _ => []
def LD (s : Str) : Option Value := if (s == ("ZeroDivisionError" : Str)) = true then some (.type "ZeroDivisionError") else if (s == ("KeyError" : Str)) = true then some (.type "KeyError") else none
def limits : List (Str × Nat × Int × Int) := [("go", 1, -9, 9), ("turn", 1, 1, 3), ("mirror", 0, 0, 0), ("scale", 1, -3, 3), ("aim", 2, -9, 9), ("place", 2, -9, 9), ("mark", 0, 0, 0), ("return", 0, 0, 0), ("exchange", 0, 0, 0)]
def Dh (K : aA) (z : Str) : Addr := match iQ K (He.ga K "LIMITS") z with
 | some (some (.ref a)) => a
 | _ => 0
def Ej (K : aA) (a : Addr) (vs : List V) : Bool := match K.lookup a with
 | some ⟨.type c, _, .seq its _, _⟩ => decide (c = "tuple") && (decide (its.size <= sizeLine) && He.relAll vs its.toList)
 | _ => false
def limB (K : aA) : Bool := limits.all fun q => He.eqO (iQ K (He.ga K "LIMITS") q.1) (some (some (.ref (Dh K q.1)))) && Ej K (Dh K q.1) [.int (q.2.1 : Nat), .int q.2.2.1, .int q.2.2.2]
def F7 : He.Tab := (fun K => He.ga K "LIMITS", limits.map (·.1))
def Ob (K : aA) (C : Addr) : Bool := match K.lookup C with
 | some ⟨.type "type", _, .cls cd, sl⟩ => (match cd.mro, sl.toList with
  | .ref C' :: bm, [_, _, _, _, some (.builtin n), _] => C' == C && n == "ValueError.__new__" && !cd.hasDel && cd.hasDict && PySem.HandSPX.refsVE bm
  | _, _ => false)
 | _ => false
def xaB (K : aA) (x : Str) (fs : List Str) : Bool := Ob K (He.ga K x) && (decide (eX K (.ref (He.ga K x)) "__setattr__" = some (some (.builtin "object.__setattr__"))) && (decide (CB K (.ref (He.ga K x)) (.type "BaseException") = some true) && (decide (kI K (.ref (He.ga K x)) = some (.type "type")) && (kH K (.ref (He.ga K x)) && (decide (eX K (.ref (He.ga K x)) "__init__" = some (some (.ref (He.ma K (He.ga K x) "__init__")))) && (decide (kI K (.ref (He.ma K (He.ga K x) "__init__")) = some (.type "function")) && (xfB K (He.ga K x) && fs.all fun f => decide (eX K (.ref (He.ga K x)) f = some none))))))))
end PH
namespace PH
open PySem PySem.Spec PyProof PyProof.Rows L2
def obC (c : List He.DefD) (K : aA) : Bool × List He.FnW := (c.all fun d => d.ok K, c.map fun d => He.fnW K d.at_)
theorem HF {σ β γ : Type} {o : Option σ} {l : σ -> β} {b : β} {sn : σ -> γ} {c : γ} {K : σ -> aA} {fa : List He.Fa} {fs : List (List He.DefD)} {ts : List He.Tab} {ex : aA -> Bool} {tv : List (Option (List (Option (Str × Int))))}
  (hA : (o.map fun s => (l s, sn s, fa.all fun f => f.ok (K s), ts.map fun t => He.dicW (K s) (t.1 (K s)), ex (K s))) = some (b, c, true, tv, true))
  (hD : ∀ f ∈ fs, (o.map fun s => obC f (K s)) = some (true, f.map He.DefD.val)) :
  (o.map fun s => (l s, sn s, (He.obsT fa fs.flatten ts (K s), ex (K s)))) = some (b, c, ((true, fs.flatten.map He.DefD.val), tv), true) := by
 cases o with
 | none => cases hA
 | some s =>
  have hA := Option.some.inj hA;have h1 := congrArg (fun z => z.1) hA
  have h2 := congrArg (fun z => z.2.1) hA
  have h3 := congrArg (fun z => z.2.2.1) hA
  have h4 := congrArg (fun z => z.2.2.2.1) hA
  have h5 := congrArg (fun z => z.2.2.2.2) hA
  dsimp only at h1 h2 h3 h4 h5;have hf : ∀ f ∈ fs, (f.all fun d => d.ok (K s)) = true /\ (f.map fun d => He.fnW (K s) d.at_) = f.map He.DefD.val := fun f hf => by
   have z := Option.some.inj (hD f hf);exact ⟨congrArg (fun z => z.1) z, congrArg (fun z => z.2) z⟩
  have hall : (fs.flatten.all fun d => d.ok (K s)) = true := by
   rw [bD];intro d hd;obtain ⟨f, h1, h2⟩ := List.mem_flatten.mp hd;exact bD.mp (hf f h1).1 d h2
  have hmap : (fs.flatten.map fun d => He.fnW (K s) d.at_) = fs.flatten.map He.DefD.val := by
   rw [List.map_flatten, List.map_flatten]
   congr 1
   exact eO fun f h => (hf f h).2
  show some (l s, sn s, ((((fa.all fun f => f.ok (K s)) && (fs.flatten.all fun d => d.ok (K s)), fs.flatten.map fun d => He.fnW (K s) d.at_), ts.map fun t => He.dicW (K s) (t.1 (K s))), ex (K s))) = _
  rw [h1, h2, h3, h4, h5, hall, hmap];rfl
def zC (n : Str) (s : Stmt) : He.DefD := ⟨(n, none), n, n, defArgs s, defBody s, defScope s, [], []⟩
end PH
namespace PH
open PySem PySem.Spec PyProof.Rows L2
section
variable {P : Program} {w : World} {K : aA} {mg : Str -> Option Value} {base : Heap}
def MM (K : aA) (C f : Str) : Addr := match PySem.W.recIn K (He.ma K (He.ga K C) f) "property" with
 | some (.ref g :: _) => g
 | _ => 0
end
end PH
namespace PH
open PySem PySem.Spec PyProof PyProof.Rows L2
def SaysG (gn : List He5.DefA) (K : aA) : Prop := (gn.all fun d => d.ok K) = true /\ (gn.map fun d => He5.fnA K (d.at_ K)) = gn.map He5.DefA.val
def HS (gn : List He5.DefA) (K : aA) : Bool × List He.FnW := (gn.all fun d => d.ok K, gn.map fun d => He5.fnA K (d.at_ K))
def Nd (K : aA) (C f : Str) : Bool := decide (eX K (.ref (He.ga K C)) f = some (some (.ref (He.ma K (He.ga K C) f)))) && (decide (PySem.W.specialIn K (.ref (He.ma K (He.ga K C) f)) "__get__" = some (some (.builtin "property.__get__"))) && (decide (PySem.W.takesIn K (.ref (He.ma K (He.ga K C) f)) = some true) && (match PySem.W.recIn K (He.ma K (He.ga K C) f) "property" with
 | some (.ref _ :: _) => true
 | _ => false)))
end PH
namespace PH
open PySem PySem.Spec PyProof.Rows L2
def Ki (K : aA) (c : Str) : Value := match LD c with
 | some v => v
 | none => .ref (He.ga K c)
def xmbB (K : aA) (cs : List Str) : Bool := cs.all fun c => cs.all fun d => decide (BA K (Ki K c) (Ki K d) = some (decide (c = d)))
end PH
namespace PH
open PySem PySem.Spec PyProof PyProof.Rows L2
def uN (K : aA) (ds : List (Str × Str)) : List Addr := ds.map fun d => (He.cT K (d.1, none)).2
def Hu (g : Addr -> Option Obj) (n : Nat) : aA := He.frT g (aO n)
abbrev OG : Type := He.AlT × Bool × (Bool × List He.FnW) × Bool
def L9 (tf : List Str) : List He.Defn := tf.map fun d => (d, none)
structure SaysU (fa : List He.Fa) (fn : List He.DefD) (ts : List He.Tab) (ex : aA -> Bool) (gn : List He5.DefA) (tf : List Str) (w : World) (h : Heap) (K : aA) : Prop where
 t : He.SaysT fa fn ts w K
 more : ex K = true
 gns : SaysG gn K
 tab : ∀ p ∈ L9 tf, zS K (He.cT K p).1 (He.cT K p).2 = true /\ K.lookup (He.cT K p).2 = none /\ h.get? (He.cT K p).2 = some { cls := .none, data := .fields #[] }
def Oc (n : Nat) (fa : List He.Fa) (fn : List He.DefD) (ts : List He.Tab) (ex : aA -> Bool) (gn : List He5.DefA) (tf : List Str) (g : Addr -> Option Obj) : OG := (He.obsT fa fn ts (Hu g n), ex (Hu g n), HS gn (Hu g n), He.tabsB g (L9 tf) (Hu g n))
theorem IX {n : Nat} {tf : List Str} {h : Heap} (e : He.tabsB h.get? (L9 tf) (Hu h.get? n) = true) : ∀ p ∈ L9 tf, zS (Hu h.get? n) (He.cT (Hu h.get? n) p).1 (He.cT (Hu h.get? n) p).2 = true /\ (Hu h.get? n).lookup (He.cT (Hu h.get? n) p).2 = none /\ h.get? (He.cT (Hu h.get? n) p).2 = some { cls := .none, data := .fields #[] } := fun p hp => by
 obtain ⟨h3, h4⟩ := He.ba (bD.mp e p hp);cases q : h.get? (He.cT (Hu h.get? n) p).2 with
 | none => rw [q] at h4; cases h4
 | some o =>
  rw [q] at h4;exact ⟨h3, He.frT_none q h4, by rw [He.emptyTab_eq h4]⟩
def O2 (n : Nat) (fa : List He.Fa) (fn : List He.DefD) (ts : List He.Tab) (ex : aA -> Bool) (gn : List He5.DefA) (tf : List Str) : PySem.W.Hook where
 α := OG
 obs := fun s => Oc n fa fn ts ex gn tf s.heap.get?
 val := fun w => (He.valT fn ts w, true, (true, gn.map He5.DefA.val), true)
 says := fun w h => ∃ K : aA, K.In h /\ SaysU fa fn ts ex gn tf w h K
 of := fun _ _ e => ⟨_, He.frT_in, congrArg (fun z : OG => z.1) e, congrArg (fun z : OG => z.2.1) e, ⟨congrArg (fun z : OG => z.2.2.1.1) e, congrArg (fun z : OG => z.2.2.1.2) e⟩, IX (congrArg (fun z : OG => z.2.2.2) e)⟩
 keeps := fun _ _ _ ⟨K, hK, c⟩ k => ⟨K, PySem.W.Frag.In.keeps hK k, c.t, c.more, c.gns, fun p hp => ⟨(c.tab p hp).1, (c.tab p hp).2.1, k _ _ (c.tab p hp).2.2⟩⟩
theorem AO {σ β γ : Type} {o : Option σ} {l : σ -> β} {b : β} {sn : σ -> γ} {c : γ} {K : σ -> aA} {tb : σ -> Bool} {fa : List He.Fa} {fs : List (List He.DefD)} {ts : List He.Tab} {ex : aA -> Bool} {gn : List He5.DefA} {tv : List (Option (List (Option (Str × Int))))}
  (hA : (o.map fun s => (l s, sn s, fa.all fun f => f.ok (K s), ts.map fun t => He.dicW (K s) (t.1 (K s)), ex (K s))) = some (b, c, true, tv, true))
  (hG : (o.map fun s => (HS gn (K s), tb s)) = some ((true, gn.map He5.DefA.val), true))
  (hD : ∀ f ∈ fs, (o.map fun s => obC f (K s)) = some (true, f.map He.DefD.val)) :
  (o.map fun s => (l s, sn s, (He.obsT fa fs.flatten ts (K s), ex (K s), HS gn (K s), tb s))) = some (b, c, ((true, fs.flatten.map He.DefD.val), tv), true, (true, gn.map He5.DefA.val), true) := by
 have h := HF hA hD;cases o with
 | none => cases hA
 | some s =>
  have h := Option.some.inj h;have g := Option.some.inj hG;have h1 := congrArg (fun z => z.1) h
  have h2 := congrArg (fun z => z.2.1) h
  have h3 := congrArg (fun z => z.2.2.1) h
  have h4 := congrArg (fun z => z.2.2.2) h
  have g1 := congrArg (fun z => z.1) g
  have g2 := congrArg (fun z => z.2) g
  dsimp only at h1 h2 h3 h4 g1 g2
  show some (l s, sn s, (He.obsT fa fs.flatten ts (K s), ex (K s), HS gn (K s), tb s)) = _
  rw [h1, h2, h3, h4, g1, g2]
def ndB (K : aA) (ds : List (Str × Str)) : Bool := decide (uN K ds).Nodup
end PH
namespace PHZ
open PH PySem PySem.Spec PyProof.Rows L2
def top (i : Nat) : Stmt := PySem.Challenge.pw_penhome_k96_kept_whatever_happens.main.body.getD i (.Pass ⟨0, 0, 0, 0⟩)
abbrev qM : Stmt := top 14
abbrev AM : Stmt := top 15
abbrev vV : Stmt := top 16
abbrev mS : Stmt := top 17
abbrev uS : Stmt := top 18
abbrev sM : Stmt := top 19
abbrev CN : Stmt := top 20
abbrev sN : Stmt := top 26
abbrev pF : Stmt := top 27
abbrev jQ : Stmt := top 29
abbrev gJ : Stmt := top 28
abbrev pG : Stmt := top 30
abbrev pI : Stmt := top 31
abbrev jH : Stmt := (gU (top 33)).getD 0 (.Pass ⟨0, 0, 0, 0⟩)
abbrev nL : Stmt := (gU (top 33)).getD 1 (.Pass ⟨0, 0, 0, 0⟩)
abbrev gZ : Stmt := (gU (top 33)).getD 6 (.Pass ⟨0, 0, 0, 0⟩)
abbrev mG : Stmt := top 34
abbrev eL : Stmt := (gU (top 36)).getD 0 (.Pass ⟨0, 0, 0, 0⟩)
abbrev fY : Stmt := (gU (top 36)).getD 1 (.Pass ⟨0, 0, 0, 0⟩)
abbrev fH : Stmt := (gU (top 36)).getD 2 (.Pass ⟨0, 0, 0, 0⟩)
abbrev fG : Stmt := (gU (top 36)).getD 3 (.Pass ⟨0, 0, 0, 0⟩)
abbrev eP : Stmt := (gU (top 36)).getD 4 (.Pass ⟨0, 0, 0, 0⟩)
abbrev fJ : Stmt := (gU (top 36)).getD 5 (.Pass ⟨0, 0, 0, 0⟩)
abbrev fZ : Stmt := (gU (top 36)).getD 6 (.Pass ⟨0, 0, 0, 0⟩)
abbrev nK : Stmt := top 37
abbrev pH : Stmt := top 38
abbrev BX : Stmt := top 39
abbrev CM : Stmt := top 41
abbrev AL : Stmt := top 42
abbrev iA : Stmt := (gU (top 44)).getD 2 (.Pass ⟨0, 0, 0, 0⟩)
abbrev jG : Stmt := (gU (top 44)).getD 0 (.Pass ⟨0, 0, 0, 0⟩)
abbrev kU : Stmt := (gU (top 44)).getD 1 (.Pass ⟨0, 0, 0, 0⟩)
abbrev hZ : Stmt := (gU (top 44)).getD 5 (.Pass ⟨0, 0, 0, 0⟩)
abbrev lM : Stmt := (gU (top 44)).getD 6 (.Pass ⟨0, 0, 0, 0⟩)
abbrev lN : Stmt := (gU (top 44)).getD 7 (.Pass ⟨0, 0, 0, 0⟩)
abbrev vW : Stmt := top 46
abbrev uT : Stmt := top 47
abbrev qN : Stmt := top 48
abbrev qO : Stmt := top 49
abbrev AN : Stmt := top 50
abbrev oJ : Stmt := top 51
abbrev pU : Stmt := top 52
abbrev nE : Stmt := top 53
abbrev tds : List (Str × Str) := [("_law_wrapped", "_law_wrapped.<locals>.<lambda>"), ("_law_tried", "_law_tried.<locals>.<lambda>")]
abbrev tfs : List Str := tds.map (·.1)
abbrev lL : Stmt := (gU (top 44)).getD 8 (.Pass ⟨0, 0, 0, 0⟩)
abbrev pS : Stmt := (gU (top 5)).getD 0 (.Pass ⟨0, 0, 0, 0⟩)
abbrev sJ : Stmt := (gU (top 8)).getD 0 (.Pass ⟨0, 0, 0, 0⟩)
def uF : He.DefD := zC "is_integer" qM
def C3 : He.DefD := zC "is_bit" AM
def C2 : He.DefD := zC "is_pen" vV
def uG : He.DefD := zC "is_command" mS
def zK : He.DefD := zC "executed" uS
def wU : He.DefD := zC "check_pen" sM
def EH : He.DefD := zC "moved" CN
def wV : He.DefD := zC "blocks_of" sN
def tH : He.DefD := zC "with_blocks" pF
def rR : He.DefD := zC "copied_block" jQ
def mO : He.DefD := zC "copied_statement" gJ
def tI : He.DefD := zC "well_formed" pG
def tK : He.DefD := zC "first_fault" pI
def xB : He.DefD := ⟨("Book", some "__init__"), "__init__", "Book.__init__", defArgs jH, defBody jH, defScope jH, [], []⟩
def zN : He.DefD := ⟨("Book", some "__len__"), "__len__", "Book.__len__", defArgs nL, defBody nL, defScope nL, [], []⟩
def tL : He.DefD := ⟨("Book", some "bodies"), "bodies", "Book.bodies", defArgs gZ, defBody gZ, defScope gZ, [], []⟩
def pZ : He.DefD := zC "has_procedure" mG
def oX : He.DefD := ⟨("Execution", some "__init__"), "__init__", "Execution.__init__", defArgs eL, defBody eL, defScope eL, [], []⟩
def oV : He.DefD := ⟨("Execution", some "take"), "take", "Execution.take", defArgs fY, defBody fY, defScope fY, [], []⟩
def nY : He.DefD := ⟨("Execution", some "enter"), "enter", "Execution.enter", defArgs fH, defBody fH, defScope fH, [], []⟩
def nX : He.DefD := ⟨("Execution", some "leave"), "leave", "Execution.leave", defArgs fG, defBody fG, defScope fG, [], []⟩
def mP : He.DefD := ⟨("Execution", some "unwind"), "unwind", "Execution.unwind", defArgs eP, defBody eP, defScope eP, [], []⟩
def nZ : He.DefD := ⟨("Execution", some "begin"), "begin", "Execution.begin", defArgs fJ, defBody fJ, defScope fJ, [], []⟩
def oW : He.DefD := ⟨("Execution", some "step"), "step", "Execution.step", defArgs fZ, defBody fZ, defScope fZ, [], []⟩
def rQ : He.DefD := zC "executed_run" nK
def tJ : He.DefD := zC "pens_behind" pH
def Kg : He.DefD := ⟨("ran", none), "ran", "ran", defArgs BX, defBody BX, defScope BX, [], [("pen", .glo "HOME")]⟩
def EG : He.DefD := zC "whole" CM
def C1 : He.DefD := zC "within" AL
def rT : He.DefD := ⟨("Live", some "move_to"), "move_to", "Live.move_to", defArgs iA, defBody iA, defScope iA, [], []⟩
def wX : He.DefD := ⟨("Live", some "__init__"), "__init__", "Live.__init__", defArgs jG, defBody jG, defScope jG, [], [("pen", .glo "HOME")]⟩
def zJ : He5.DefA := ⟨fun K => MM K "Live" "pen", "pen", "Live.pen", defArgs kU, defBody kU, defScope kU, [], []⟩
def rS : He.DefD := ⟨("Live", some "__setitem__"), "__setitem__", "Live.__setitem__", defArgs hZ, defBody hZ, defScope hZ, [], []⟩
def wY : He.DefD := ⟨("Live", some "__iadd__"), "__iadd__", "Live.__iadd__", defArgs lM, defBody lM, defScope lM, [], []⟩
def wZ : He.DefD := ⟨("Live", some "__call__"), "__call__", "Live.__call__", defArgs lN, defBody lN, defScope lN, [], []⟩
def C5 : He.DefD := zC "_law_pool" vW
def zM : He.DefD := zC "_law_draw" uT
def zL : He.DefD := zC "_law_same" qN
def uH : He.DefD := zC "_law_number" qO
def C4 : He.DefD := zC "_law_work" AN
def xA : He.DefD := zC "_law_wrapped" oJ
def Ay : He.DefD := zC "_law_tried" pU
def Ax : He.DefD := zC "law" nE
def wW : He.DefD := ⟨("Live", some "kept"), "kept", "Live.kept", defArgs lL, defBody lL, defScope lL, [], []⟩
def Aw : He.DefD := ⟨("NoBook", some "__init__"), "__init__", "NoBook.__init__", defArgs pS, defBody pS, defScope pS, [], []⟩
def C0 : He.DefD := ⟨("NoRun", some "__init__"), "__init__", "NoRun.__init__", defArgs sJ, defBody sJ, defScope sJ, [], []⟩
def fa : List He.Fa := ([.free "isinstance", .free "int", .free "bool", .free "tuple", .free "len", .free "all", .free "str", .glo "LIMITS", .free "range", .glo "NoPen", .glo "NoCommand", .int "DEEPEST" 3, .free "list", .free "enumerate", .int "MOST_IN_LIST" 8, .int "MOST_IN_PROCEDURE" 12, .int "MOST_PROCEDURES" 3, .glo "NoBook", .cls "Book", .noat "Book" "own"] : List He.Fa) ++ ([.cls "Execution", .noat "Execution" "own", .noat "Execution" "bits", .noat "Execution" "taken", .noat "Execution" "deeds", .noat "Execution" "stack", .noat "Execution" "active", .noat "Execution" "ended", .glo "NoRun", .glo "NoProcedure", .cls "Execution", .mkr "Execution", .glo "Execution", .cls "Live", .noat "Live" "place", .noat "Live" "heading", .noat "Live" "mark", .noat "Live" "book", .glo "NoPart", .glo "NoNumber"] : List He.Fa) ++ ([.free "KeyError", .free "ZeroDivisionError", .glo "NoRun", .glo "NoPart", .glo "NoCommand", .cls "Book", .mkr "Book", .glo "Book", .cls "Live", .mkr "Live", .glo "Live", .glo "is_integer", .glo "is_bit", .glo "is_pen", .glo "is_command", .glo "executed", .glo "check_pen", .glo "moved", .glo "blocks_of", .glo "with_blocks"] : List He.Fa) ++ ([.glo "copied_block", .glo "copied_statement", .glo "well_formed", .glo "first_fault", .meth "Book" "__init__", .meth "Book" "__len__", .meth "Book" "bodies", .glo "has_procedure", .meth "Execution" "__init__", .meth "Execution" "take", .meth "Execution" "enter", .meth "Execution" "leave", .meth "Execution" "unwind", .meth "Execution" "begin", .meth "Execution" "step", .glo "executed_run", .glo "pens_behind", .glo "ran", .glo "whole", .glo "within"] : List He.Fa) ++ ([.meth "Live" "move_to", .meth "Live" "__setitem__", .meth "Live" "__iadd__", .meth "Live" "__call__", .glo "_law_pool", .glo "_law_draw", .glo "_law_same", .glo "_law_number", .glo "_law_work", .glo "_law_wrapped", .glo "_law_tried", .glo "law", .meth "Live" "kept"] : List He.Fa)
def fn0 : List He.DefD := [Aw, C0, uF, C3, C2, uG, zK, wU, EH, wV, tH, rR, mO, tI, tK, xB, zN, tL, pZ, oX, oV, nY, nX, mP, nZ, oW, rQ, tJ, Kg, EG, C1, rT, wX, rS, wY, wZ, C5, zM, zL, uH, C4, xA, Ay, Ax, wW]
def fns : List (List He.DefD) := [fn0]
def fn : List He.DefD := fns.flatten
def ts : List He.Tab := [F7]
def exs (K : aA) : List Bool := [limB K, xcB K "NoPen", xcB K "NoCommand", xaB K "NoBook" ["procedure", "path"], xaB K "NoRun" ["index"], xcB K "NoProcedure", xcB K "NoPart", xcB K "NoNumber", pQ K (He.ga K "Live"), xS K (He.ga K "Live"), xmbB K ["NoBook", "NoCommand", "NoNumber", "NoPart", "NoPath", "NoPen", "NoProcedure", "NoRun", "KeyError", "ZeroDivisionError"], He.tupB K "HOME" [.int 0, .int 0, .int 1, .int 0, .int 0, .int 0], Nd K "Live" "pen", ndB K tds]
def ex (K : aA) : Bool := (exs K).all id
def loose : List Str := (["_wall", "HomeError", "NoPen", "NoCommand", "NoBook", "NoProcedure", "NoPath", "NoRun", "NoPart", "NoNumber", "HOME", "LIMITS", "is_integer", "is_bit", "is_pen", "is_command", "executed", "check_pen", "moved", "MOST_PROCEDURES", "MOST_IN_LIST", "MOST_IN_PROCEDURE", "DEEPEST", "blocks_of", "with_blocks", "copied_statement", "copied_block", "well_formed", "first_fault", "statement_at"] : List Str) ++ (["Book", "has_procedure", "Execution", "executed_run", "pens_behind", "ran", "whole", "within", "Live", "_law_pool", "_law_draw", "_law_same", "_law_number", "_law_work", "_law_wrapped", "_law_tried"] : List Str)
def gn : List He5.DefA := [zJ]
abbrev R : PySem.W.OpenRow := PySem.W.OpenLaw.row PySem.Challenge.rw_penhome_k96_kept_whatever_happens
abbrev hk : PySem.W.Hook := O2 1200 fa fn ts ex gn tfs
def ob (s : AC) : OG := Oc 1200 fa fn ts ex gn tfs (HandSHeadRun.getT s)
abbrev Kx (w : World) : Prop := HandSHeadRun.RunEq R (kJ R.prog [53]) hk ob 8000 loose w
noncomputable abbrev Hw (w : World) (os : OsState) := HandSHeadRun.endF (HandSHeadRun.stepQ (HandSHeadRun.denQ HandSHeadRun.tabQ) R.prog w) 8000 R.prog w os
abbrev Ei (s : AC) : aA := Hu (HandSHeadRun.getT s) 1200
set_option maxHeartbeats 0 in
theorem Lb (w : World) : ∀ os : OsState, (Hw (w.withFollow "special-get-raises" true) os).map (fun s => (HS gn (Ei s), He.tabsB (HandSHeadRun.getT s) (L9 tfs) (Ei s))) = some ((true, gn.map He5.DefA.val), true) := by
 intro os
 kernel_rfl
set_option maxHeartbeats 0 in
theorem Le (w : World) : ∀ os : OsState, (Hw (w.withFollow "special-get-raises" false) os).map (fun s => (HS gn (Ei s), He.tabsB (HandSHeadRun.getT s) (L9 tfs) (Ei s))) = some ((true, gn.map He5.DefA.val), true) := by
 intro os
 kernel_rfl
set_option maxHeartbeats 0 in
theorem Lf (w : World) : ∀ os : OsState, (Hw (w.withFollow "special-get-raises" false) os).map (fun s => (HandSHeadRun.looksF R.prog (IH (w.withFollow "special-get-raises" false).params) s.abs, HandSHeadRun.seenQ (kJ R.prog [53]) loose (PySem.importedModules R.prog.main.body) (fun s => PySem.W.xlAt (kJ R.prog [53]) [] s && PySem.W.recOk R.toRowW.records s) s.abs, fa.all fun f => f.ok (Ei s), ts.map fun t => He.dicW (Ei s) (t.1 (Ei s)), ex (Ei s))) = some (true, IK (kJ R.prog [53]) loose, true, ts.map (fun t => some (He.keysIn (w.withFollow "special-get-raises" false).params t.2)), true) := by
 intro os
 kernel_rfl
set_option maxHeartbeats 0 in
theorem Lg (w : World) : ∀ os : OsState, (Hw (w.withFollow "special-get-raises" false) os).map (fun s => obC fn0 (Ei s)) = some (true, fn0.map He.DefD.val) := by
 intro os
 kernel_rfl
theorem run_f (w : World) : Kx (w.withFollow "special-get-raises" false) := fun os => AO (tb := fun s => He.tabsB (HandSHeadRun.getT s) (L9 tfs) (Ei s)) (fs := fns) (Lf w os) (Le w os) (II.mpr ⟨Lg w os, fun f hf => nomatch hf⟩)
set_option maxHeartbeats 0 in
theorem Lc (w : World) : ∀ os : OsState, (Hw (w.withFollow "special-get-raises" true) os).map (fun s => (HandSHeadRun.looksF R.prog (IH (w.withFollow "special-get-raises" true).params) s.abs, HandSHeadRun.seenQ (kJ R.prog [53]) loose (PySem.importedModules R.prog.main.body) (fun s => PySem.W.xlAt (kJ R.prog [53]) [] s && PySem.W.recOk R.toRowW.records s) s.abs, fa.all fun f => f.ok (Ei s), ts.map fun t => He.dicW (Ei s) (t.1 (Ei s)), ex (Ei s))) = some (true, IK (kJ R.prog [53]) loose, true, ts.map (fun t => some (He.keysIn (w.withFollow "special-get-raises" true).params t.2)), true) := by
 intro os
 kernel_rfl
set_option maxHeartbeats 0 in
theorem Ld (w : World) : ∀ os : OsState, (Hw (w.withFollow "special-get-raises" true) os).map (fun s => obC fn0 (Ei s)) = some (true, fn0.map He.DefD.val) := by
 intro os
 kernel_rfl
theorem run_t (w : World) : Kx (w.withFollow "special-get-raises" true) := fun os => AO (tb := fun s => He.tabsB (HandSHeadRun.getT s) (L9 tfs) (Ei s)) (fs := fns) (Lc w os) (Lb w os) (II.mpr ⟨Ld w os, fun f hf => nomatch hf⟩)
theorem run_ (w : World) : Kx w := PySem.W.byRow2 "special-get-raises" run_f run_t w
end PHZ
namespace PH
open PySem PySem.Spec PyProof.Rows L2
section
variable {X : Cx}
theorem cP {e : Expr} {t u : TE} (h : PE X e t) (i : ∀ σ H Q, u σ H Q -> t σ H Q) : PE X e u := ⟨fun pins s σ H Q I q => h.run pins s σ H Q I (i σ H Q q)⟩
theorem B3 {e : Expr} {t u : TT} (h : PT X e t) (i : ∀ σ H Q, u σ H Q -> t σ H Q) : PT X e u := ⟨fun pins s σ H Q I q => h.run pins s σ H Q I (i σ H Q q)⟩
theorem fV {f : Value -> Value -> Sem Value} {r u : R2} (h : OpR X f r) (i : ∀ x y H Q, u x y H Q -> r x y H Q) : OpR X f u := fun pins s σ H x y v w Q I rx ry q => h pins s σ H x y v w Q I rx ry (i x y H Q q)
theorem nG {f : Value} {r u : List V -> Hp -> VK -> Prop} (h : CallR X f r) (i : ∀ xs H Q, u xs H Q -> r xs H Q) : CallR X f u := fun pins s σ H xs us Q I rx q => h pins s σ H xs us Q I rx (i xs H Q q)
theorem Gf {r u : R2} (h : IxR X r) (i : ∀ x y H Q, u x y H Q -> r x y H Q) : IxR X u := fun e1 e2 pins s σ H x y v w Q I rx ry q => h e1 e2 pins s σ H x y v w Q I rx ry (i x y H Q q)
def sl : L2.St -> Nat -> Option V
 | [], _ => none
 | x :: _, 0 => x
 | _ :: r, n + 1 => sl r n
theorem NW : ∀ {σ : L2.St} {i : Nat} {v : V}, sl σ i = some v -> σ[i]? = some (some v)
 | [], _, _, h => by cases h
 | x :: _, 0, v, h => by
  have e : x = some v := h;rw [e]; rfl
 | _ :: r, n + 1, v, h => by
  have e := NW (σ := r) (i := n) (v := v) h
  simpa using e
def yQ (i : Nat) : TE := fun σ H Q => match sl σ i with
 | some v => Q v H
 | none => False
theorem cv (i : Nat) {x : Str} {pos : Pos} (hN : X.N[i]? = some x := by rfl) (hv : Vis X.env.scope x := by first | exact xO rfl | exact rW (xO rfl) | exact rW (rW rfl)) (hd : (x == ("__debug__" : Str)) = false := by decide)
  (hcd : (x == ("__classdict__" : Str)) = false := by decide) : PE X (.Name x pos) (yQ i) := cP (pe_var hN hv hd hcd) fun σ H Q h => by
 unfold yQ at h;cases e : sl σ i with
 | none => rw [e] at h; exact h.elim
 | some v => rw [e] at h; exact ⟨v, NW e, h⟩
def cI0 (g : Int -> Int -> V) : R2 := fun x y H Q => match x, y with
 | .int i, .int j => Q (g i j) H
 | _, _ => False
def cI (C : Int -> Int -> Prop) (g : Int -> Int -> V) : R2 := fun x y H Q => match x, y with
 | .int i, .int j => C i j /\ Q (g i j) H
 | _, _ => False
theorem yR {g : Int -> Int -> V} : ∀ x y H Q, cI0 g x y H Q -> rI0 g x y H Q := fun x y H Q h => by
 cases x with
 | int i => cases y with
  | int j => exact ⟨i, j, rfl, rfl, h⟩
  | _ => exact h.elim
 | _ => exact h.elim
theorem EM {C : Int -> Int -> Prop} {g : Int -> Int -> V} : ∀ x y H Q, cI C g x y H Q -> rI C g x y H Q := fun x y H Q h => by
 cases x with
 | int i => cases y with
  | int j => exact ⟨i, j, rfl, rfl, h.1, h.2⟩
  | _ => exact h.elim
 | _ => exact h.elim
def rAddI : R2 := fun x y H Q => match x, y with
 | .int i, .int j => Q (.int (i + j)) H
 | _, _ => False
def NY : R2 := fun x y H Q => match x, y with
 | .int i, .int j => Q (.int (i - j)) H
 | _, _ => False
def G1 : R2 := fun x y H Q => match x, y with
 | .int i, .int j => IntMulOk i j /\ Q (.int (i * j)) H
 | _, _ => False
def Na : R2 := fun x y H Q => match x, y with
 | .int i, .int j => (0 < j) /\ Q (.int (i % j)) H
 | _, _ => False
def J4 : R2 := fun x y H Q => match x, y with
 | .int i, .int j => (CDiv i j) /\ Q (.int (i / j)) H
 | _, _ => False
def NZ : R2 := fun x y H Q => match x, y with
 | .int i, .int j => (CPow i j) /\ Q (.int (i ^ j.toNat)) H
 | _, _ => False
def rLtC : R2 := fun x y H Q => match x, y with
 | .int i, .int j => Q (.bl (decide (i < j))) H
 | _, _ => False
def rLeC : R2 := fun x y H Q => match x, y with
 | .int i, .int j => Q (.bl (decide (i <= j))) H
 | _, _ => False
def rGtC : R2 := fun x y H Q => match x, y with
 | .int i, .int j => Q (.bl (decide (j < i))) H
 | _, _ => False
def rGeC : R2 := fun x y H Q => match x, y with
 | .int i, .int j => Q (.bl (decide (j <= i))) H
 | _, _ => False
def NM (K : aA) : R2 := fun x y H Q => match x, y with
 | .int i, .int j => Q (.int (i + j)) H
 | .str a, .str b => a.length + b.length <= sizeLine /\ Q (.str (a ++ b)) H
 | .ref _, .ref _ => rCat x y H Q \/ rCatA K x y H Q
 | _, _ => False
theorem dD : OpR X (binaryOp .Add) (NM X.K) := by
 refine fV (OpR.or (X := X) op_add (OpR.or op_add_str (OpR.or op_cat op_catA))) fun x y H Q h => ?_
 cases x with
 | int i => cases y with
  | int j => exact .inl ⟨i, j, rfl, rfl, h⟩
  | _ => exact h.elim
 | str i => cases y with
  | str j => exact .inr (.inl ⟨i, j, rfl, rfl, h.1, h.2⟩)
  | _ => exact h.elim
 | ref i => cases y with
  | ref j => exact .inr (.inr h)
  | _ => exact h.elim
 | _ => exact h.elim
theorem oM : OpR X (binaryOp .Sub) NY := fV op_sub fun x y H Q h => yR (g := fun i j => .int (i - j)) x y H Q h
theorem Ln : OpR X (binaryOp .Mult) (rI IntMulOk fun i j => .int (i * j)) := opI fun _ _ _ _ _ _ _ hc q => mul_int q hc
theorem hJ : OpR X (binaryOp .Mult) G1 := fV Ln fun x y H Q h => EM (C := IntMulOk) (g := fun i j => .int (i * j)) x y H Q h
theorem mulL {i j : Int} (h1 : -(2 ^ 64) < i) (h2 : i < 2 ^ 64) : IntMulOk i j := CMul.ok (.inl ⟨h1, h2⟩)
theorem mulR {i j : Int} (h1 : -(2 ^ 64) < j) (h2 : j < 2 ^ 64) : IntMulOk i j := CMul.ok (.inr ⟨h1, h2⟩)
theorem tR : OpR X (binaryOp .Mod) Na := fV op_mod fun x y H Q h => EM (C := fun _ j => 0 < j) (g := fun i j => .int (i % j)) x y H Q h
theorem AS : OpR X (binaryOp .FloorDiv) J4 := fV op_fdiv fun x y H Q h => EM (C := CDiv) (g := fun i j => .int (i / j)) x y H Q h
theorem mT : OpR X (binaryOp .Pow) NZ := fV op_pow fun x y H Q h => EM (C := CPow) (g := fun i j => .int (i ^ j.toNat)) x y H Q h
theorem yA : OpR X (compareOp .Lt) rLtC := fV op_lt fun x y H Q h => yR (g := fun i j => .bl (decide (i < j))) x y H Q h
theorem qP : OpR X (compareOp .LtE) rLeC := fV op_le fun x y H Q h => yR (g := fun i j => .bl (decide (i <= j))) x y H Q h
theorem JE : OpR X (compareOp .Gt) rGtC := fV op_gt fun x y H Q h => yR (g := fun i j => .bl (decide (j < i))) x y H Q h
theorem OZ : OpR X (compareOp .GtE) rGeC := fV op_ge fun x y H Q h => yR (g := fun i j => .bl (decide (j <= i))) x y H Q h
def cNeg : V -> Hp -> VK -> Prop := fun x H Q => match x with
 | .int i => Q (.int (-i)) H
 | _ => False
theorem LK : UnR X (unaryOp .USub) cNeg := fun pins s σ H x v Q I rx h => un_neg pins s σ H x v Q I rx (by
 cases x with
 | int i => exact ⟨i, rfl, h⟩
 | _ => exact h.elim)
def cEq (K : aA) : R2 := fun x y H Q => match x, y with
 | .int i, .int j => Q (.bl (decide (i = j))) H
 | .str i, .str j => Q (.bl (decide (i = j))) H
 | _, _ => rEqD K x y H Q
def cNe (K : aA) : R2 := fun x y H Q => match x, y with
 | .int i, .int j => Q (.bl (!decide (i = j))) H
 | .str i, .str j => Q (.bl (!decide (i = j))) H
 | _, _ => rNeD K x y H Q
theorem dI {i j : Int} : decide (V.int i = V.int j) = decide (i = j) := by
 by_cases h : i = j
 ·rw [decide_eq_true h, h, decide_eq_true rfl]
 ·rw [decide_eq_false h, decide_eq_false fun e => h (V.int.inj e)]
theorem dS {i j : Str} : decide (V.str i = V.str j) = decide (i = j) := by
 by_cases h : i = j
 ·rw [decide_eq_true h, h, decide_eq_true rfl]
 ·rw [decide_eq_false h, decide_eq_false fun e => h (V.str.inj e)]
theorem bF (hu : X.A.units + 64 < cLine) : OpR X (compareOp .Eq) (cEq X.K) := by
 refine fV (OpR.or (X := X) op_eq (op_eqD hu)) fun x y H Q h => ?_
 cases x with
 | int i => cases y with
  | int j => exact .inl ⟨rfl, by rw [dI]; exact h⟩
  | _ => exact .inr h
 | str i => cases y with
  | str j => exact .inl ⟨rfl, by rw [dS]; exact h⟩
  | _ => exact .inr h
 | _ => exact .inr h
theorem sO (hu : X.A.units + 64 < cLine) : OpR X (compareOp .NotEq) (cNe X.K) := by
 refine fV (OpR.or (X := X) op_ne (op_neD hu)) fun x y H Q h => ?_
 cases x with
 | int i => cases y with
  | int j => exact .inl ⟨rfl, by rw [dI]; exact h⟩
  | _ => exact .inr h
 | str i => cases y with
  | str j => exact .inl ⟨rfl, by rw [dS]; exact h⟩
  | _ => exact .inr h
 | _ => exact .inr h
variable {a b c : Expr} {ta tb tc : TE} {pos : Pos}
def cT (K : aA) : V -> Hp -> (Bool -> Hp -> Prop) -> Prop := fun x H Q => match x with
 | .bl k => Q k H
 | .non => Q false H
 | .int i => Q (i != 0) H
 | x => ∃ k, TruV K x H k /\ Q k H
def cTest (K : aA) (t : TE) : TT := fun σ H Q => t σ H fun x H' => cT K x H' Q
theorem Kl {K : aA} : ∀ x H Q, cT K x H Q -> ∃ k, TruV K x H k /\ Q k H := fun x H Q h => by
 cases x with
 | bl k => exact ⟨k, rfl, h⟩
 | non => exact ⟨false, rfl, h⟩
 | int i => exact ⟨_, rfl, h⟩
 | _ => exact h
theorem t_val (ha : PE X a ta) (he : ∀ whole, isTrue a X.env whole = (do let v <- whole; standAt a.pos; holding [v] (truthy v)) := by intro _; rfl) : PT X a (cTest X.K ta) := by
 refine ⟨fun pins s σ H Q I h => ?_⟩
 exact isTrue_plain (thn (ha.run pins s σ H _ I h) fun v s1 ⟨x, H1, I1, r1, q1⟩ => tru_ok pins s1 σ H1 x v Q I1 r1 (Kl x H1 Q q1)) (he _)
def cB (t : TE) : TT := fun σ H Q => t σ H fun x H' => match x with
 | .bl k => Q k H'
 | _ => False
theorem NT {op : CmpOp} {r : R2} (ho : OpR X (compareOp op) r) (ha : PE X a ta) (hb : PE X b tb) (hm : behindInMarks op b = false := by rfl) : PT X (.Compare a [op] [b] pos) (cB (tOp r ta tb)) := by
 refine ⟨fun pins s σ H Q I h => ?_⟩
 have h' : ta σ H fun x H1 => tb σ H1 fun y H2 => r x y H2 fun z H3 => (match z with | .bl k => Q k H3 | _ => False) := h
 refine wpAny_isTrue_Compare1 (thn (ha.run pins s σ H _ I h') fun v s1 ⟨x, H1, I1, r1, q1⟩ => thn (hb.run pins s1 σ H1 _ I1 q1) fun u s2 ⟨y, H2, I2, r2, q2⟩ => thn (ho pins s2 σ H2 x y v u _ I2 r1 r2 q2) fun d s3 hz => ?_) hm
 obtain ⟨z, H3, I3, r3, q3⟩ := hz;cases z with
 | bl k => cases r3; exact wpAny_truthy_bool ⟨H3, I3, q3⟩
 | _ => exact q3.elim
theorem OD {op : CmpOp} {r : R2} (ho : OpR X (compareOp op) r) (ha : PE X a ta) (hb : PE X b tb) (hm : behindInMarks op b = false := by rfl) : PE X (.Compare a [op] [b] pos) (tOp r ta tb) := pe_cmpR ho ha hb hm
end
section
variable {X : Cx} {a b c : Expr} {ta tb tc : TE} {pos : Pos}
variable {rest : List Expr}
def cAndV (ta tb : TE) : TE := fun σ H Q => ta σ H fun x H1 => match x with
 | .bl c => if c = true then tb σ H1 Q else Q (.bl false) H1
 | _ => False
def cNotV (K : aA) (ta : TE) : TE := fun σ H Q => ta σ H fun x H1 => cT K x H1 fun k H2 => Q (.bl (!k)) H2
theorem e_and (ha : PE X a ta) (hb : PE X (.BoolOp .And (b :: rest) pos) tb) : PE X (.BoolOp .And (a :: b :: rest) pos) (cAndV ta tb) := by
 refine ⟨fun pins s σ H Q I h => ?_⟩
 refine BoolOp_and (thn (ha.run pins s σ H _ I h) fun v s1 hq => ?_)
 obtain ⟨x, H1, I1, r1, q1⟩ := hq;cases x with
 | bl c =>
  cases r1;refine wpAny_truthy_bool ?_
  cases c with
  | true => exact hb.run pins s1 σ H1 Q I1 q1
  | false => exact ⟨.bl false, H1, I1, rfl, q1⟩
 | _ => exact q1.elim
theorem e_not (ha : PE X a ta) : PE X (.UnaryOp .Not a pos) (cNotV X.K ta) := by
 refine ⟨fun pins s σ H Q I h => ?_⟩
 refine UnaryOp_ (thn (ha.run pins s σ H _ I h) fun v s1 hq => ?_)
 obtain ⟨x, H1, I1, r1, q1⟩ := hq;exact not_of (thn (tru_ok pins s1 σ H1 x v (fun c H2 => Q (.bl (!c)) H2) I1 r1 (Kl x H1 _ q1)) fun c s2 ⟨H2, I2, q2⟩ => ⟨.bl (!c), H2, I2, rfl, q2⟩)
def D6 (r r' : R2) (ta tb tc : TE) : TE := fun σ H Q => ta σ H fun x H1 => tb σ H1 fun y H2 => r x y H2 fun z H3 => match z with
 | .bl k => if k = true then tc σ H3 fun w' H4 => r' y w' H4 Q else Q (.bl false) H3
 | _ => False
theorem ND {op op' : CmpOp} {r r' : R2} (ho : OpR X (compareOp op) r) (ho' : OpR X (compareOp op') r') (ha : PE X a ta) (hb : PE X b tb) (hc : PE X c tc)
  (hm : lastMarks [op, op'] [b, c] = false := by with_unfolding_all rfl) : PE X (.Compare a [op, op'] [b, c] pos) (D6 r r' ta tb tc) := by
 refine ⟨fun pins s σ H Q I h => ?_⟩
 refine Compare_chain (thn (ha.run pins s σ H _ I h) fun v s1 ⟨x, H1, I1, r1, q1⟩ => chain_link (thn (hb.run pins s1 σ H1 _ I1 q1) fun u s2 ⟨y, H2, I2, r2, q2⟩ =>
  thn (ho pins s2 σ H2 x y v u _ I2 r1 r2 q2) fun d s3 hz => ?_)) hm
 obtain ⟨z, H3, I3, r3, q3⟩ := hz;cases z with
 | bl k =>
  cases r3;refine wpAny_truthy_bool ?_
  cases k with
  | false => exact ite_ff ⟨.bl false, H3, I3, rfl, q3⟩
  | true => exact ite_tt (chain_last (thn (hc.run pins s3 σ H3 _ I3 q3) fun w' s4 ⟨z', H4, I4, r4, q4⟩ => ho' pins s4 σ H4 y z' u w' Q I4 r2 r4 q4))
 | _ => exact q3.elim
theorem LO {op op' : CmpOp} {r r' : R2} (ho : OpR X (compareOp op) r) (ho' : OpR X (compareOp op') r') (ha : PE X a ta) (hb : PE X b tb) (hc : PE X c tc)
  (hm : lastMarks [op, op'] [b, c] = false := by with_unfolding_all rfl) : PT X (.Compare a [op, op'] [b, c] pos) (cB (D6 r r' ta tb tc)) := by
 refine ⟨fun pins s σ H Q I h => ?_⟩
 refine isTrue_chain (thn (ha.run pins s σ H _ I h) fun v s1 ⟨x, H1, I1, r1, q1⟩ => test_link (thn (hb.run pins s1 σ H1 _ I1 q1) fun u s2 ⟨y, H2, I2, r2, q2⟩ =>
  thn (ho pins s2 σ H2 x y v u _ I2 r1 r2 q2) fun d s3 hz => ?_)) hm
 obtain ⟨z, H3, I3, r3, q3⟩ := hz;cases z with
 | bl k =>
  cases r3;refine wpAny_truthy_bool ?_
  cases k with
  | false => exact ite_ff ⟨H3, I3, q3⟩
  | true =>
   refine ite_tt (test_last (thn (hc.run pins s3 σ H3 _ I3 q3) fun w' s4 ⟨z', H4, I4, r4, q4⟩ => thn (ho' pins s4 σ H4 y z' u w' _ I4 r2 r4 q4) fun d' s5 hz2 => ?_))
   obtain ⟨z2, H5, I5, r5, q5⟩ := hz2;cases z2 with
   | bl k2 => cases r5; exact wpAny_truthy_bool ⟨H5, I5, q5⟩
   | _ => exact q5.elim
 | _ => exact q3.elim
def cIx (K : aA) : R2 := fun x y H Q => match x, y with
 | .ref p, .int i => ∃ xs v, (SqL K H p xs \/ SqT K H p xs) /\ atI xs i = some v /\ Q v H
 | .str z, .int i => z.length <= sizeLine /\ ∃ c, atI z.cps.toList i = some c /\ Q (.str ⟨#[c]⟩) H
 | _, _ => False
theorem ix_C : IxR X (cIx X.K) := Gf ix_seq fun x y H Q h => by
 cases x with
 | ref p => cases y with
  | int i =>
   obtain ⟨xs, v, h1 | h1, h2, q⟩ := h
   ·exact .inl ⟨p, xs, i, v, rfl, rfl, h1, h2, q⟩
   ·exact .inr (.inl ⟨p, xs, i, v, rfl, rfl, h1, h2, q⟩)
  | _ => exact h.elim
 | str z => cases y with
  | int i =>
   obtain ⟨h1, c, h2, q⟩ := h;exact .inr (.inr ⟨z, i, c, rfl, rfl, h1, h2, q⟩)
  | _ => exact h.elim
 | _ => exact h.elim
theorem e_ix (ha : PE X a ta) (hb : PE X b tb) (hs : PlainIx b := by intro _ _; rfl) : PE X (.Subscript a b pos) (tOp (cIx X.K) ta tb) := pe_ix ix_C ha hb hs
def cLen (K : aA) : V -> Hp -> VK -> Prop := fun x H Q => match x with
 | .str z => z.length <= sizeLine /\ Q (.int z.length) H
 | .ref p => ∃ ys, (SqL K H p ys \/ SqT K H p ys) /\ Q (.int ys.length) H
 | _ => False
def c1 (r : V -> Hp -> VK -> Prop) : List V -> Hp -> VK -> Prop := fun xs H Q => match xs with
 | [x] => r x H Q
 | _ => False
theorem e_len {p : Pos} (hm : X.mg "len" = none) (ha : PE X a ta) (hg : Gl X "len" := by rfl) (hs : starEach [a] X.env = [(false, eval a X.env)] := by rfl) : PE X (.Call (.Name "len" p) [a] [] pos) (tCB (c1 (cLen X.K)) (tCons ta tNil)) :=
 pe_callB (nG (CallR.or call_len_seq call_len_str) fun xs H Q h => by
  match xs, h with
  | [x], h =>
   cases x with
   | str z => exact .inr ⟨z, rfl, h.1, h.2⟩
   | ref p =>
    obtain ⟨ys, h1, q⟩ := h;exact .inl ⟨p, ys, rfl, h1, q⟩
   | _ => exact h.elim) hg hm boot_len (pa_cons ha pa_nil hs) (he := hs)
def cInt : V -> Hp -> VK -> Prop := fun x H Q => match x with
 | .int i => Q (.int i) H
 | .bl k => Q (.int (if k then 1 else 0)) H
 | _ => False
theorem OC {p : Pos} (hm : X.mg "int" = none) (ha : PE X a ta) (hg : Gl X "int" := by rfl) (hs : starEach [a] X.env = [(false, eval a X.env)] := by rfl) : PE X (.Call (.Name "int" p) [a] [] pos) (tCB (c1 cInt) (tCons ta tNil)) :=
 pe_callTy (nG call_int1 fun xs H Q h => by
  match xs, h with
  | [x], h =>
   cases x with
   | int i => exact .inl ⟨i, rfl, h⟩
   | bl k => exact .inr ⟨k, rfl, h⟩
   | _ => exact h.elim) hg hm boot_int (pa_cons ha pa_nil hs) (he := hs)
def isTy (T n : String) : Bool := n == T || (n == "bool" && T == "int")
def kinds : List String := ["NoneType", "bool", "int", "str", "list", "tuple", "dict"]
def targets : List String := ["int", "bool", "str", "list", "tuple", "dict"]
theorem M7 (K : aA) : (kinds.all fun n => targets.all fun T => decide (PySem.W.kitOne K (.type n) (.type T) = some (isTy T n))) = true := by kernel_rfl
theorem F8 {K : aA} {n T : String} (hn : n ∈ kinds) (hT : T ∈ targets) : PySem.W.kitOne K (.type n) (.type T) = some (isTy T n) :=
 of_decide_eq_true (bD.mp (bD.mp (M7 K) n hn) T hT)
def B4 (K : aA) (H : Hp) (a : Addr) (n : String) : Prop := n ∈ ["list", "tuple", "dict"] /\ TyX K H (.ref a) (.type n)
def Kn (K : aA) (T : String) : V -> Hp -> VK -> Prop := fun x H Q => match x with
 | .non => Q (.bl false) H
 | .bl _ => Q (.bl (T == "bool" || T == "int")) H
 | .int _ => Q (.bl (T == "int")) H
 | .str _ => Q (.bl (T == "str")) H
 | .ref a => ∃ n, B4 K H a n /\ Q (.bl (n == T)) H
 | _ => False
def cIsiL (K : aA) (T : String) : List V -> Hp -> VK -> Prop := fun xs H Q => match xs with
 | [x, .ty n] => if n = T then Kn K T x H Q else False
 | _ => False
theorem I7 {T : String} (hT : T ∈ targets) : CallR X (.builtin "isinstance") (cIsiL X.K T) := nG call_isi fun xs H Q h => by
 match xs, h with
 | [x, .ty n], h =>
  have h0 : if n = T then Kn X.K T x H Q else False := h
  by_cases e : n = T
  case neg => rw [if_neg e] at h0; exact h0.elim
  rw [if_pos e] at h0
  replace h := h0
  subst e;have go : ∀ (k : String) (b : Bool), k ∈ kinds -> TyX X.K H x (.type k) -> b = isTy n k -> Q (.bl b) H -> rIsi X.K [x, .ty n] H Q := fun k b hk ty e q => ⟨x, .ty n, .type k, .type n, isTy n k, rfl, .ty n, ty, F8 hk hT, by rw [<- e]; exact q⟩
  have h6 : n = "int" \/ n = "bool" \/ n = "str" \/ n = "list" \/ n = "tuple" \/ n = "dict" := by simpa [targets] using hT
  cases x with
  | non => exact go "NoneType" false (by decide) (.base .non) (by rcases h6 with e | e | e | e | e | e <;> subst e <;> decide) h
  | bl b => exact go "bool" _ (by decide) (.base (.bl b)) (by rcases h6 with e | e | e | e | e | e <;> subst e <;> decide) h
  | int b => exact go "int" _ (by decide) (.base (.int b)) (by rcases h6 with e | e | e | e | e | e <;> subst e <;> decide) h
  | str b => exact go "str" _ (by decide) (.base (.str b)) (by rcases h6 with e | e | e | e | e | e <;> subst e <;> decide) h
  | ref a =>
   obtain ⟨k, ⟨hk, ty⟩, q⟩ := h;have h3 : k = "list" \/ k = "tuple" \/ k = "dict" := by simpa using hk
   exact go k _ (by rcases h3 with e | e | e <;> subst e <;> decide) ty (by rcases h6 with e | e | e | e | e | e <;> rcases h3 with e' | e' | e' <;> subst e <;> subst e' <;> decide) q
  | _ => exact h.elim
def cIsE (K : aA) (T : String) (ta : TE) : TE := fun σ H Q => ta σ H fun x H1 => Kn K T x H1 Q
theorem e_isi {p q : Pos} {T : String} {y : Str} (hm : X.mg "isinstance" = none) (hmT : X.mg y = none) (ha : PE X a ta) (hT : T ∈ targets := by decide) (hv : bootBuiltins y = some (.type T) := by decide +kernel)
  (hg : Gl X "isinstance" := by rfl) (hgT : Gl X y := by rfl) (hn : y ≠ "__name__" := by decide) (hd : (y == ("__debug__" : Str)) = false := by decide) (hs : starEach [a, .Name y q] X.env = (false, eval a X.env) :: starEach [.Name y q] X.env := by rfl) :
  PE X (.Call (.Name "isinstance" p) [a, .Name y q] [] pos) (cIsE X.K T ta) :=
 cP (pe_callB (I7 hT) hg hm boot_isinstance (pa_cons ha (pa_cons (pe_bltn (v := .ty T) hgT hmT hv rfl hn hd) pa_nil) hs) (he := hs)) fun σ H Q h => by
  show ta σ H fun x H1 => if T = T then Kn X.K T x H1 Q else False
  simp only [if_true];exact h
def cAll (K : aA) : V -> Hp -> VK -> Prop := fun x H Q => match x with
 | .ref p => ∃ bs : List Bool, SqL K H p (bs.map V.bl) /\ Q (.bl (bs.all id)) H
 | _ => False
theorem e_all {p : Pos} (hm : X.mg "all" = none) (ha : PE X a ta) (hc : X.calm = true := by rfl) (hg : Gl X "all" := by rfl) (hs : starEach [a] X.env = [(false, eval a X.env)] := by rfl) : PE X (.Call (.Name "all" p) [a] [] pos) (tCB (c1 (cAll X.K)) (tCons ta tNil)) :=
 pe_callB (nG (cr_all hc) fun xs H Q h => by
  match xs, h with
  | [x], h =>
   cases x with
   | ref p =>
    obtain ⟨bs, h1, q⟩ := h;exact ⟨p, bs, rfl, h1, q⟩
   | _ => exact h.elim) hg hm boot_all (pa_cons ha pa_nil hs) (he := hs)
def Kk (K : aA) : V -> Hp -> VK -> Prop := fun x H Q => match x with
 | .ref p => ∃ ys, SqL K H p ys /\ ∀ l, H l = none -> Q (.ref l) (upd H l (.tup ys))
 | _ => False
theorem NC {p : Pos} (hm : X.mg "tuple" = none) (ha : PE X a ta) (hg : Gl X "tuple" := by rfl) (hs : starEach [a] X.env = [(false, eval a X.env)] := by rfl) : PE X (.Call (.Name "tuple" p) [a] [] pos) (tCB (c1 (Kk X.K)) (tCons ta tNil)) :=
 pe_callTy (nG call_tuple_of fun xs H Q h => by
  match xs, h with
  | [x], h =>
   cases x with
   | ref p =>
    obtain ⟨ys, h1, q⟩ := h;exact ⟨p, ys, rfl, .inl ⟨h1, q⟩⟩
   | _ => exact h.elim) hg hm boot_tuple (pa_cons ha pa_nil hs) (he := hs)
end
def Ok (P : Program) (w : World) (K : aA) (mg : Str -> Option Value) (base : Heap) (k : Nat) (x : Str) (ps : List Str) (sp : Sp) : Prop :=
 ∃ fd, FnOk P w K mg base CX0 k (He.ga K x) fd ps sp /\ mg x = some (.ref (He.ga K x)) /\ kH K (.ref (He.ga K x)) = true /\ Binds K fd ps [] /\ ∃ oc od osl, K.lookup (He.ga K x) = some ⟨oc, od, .func fd, osl⟩
section
variable {P : Program} {w : World} {K : aA} {mg : Str -> Option Value} {base : Heap}
abbrev uM (K : aA) (x : Str) (st : Stmt) : Prop := ∃ fd, FunD K x x (defArgs st) (defBody st) (defScope st) [] [] (He.ga K x) fd
end
section
variable {X : Cx} {o i e : Expr} {to ti te : TE} {pos tpos : Pos}
def Ga : V -> V -> Hp -> VK -> Prop := fun x y H Q => match x, y with
 | .ref p, .int i => ∃ xs v, H p = some (.lst xs) /\ 0 <= i /\ xs[i.toNat]? = some v /\ Q v H
 | _, _ => False
theorem Hh : PGet X Ga := by
 intro pins s σ H o i ov iv Q I ro ri h;cases o with
 | ref p => cases i with
  | int k =>
   obtain ⟨xs, v, hp, h0, hx, q⟩ := h;cases ro;obtain ⟨t, rfl⟩ := ri;obtain ⟨its, r, pl, hz⟩ := I.list (.inl (.inl hp));obtain ⟨w, ew, rw'⟩ := r.get hx;have hl := r.length;have hn := line63;have hlt : k.toNat < xs.length := (aH.mp hx).1;exact wpAny_getItem_list pl.isList h0 (by omega) (by simpa using ew) ⟨v, H, I, rw', q⟩
  | _ => exact h.elim
 | _ => exact h.elim
def GZ : V -> V -> V -> Hp -> (Hp -> Prop) -> Prop := fun o i v H Q => match o, i with
 | .ref p, .int k => ∃ xs, H p = some (.lst xs) /\ 0 <= k /\ k.toNat < xs.length /\ Q (upd H p (.lst (xs.set k.toNat v)))
 | _, _ => False
theorem BW : PSet X GZ := by
 intro pins s σ H o i v ov iv u Q I ro ri rv h;refine set_list pins s σ H o i v ov iv u Q I ro ri rv ?_
 cases o with
 | ref p => cases i with
  | int k =>
   obtain ⟨xs, hp, h0, hk, q⟩ := h;exact ⟨p, xs, k, k.toNat, rfl, rfl, hp, by unfold ixN; rw [if_pos h0, if_pos (by omega)], q⟩
  | _ => exact h.elim
 | _ => exact h.elim
def cIp (r : R2) : TIp := fun x y H Q => r x y H Q
theorem Cn : PIp X .Add (cIp rAddI) := fun pins s σ H x y v u Q I r1 r2 h => ip_add pins s σ H x y v u Q I r1 r2 (yR (g := fun i j => .int (i + j)) x y H Q h)
theorem OU {op : Operator} {tip : TIp} (ho : PE X o to) (hi : PE X i ti) (he : PE X e te) (hp : PIp X op tip)
  (ha : ∀ ov iv new, augStore i ov iv new = (do holding [new, ov, iv] (setItem ov iv new); release [new, ov, iv] []; pure .next) := by intros; rfl) : PS X (.AugAssign (.Subscript o i tpos) op e pos) (tAugS to ti te Ga tip GZ) :=
 ps_augS ho hi Hh he hp BW ha
end
section
variable {X : Cx} {tg e : Expr} {te : TE} {pos p : Pos}
def Nb : R2 := fun x y H Q => match y with
 | .non => Q (.bl (decide (x = .non))) H
 | _ => False
def J0 : R2 := fun x y H Q => match y with
 | .non => Q (.bl (!decide (x = .non))) H
 | _ => False
theorem CU : OpR X (compareOp .Is) Nb := fV op_isN fun x y H Q h => by
 cases y with
 | non => exact ⟨rfl, h⟩
 | _ => exact h.elim
theorem Dc : OpR X (compareOp .IsNot) J0 := fV op_notN fun x y H Q h => by
 cases y with
 | non => exact ⟨rfl, h⟩
 | _ => exact h.elim
def cPart (t : TE) : TO := fun σ H Q => t σ H fun x H1 => match x with
 | .int i => Q (some i) H1
 | _ => False
theorem J9 (h : PE X e te) : PO X (some e) (cPart te) := by
 refine ⟨fun pins s σ H Q I hw => ?_⟩
 rw [evalPart_some];refine thn (h.run pins s σ H _ I hw) fun u s1 hq => ?_
 obtain ⟨x, H1, I1, r1, q1⟩ := hq;cases x with
 | int i =>
  obtain ⟨t, rfl⟩ := r1;exact ⟨some i, H1, I1, .int i t, q1⟩
 | _ => exact q1.elim
theorem NQ {r u : V -> Option Int -> Option Int -> Hp -> VK -> Prop} (h : SlR X r) (i : ∀ x lo hi H Q, u x lo hi H Q -> r x lo hi H Q) : SlR X u := by
 intro pins s σ H x v vl vu lo hi sl Q I rx hs pl pu q;exact h pins s σ H x v vl vu lo hi sl Q I rx hs pl pu (i x lo hi H Q q)
def cSl (K : aA) : V -> Option Int -> Option Int -> Hp -> VK -> Prop := fun x lo hi H Q => match x with
 | .ref a => (∃ xs, SqL K H a xs /\ ∀ p, H p = none -> Q (.ref p) (upd H p (.lst (cutV xs lo hi)))) \/ (∃ xs, SqT K H a xs /\
  (HT.sIx xs.length 0 lo = 0 /\ HT.sIx xs.length xs.length hi = xs.length -> Q (.ref a) H) /\ (¬ (HT.sIx xs.length 0 lo = 0 /\ HT.sIx xs.length xs.length hi = xs.length) -> ∀ p, H p = none -> Q (.ref p) (upd H p (.tup (cutV xs lo hi)))))
 | .str z => z.length <= sizeLine /\ Q (.str (cutS z lo hi)) H
 | _ => False
theorem sl_C : SlR X (cSl X.K) := NQ (SlR.or sl_list (SlR.or sl_tupA sl_str)) fun x lo hi H Q h => by
 cases x with
 | ref a =>
  rcases h with ⟨xs, h1, q⟩ | ⟨xs, h1, q⟩
  ·exact .inl ⟨a, xs, rfl, h1, q⟩
  ·exact .inr (.inl ⟨a, xs, rfl, h1, q⟩)
 | str z => exact .inr (.inr ⟨z, rfl, h⟩)
 | _ => exact h.elim
def iSeq (K : aA) (tl : TE) : TI := fun σ H R => tl σ H fun x H1 => match x with
 | .ref a => ((∃ xs, SqL K H1 a xs) /\ R (Itl K a) H1) \/ ((∃ xs, SqT K H1 a xs) /\ R (Itt K a) H1)
 | _ => False
theorem OY (hl : PE X e te) : PI X tg e (iSeq X.K te) := by
 refine ⟨fun pins s σ H R I h => ?_⟩
 refine thn (hl.run pins s σ H _ I h) fun v s1 hq => ?_
 obtain ⟨x, H1, I1, r1, q1⟩ := hq;cases x with
 | ref a =>
  rcases q1 with ⟨h1, q⟩ | ⟨h1, q⟩
  ·cases r1
   obtain ⟨xs, hq⟩ := h1;obtain ⟨its, rv, p, hz⟩ := I1.list hq;refine wpAny_pyIter_list p.isList ?_
   refine ⟨s1.heap.objs.size, [s1.heap.objs.size], _, _, H1, rfl, I1.kept (t' := s1.toks) fun b o e => Heap.get?_push_of_some _ e, turn_list a _, ⟨_, Heap.get?_push_size _ rfl, rfl, rfl⟩, fun b hb => ?_, q⟩
   have e : b = s1.heap.objs.size := by simpa using hb
   subst e;exact I1.fpOk (bX _) (I1.hok.fresh (bX _))
  ·cases r1
   obtain ⟨xs, hq⟩ := h1;obtain ⟨its, rv, p, hz⟩ := I1.tuple hq;refine wpAny_pyIter_tuple (show s1.heap.IsTuple a its.toArray from p) ?_
   refine ⟨s1.heap.objs.size, [s1.heap.objs.size], _, _, H1, rfl, I1.kept (t' := s1.toks) fun b o e => Heap.get?_push_of_some _ e, turn_tuple a _, ⟨_, Heap.get?_push_size _ rfl, rfl, rfl⟩, fun b hb => ?_, q⟩
   have e : b = s1.heap.objs.size := by simpa using hb
   subst e;exact I1.fpOk (bX _) (I1.hok.fresh (bX _))
 | _ => exact q1.elim
def Gb : V -> List V -> Hp -> VK -> Prop := fun x vs H Q => match x, vs with
 | .ref l, [y] => ∃ xs, H l = some (.lst xs) /\ xs.length < sizeLine /\ Q .non (upd H l (.lst (xs ++ [y])))
 | _, _ => False
theorem F4 : MtR X "list.append" Gb := fun pins s σ H x xs v us Q I rx r h => mt_append pins s σ H x xs v us Q I rx r (by
 match x, xs, h with
 | .ref l, [y], ⟨xs, h1, h2, q⟩ => exact ⟨l, xs, y, rfl, rfl, h1, h2, q⟩)
def cPop : V -> List V -> Hp -> VK -> Prop := fun x vs H Q => match x, vs with
 | .ref l, [] => ∃ xs y, H l = some (.lst xs) /\ xs[xs.length - 1]? = some y /\ Q y (upd H l (.lst xs.dropLast))
 | _, _ => False
theorem Lv : MtR X "list.pop" cPop := fun pins s σ H x xs v us Q I rx r h => mt_pop pins s σ H x xs v us Q I rx r (by
 match x, xs, h with
 | .ref l, [], ⟨xs, y, h1, h2, q⟩ => exact ⟨l, xs, y, rfl, rfl, h1, h2, q⟩)
theorem Q9 {x : Str} {i : Int} (h : ∃ t, X.mg x = some (.int i t)) (hg : Gl X x := by rfl) (hd : (x == ("__debug__" : Str)) = false := by decide) : PE X (.Name x pos) (tC (.int i)) := by
 obtain ⟨t, h⟩ := h;exact pe_glob hg h ⟨t, rfl⟩ hd
def OF (K : aA) (d : Addr) (neg : Bool) : R2 := fun x y H Q => match x, y with
 | .str z, .ref a => a = d /\ ∃ r, iQ K d z = some r /\ Q (.bl (if neg then !r.isSome else r.isSome)) H
 | _, _ => False
theorem CT {d : Addr} (D : ∃ es n, KDict X.K X.w d es n) : OpR X (compareOp .NotIn) (OF X.K d true) := by
 obtain ⟨es, n, D⟩ := D;refine fV (op_notIn_kd D) fun x y H Q h => ?_
 match x, y, h with
 | .str z, .ref a, ⟨e, r, h1, q⟩ => exact ⟨z, r, rfl, by rw [e], h1, q⟩
def cIxKd (K : aA) (d : Addr) : R2 := fun x y H Q => match x, y with
 | .ref a, .str z => a = d /\ ∃ u v, iQ K d z = some (some u) /\ RelV v u /\ Q v H
 | _, _ => False
theorem P4 {d : Addr} (D : ∃ es n, KDict X.K X.w d es n) : IxR X (cIxKd X.K d) := by
 obtain ⟨es, n, D⟩ := D;refine Gf ix_kdict fun x y H Q h => ?_
 match x, y, h with
 | .ref a, .str z, ⟨e, u, v, h1, h2, q⟩ => exact ⟨d, z, v, by rw [e], rfl, ⟨es, n, u, D.at_, D.lit, h1, h2⟩, q⟩
end
structure XcF (K : aA) (mg : Str -> Option Value) (x : Str) : Prop where
 exc : PySem.W.excIn K (He.ga K x) veL "ValueError.__new__" = true
 glo : mg x = some (.ref (He.ga K x))
 kp : kH K (.ref (He.ga K x)) = true
 sub : CB K (.ref (He.ga K x)) (.type "BaseException") = some true
 ty : kI K (.ref (He.ga K x)) = some (.type "type")
theorem AD {K : aA} {mg : Str -> Option Value} {x : Str} (h : xcB K x = true) (g : mg x = some (.ref (He.ga K x))) : XcF K mg x := by
 obtain ⟨h1, h2⟩ := He.ba h;obtain ⟨h3, h4⟩ := He.ba h2;obtain ⟨h5, h6⟩ := He.ba h4;exact ⟨h1, g, h3, of_decide_eq_true h5, of_decide_eq_true h6⟩
section
variable {X : Cx} {x : Str} {p pos pos' : Pos} {W : WX} {e : Expr} {es : List Expr} {t : TA} {ps : List Str} {sp : Sp} {k j : Nat} {E : XK}
def OO (cls : Value) (W : WX) : TS := fun _ σ H => W cls none σ H
theorem JC (F : XcF X.K X.mg x) (hg : Gl X x) (hdb : (x == ("__debug__" : Str)) = false) : PMk X (.Call (.Name x p) [] [] pos) (fun _ H Q => Q (.ref (He.ga X.K x)) none H) := by
 intro pins s σ H Q I q;refine wpAny_Call_Name_kw (ld_glob I hg F.glo ?_ hdb)
 refine Fo I.kIn F.kp ?_
 show wpAny _ _ (call (.ref (He.ga X.K x)) []) _ _ _
 obtain ⟨_, _, _, _, _, _, _, _, _, _, _, _, _, _, _, _, _, c1, c2, c3, T⟩ := exc_obj I.kIn F.exc;exact wpAny_call_exc_subT PySem.F.excBase_ValueError T c1 c2 c3 (fun _ _ m => mk_of I m (raises_own F.sub F.ty) q (I.hok.gone m.new)) (vL _)
theorem Ll (F : XcF X.K X.mg x) (tk : Takes X W) (hc : X.calm = true := by rfl) (hg : Gl X x := by rfl) (hdb : (x == ("__debug__" : Str)) = false := by decide) : PS X (.Raise (some (.Call (.Name x p) [] [] pos)) none pos') (OO (.ref (He.ga X.K x)) W) :=
 ps_raise hc tk (JC F hg hdb)
end
def uL (P : Program) (w : World) (K : aA) (mg : Str -> Option Value) (base : Heap) (k : Nat) (x : Str) (ps : List Str) (sp : Sp) : Prop :=
 ∃ fd, FnOk P w K mg base (L2.CX P w) k (He.ga K x) fd ps sp /\ mg x = some (.ref (He.ga K x)) /\ kH K (.ref (He.ga K x)) = true /\ Binds K fd ps []
section
variable {P : Program} {w : World} {K : aA} {mg : Str -> Option Value} {base : Heap}
theorem JH {x : Str} {st : Stmt} {N ps : List Str} {k : Nat} {sp : Sp} (F : uM K x st) (g : mg x = some (.ref (He.ga K x))) (S : FnScope N ps (defScope st)) (len : ∀ vs H Q E, sp vs H Q E -> vs.length = ps.length)
  (bnd : ∀ (kV doc pm : Value) (an : Option Addr) (cdv ct : Value) (us : List Value), us.length = ps.length -> bindArgs (cD x x (defArgs st) (defBody st) (defScope st) .none kV doc pm an cdv ct) ⟨us, []⟩ = pure (ps.zip us))
  (hbody : ∀ (cdv : Value) (A : Around) (outer : List Env) (s : Shared) (H : Hp) (vs : List V) (Q : VK) (E : XK), Room k (A.deeper (envOfC x (defScope st) s.heap.objs.size (He.ga K x) cdv)) -> sp vs H Q E ->
   ∃ t, PSs (cxOf (L2.CX P w) P w K mg base N x (defScope st) (He.ga K x) cdv A outer s H E) (defBody st) t /\ t { nx := fun _ H' => Q .non H', rt := Q } (start N vs) H) : uL P w K mg base (k + 1) x ps sp := by
 obtain ⟨fd, F⟩ := F;refine ⟨fd, ?_, g, F.kp, F.bindsN bnd⟩
 obtain ⟨oc, od, dV, kV, doc, pm, an, cdv, ct, osl, e, lk, hc⟩ := F.ex;subst e;exact fn_of lk hc.1 S len fun A outer s H vs Q E hr hsp => hbody cdv A outer s H vs Q E hr hsp
end
def LH : WX := fun _ _ _ _ => False
def OE (K : aA) (T U : String) : V -> Hp -> (Bool -> Prop) -> Prop := fun x H Q => match x with
 | .non => Q false
 | .bl _ => Q (isTy T "bool" || isTy U "bool")
 | .int _ => Q (isTy T "int" || isTy U "int")
 | .str _ => Q (isTy T "str" || isTy U "str")
 | .ref a => ∃ n, B4 K H a n /\ Q (isTy T n || isTy U n)
 | _ => False
def Km (K : aA) (T U : String) : List V -> Hp -> VK -> Prop := fun xs H Q => match xs with
 | [x, .ref tp] => H tp = some (.tup [.ty T, .ty U]) /\ OE K T U x H fun b => Q (.bl b) H
 | _ => False
def cIsE2 (K : aA) (T U : String) (ta : TE) : TE := tCB (Km K T U) (tCons ta (tCons (tTup (tCons (tC (.ty T)) (tCons (tC (.ty U)) tNil))) tNil))
section
variable {X : Cx} {a : Expr} {ta : TE} {pos p : Pos}
theorem M8 {K : aA} {n T U : String} (hn : n ∈ kinds) (hT : T ∈ targets) (hU : U ∈ targets) : PySem.W.kitAny K (.type n) [.type T, .type U] = some (isTy T n || isTy U n) := by
 have h1 := F8 (K := K) hn hT;have h2 := F8 (K := K) hn hU;cases e1 : isTy T n with
 | true =>
  rw [e1] at h1;exact kitAny_cons h1 (fun z => by cases z) fun _ => rfl
 | false =>
  rw [e1] at h1;refine kitAny_cons h1 (fun _ => ?_) (fun z => by cases z)
  cases e2 : isTy U n with
  | true =>
   rw [e2] at h2;exact kitAny_cons h2 (fun z => by cases z) fun _ => rfl
  | false =>
   rw [e2] at h2;exact kitAny_cons h2 (fun _ => rfl) (fun z => by cases z)
theorem I8 {T U : String} (hT : T ∈ targets) (hU : U ∈ targets) : CallR X (.builtin "isinstance") (Km X.K T U) := nG call_isiT fun xs H Q h => by
 match xs, h with
 | [x, .ref tp], ⟨ht, h⟩ =>
  have go : ∀ (k : String) (b : Bool), k ∈ kinds -> TyX X.K H x (.type k) -> b = (isTy T k || isTy U k) -> Q (.bl b) H -> rIsiT X.K [x, .ref tp] H Q := fun k b hk ty e q => ⟨x, tp, _, .type k, [.type T, .type U], _, rfl, ht, .cons (.ty T) (.cons (.ty U) .nil), ty, M8 hk hT hU, by rw [<- e]; exact q⟩
  cases x with
  | non =>
   refine go "NoneType" false (by decide) (.base .non) ?_ h
   have : ∀ T ∈ targets, isTy T "NoneType" = false := by decide
   rw [this T hT, this U hU];rfl
  | bl b => exact go "bool" _ (by decide) (.base (.bl b)) rfl h
  | int b => exact go "int" _ (by decide) (.base (.int b)) rfl h
  | str b => exact go "str" _ (by decide) (.base (.str b)) rfl h
  | ref a =>
   obtain ⟨k, ⟨hk, ty⟩, q⟩ := h;have h3 : k = "list" \/ k = "tuple" \/ k = "dict" := by simpa using hk
   exact go k _ (by rcases h3 with e | e | e <;> subst e <;> decide) ty rfl q
  | _ => exact h.elim
theorem Q8 {q1 q2 tpos : Pos} {j : Nat} {T U : String} {y z : Str} (hm : X.mg "isinstance" = none) (hmT : X.mg y = none) (hmU : X.mg z = none) (ha : PE X a ta) (hT : T ∈ targets := by decide) (hU : U ∈ targets := by decide)
  (hv : bootBuiltins y = some (.type T) := by decide +kernel) (hw : bootBuiltins z = some (.type U) := by decide +kernel) (hg : Gl X "isinstance" := by rfl) (hgT : Gl X y := by rfl) (hgU : Gl X z := by rfl) (hn : y ≠ "__name__" := by decide) (hd : (y == ("__debug__" : Str)) = false := by decide) (hn2 : z ≠ "__name__" := by decide) (hd2 : (z == ("__debug__" : Str)) = false := by decide)
  (hs : starEach [a, .Tuple [.Name y q1, .Name z q2] j tpos] X.env = (false, eval a X.env) :: starEach [.Tuple [.Name y q1, .Name z q2] j tpos] X.env := by rfl) :
  PE X (.Call (.Name "isinstance" p) [a, .Tuple [.Name y q1, .Name z q2] j tpos] [] pos) (cIsE2 X.K T U ta) :=
 pe_callB (I8 hT hU) hg hm boot_isinstance (pa_cons ha (pa_cons (pe_tup (pa_cons (pe_bltn (v := .ty T) hgT hmT hv rfl hn hd) (pa_cons (pe_bltn (v := .ty U) hgU hmU hw rfl hn2 hd2) pa_nil))) pa_nil) hs) (he := hs)
end
structure OkMX (P : Program) (w : World) (K : aA) (mg : Str -> Option Value) (base : Heap) (k : Nat) (C m : Str) (ps : List Str) (sp : Sp) : Prop where
 ex : ∃ fd, FnOk P w K mg base (L2.CX P w) k (He.ma K (He.ga K C) m) fd ps sp /\ Binds K fd ps []
 mt : Meth K (He.ga K C) m (He.ma K (He.ga K C) m)
section
variable {X : Cx} {o e : Expr} {es : List Expr} {t : TA} {ta : TE} {apos pos p : Pos} {C m x : Str} {ps : List Str} {sp : Sp} {k j : Nat} {E : XK} {W : WX}
def cMeth (C : Addr) (m : Str) (sp : Sp) (E : XK) (ta : TE) (t : TA) : TE := fun σ H Q => ta σ H fun x H1 => match x with
 | .ref a => ∃ dx fs, H1 a = some (.ins C dx fs) /\ fs.lookup m = none /\ t σ H1 fun vs H2 => sp (.ref a :: vs) H2 Q E
 | _ => False
def cFld (C : Addr) (f : Str) (ta : TE) : TE := fun σ H Q => ta σ H fun x H1 => match x with
 | .ref a => ∃ dx fs v, H1 a = some (.ins C dx fs) /\ fs.lookup f = some v /\ Q v H1
 | _ => False
theorem Kd {C : Addr} {f : Str} (c : Cls X.K C) (n : NoAttr X.K C f) (he : PE X e ta) (hb : attributeBase e f X.env (eval e X.env) = eval e X.env := by rfl) : PE X (.Attribute e f pos) (cFld C f ta) := by
 refine ⟨fun pins s σ H Q I h => ?_⟩
 refine attr_of hb (thn (he.run pins s σ H _ I h) fun u s1 hh => ?_)
 obtain ⟨x, H1, I1, rx, hq⟩ := hh;cases x with
 | ref a =>
  obtain ⟨dx, fs, v, ea, l, q⟩ := hq;obtain rfl : u = Value.ref a := rx;exact getattr_ok I1 ea c n l fun _ _ I2 ru => ⟨v, H1, I2, ru, q⟩
 | _ => exact hq.elim
def xD (C : Addr) (f : Str) (ta tv : TE) : TS := fun D σ H => tv σ H fun y H1 => ta σ H1 fun x H2 => match x with
 | .ref a => ∃ dx fs, H2 a = some (.ins C dx fs) /\ fs.length < 1000 /\ D.nx σ (upd H2 a (.ins C dx (putF f y fs)))
 | _ => False
theorem Eo {C : Addr} {f : Str} {value : Expr} {tv : TE} {pos' : Pos} (c : Cls X.K C) (n : NoAttr X.K C f) (ha : PE X o ta) (hv : PE X value tv) (hs : swapsWith value (some (.Attribute o f pos')) pos.line X.env = pure false := by rfl) : PS X (.Assign [.Attribute o f pos'] value pos) (xD C f ta tv) := by
 refine ⟨fun pins s σ H D I h => ?_⟩
 refine plainObj_wpAny_Assign_Attribute (thn (hv.run pins s σ H _ I h) fun u s1 hh => ?_) hs
 obtain ⟨y, H1, I1, ry, q⟩ := hh;refine thn (ha.run pins s1 σ H1 _ I1 q) fun ov s2 hh => ?_
 obtain ⟨x, H2, I2, rx, hq⟩ := hh;cases x with
 | ref a =>
  obtain ⟨dx, fs, ea, l, q2⟩ := hq;obtain rfl : ov = Value.ref a := rx;exact setattr_ok I2 ea c n l ry fun _ I3 => ⟨σ, _, I3, q2⟩
 | _ => exact hq.elim
structure ClF (K : aA) (mg : Str -> Option Value) (C : Str) : Prop where
 cls : Cls K (He.ga K C)
 mak : Mk K (He.ga K C) (He.ma K (He.ga K C) "__init__")
 glo : mg C = some (.ref (He.ga K C))
def rLenO (C : Addr) (sp : Sp) (E : XK) : V -> Hp -> VK -> Prop := fun x H Q => match x with
 | .ref a => ∃ dx fs, H a = some (.ins C dx fs) /\ sp [.ref a] H (fun v H' => match v with | .int n => (0 <= n /\ n < 2 ^ 62) /\ Q (.int n) H' | _ => False) E
 | _ => False
end
abbrev B5 (K : aA) (C m q : Str) (st : Stmt) : Prop := ∃ fd, FunD K m q (defArgs st) (defBody st) (defScope st) [] [] (He.ma K (He.ga K C) m) fd
section
variable {P : Program} {w : World} {K : aA} {mg : Str -> Option Value} {base : Heap}
theorem Lq {C m q : Str} {st : Stmt} {N ps : List Str} {k : Nat} {sp : Sp} (F : B5 K C m q st) (g : Meth K (He.ga K C) m (He.ma K (He.ga K C) m)) (S : FnScope N ps (defScope st)) (len : ∀ vs H Q E, sp vs H Q E -> vs.length = ps.length)
  (bnd : ∀ (kV doc pm : Value) (an : Option Addr) (cdv ct : Value) (us : List Value), us.length = ps.length -> bindArgs (cD m q (defArgs st) (defBody st) (defScope st) .none kV doc pm an cdv ct) ⟨us, []⟩ = pure (ps.zip us))
  (hbody : ∀ (cdv : Value) (A : Around) (outer : List Env) (s : Shared) (H : Hp) (vs : List V) (Q : VK) (E : XK), Room k (A.deeper (envOfC q (defScope st) s.heap.objs.size (He.ma K (He.ga K C) m) cdv)) -> sp vs H Q E ->
   ∃ t, PSs (cxOf (L2.CX P w) P w K mg base N q (defScope st) (He.ma K (He.ga K C) m) cdv A outer s H E) (defBody st) t /\ t { nx := fun _ H' => Q .non H', rt := Q } (start N vs) H) : OkMX P w K mg base (k + 1) C m ps sp := by
 obtain ⟨fd, F⟩ := F;exact ⟨⟨fd, FunD.ok F S len fun cdv A outer s H vs Q E hr hsp => hbody cdv A outer s H vs Q E hr hsp, F.bindsN bnd⟩, g⟩
end
inductive D where
 | non | bl (b : Bool) | int (i : Int) | str (x : Str) | lst (xs : List D) | tup (xs : List D) | ins (C : Str) (ns : List Str) (xs : List D) | dct | opq (k : Option (Int × Int))
inductive TIt where
 | inl (d : D) | inr (n : Nat) | tup (xs : List TIt)
inductive Vl where
 | dat (d : D) | cel (n : Nat) | cels (ns : List Nat) | scr (ns : List Int) | tc (xs : List TIt)
inductive Cell where
 | dead | lst (xs : List D) | ins (C : Str) (fs : List (Str × Vl)) | dct (fs : List (Str × Vl)) | lv (xs : List Vl) | dki (ks : List Int) (xs : List Vl) | dkt (ks : List (Int × Int)) (xs : List Vl) | tbl (d q : Str)
abbrev aJ := List Cell
abbrev Ev := List (Option Vl)
structure Er where
 cls : Str
 ns : List Str := []
 xs : List D := []
inductive Res (α : Type) where
 | ok (a : α) (S : aJ) | err (e : Er) (S : aJ) | stuck
def Res.bind {α β : Type} (r : Res α) (k : α -> aJ -> Res β) : Res β := match r with
 | .ok a S => k a S
 | .err e S => .err e S
 | .stuck => .stuck
def iV (φ : List Addr) (S : aJ) (a : Addr) : Prop := ∃ (n : Nat) (c : Cell), S[n]? = some c /\ c ≠ .dead /\ φ[n]? = some a
def lI (B : Addr -> Prop) (φ : List Addr) (S : aJ) (a : Addr) : Prop := B a \/ iV φ S a
mutual
/-- the tree d is at v -/
def Rep (K : aA) (Bk : Addr -> Prop) (H : Hp) : D -> V -> Prop
 | .non, v => v = .non
 | .bl b, v => v = .bl b
 | .int i, v => v = .int i
 | .str x, v => v = .str x
 | .lst ds, v => ∃ a vs, v = .ref a /\ ¬ Bk a /\ H a = some (.lst vs) /\ RepL K Bk H ds vs
 | .tup ds, v => ∃ a vs, v = .ref a /\ SqT K H a vs /\ RepL K Bk H ds vs
 | .ins C ns ds, v => ∃ a dx vs, v = .ref a /\ ¬ Bk a /\ H a = some (.ins (He.ga K C) dx (ns.zip vs)) /\ RepL K Bk H ds vs
 | .dct, v => ∃ a, v = .ref a /\ ¬ Bk a /\ H a = some (.dK [])
 | .opq none, v => ∃ a, v = .ref a
 | .opq (some k), v => ∃ a, v = .ref a /\ ¬ Bk a /\ H a = some (.tup [.int k.1, .int k.2])
def RepL (K : aA) (Bk : Addr -> Prop) (H : Hp) : List D -> List V -> Prop
 | [], vs => vs = []
 | d :: ds, vs => ∃ v ws, vs = v :: ws /\ Rep K Bk H d v /\ RepL K Bk H ds ws
end
structure Kp (Bk : Addr -> Prop) (H : Hp) (Bk' : Addr -> Prop) (H' : Hp) : Prop where
 old : ∀ b o, H b = some o -> ¬ Bk b -> H' b = some o /\ ¬ Bk' b
 tup : ∀ b u, Rd H b (.tup u) -> Rd H' b (.tup u)
theorem SqT.kp {K : aA} {H H' : Hp} {a : Addr} {vs : List V} (t : ∀ b u, Rd H b (.tup u) -> Rd H' b (.tup u)) (h : SqT K H a vs) : SqT K H' a vs := by
 rcases h with h | h
 ·exact .inl (t _ _ h)
 ·exact .inr h
mutual
theorem Rep.kp {K : aA} {Bk Bk' : Addr -> Prop} {H H' : Hp} (k' : Kp Bk H Bk' H') : ∀ (d : D) (v : V), Rep K Bk H d v -> Rep K Bk' H' d v
 | .non, v, h => h
 | .bl b, v, h => h
 | .int i, v, h => h
 | .str x, v, h => h
 | .lst ds, v, ⟨a, vs, e, nb, h, r⟩ => ⟨a, vs, e, (k'.old _ _ h nb).2, (k'.old _ _ h nb).1, RepL.kp k' ds vs r⟩
 | .tup ds, v, ⟨a, vs, e, h, r⟩ => ⟨a, vs, e, SqT.kp k'.tup h, RepL.kp k' ds vs r⟩
 | .ins C ns ds, v, ⟨a, dx, vs, e, nb, h, r⟩ => ⟨a, dx, vs, e, (k'.old _ _ h nb).2, (k'.old _ _ h nb).1, RepL.kp k' ds vs r⟩
 | .dct, v, ⟨a, e, nb, h⟩ => ⟨a, e, (k'.old _ _ h nb).2, (k'.old _ _ h nb).1⟩
 | .opq none, v, h => h
 | .opq (some k), v, ⟨a, e, nb, h⟩ => ⟨a, e, (k'.old _ _ h nb).2, (k'.old _ _ h nb).1⟩
theorem RepL.kp {K : aA} {Bk Bk' : Addr -> Prop} {H H' : Hp} (k : Kp Bk H Bk' H') : ∀ (ds : List D) (vs : List V), RepL K Bk H ds vs -> RepL K Bk' H' ds vs
 | [], vs, h => h
 | d :: ds, vs, ⟨v, ws, e, h1, h2⟩ => ⟨v, ws, e, Rep.kp k d v h1, RepL.kp k ds ws h2⟩
end
def ScrAt (K : aA) (H : Hp) (a : Addr) (vs : List V) : Prop := (∃ o, H a = some (.frz o (.lst vs))) \/ SqL K (fun _ => none) a vs
theorem ScrAt.sq {K : aA} {H : Hp} {a : Addr} {vs : List V} (h : ScrAt K H a vs) : SqL K H a vs := by
 rcases h with ⟨o, h⟩ | (h | ⟨o, h⟩) | h
 ·exact .inl (.inr ⟨o, h⟩)
 ·cases h
 ·cases h
 ·exact .inr h
theorem ScrAt.keep {K : aA} {H H' : Hp} {a : Addr} {vs : List V} (h : ScrAt K H a vs) (k : ∀ o u, H a = some (.frz o u) -> H' a = some (.frz o u)) : ScrAt K H' a vs := by
 rcases h with ⟨o, h⟩ | h
 ·exact .inl ⟨o, k _ _ h⟩
 ·exact .inr h
mutual
/-- an item of a tuple that holds cells -/
def RepI (K : aA) (Bk : Addr -> Prop) (φ : List Addr) (H : Hp) : TIt -> V -> Prop
 | .inl d, v => Rep K Bk H d v
 | .inr n, v => ∃ a, v = .ref a /\ φ[n]? = some a
 | .tup xs, v => ∃ a vs, v = .ref a /\ SqT K H a vs /\ RepIs K Bk φ H xs vs
def RepIs (K : aA) (Bk : Addr -> Prop) (φ : List Addr) (H : Hp) : List TIt -> List V -> Prop
 | [], vs => vs = []
 | x :: xs, vs => ∃ v ws, vs = v :: ws /\ RepI K Bk φ H x v /\ RepIs K Bk φ H xs ws
end
mutual
theorem RepI.kp {K : aA} {Bk Bk' : Addr -> Prop} {φ φ' : List Addr} {H H' : Hp} (k : Kp Bk H Bk' H') (hφ : ∀ (n : Nat) (a : Addr), φ[n]? = some a -> φ'[n]? = some a) : ∀ {x : TIt} {v : V}, RepI K Bk φ H x v -> RepI K Bk' φ' H' x v
 | .inl d, v, h => Rep.kp k d v h
 | .inr n, v, ⟨a, h1, h2⟩ => ⟨a, h1, hφ _ _ h2⟩
 | .tup xs, v, ⟨a, vs, h1, h2, h3⟩ => ⟨a, vs, h1, SqT.kp k.tup h2, RepIs.kp k hφ h3⟩
theorem RepIs.kp {K : aA} {Bk Bk' : Addr -> Prop} {φ φ' : List Addr} {H H' : Hp} (k : Kp Bk H Bk' H') (hφ : ∀ (n : Nat) (a : Addr), φ[n]? = some a -> φ'[n]? = some a) : ∀ {xs : List TIt} {vs : List V}, RepIs K Bk φ H xs vs -> RepIs K Bk' φ' H' xs vs
 | [], vs, h => h
 | x :: xs, vs, ⟨v, ws, e, h1, h2⟩ => ⟨v, ws, e, RepI.kp k hφ h1, RepIs.kp k hφ h2⟩
end
def RepV (K : aA) (B : Addr -> Prop) (φ : List Addr) (S : aJ) (H : Hp) : Vl -> V -> Prop
 | .dat d, v => Rep K (lI B φ S) H d v
 | .cel n, v => ∃ a, v = .ref a /\ φ[n]? = some a
 | .cels ns, v => ∃ (a : Addr) (as : List Addr), v = .ref a /\ ¬ lI B φ S a /\ H a = some (.lst (as.map V.ref)) /\ ns.map (fun n => φ[n]?) = as.map some
 | .scr ns, v => ∃ a, v = .ref a /\ ScrAt K H a (ns.map V.int)
 | .tc xs, v => ∃ a vs, v = .ref a /\ SqT K H a vs /\ RepIs K (lI B φ S) φ H xs vs
def RepVs (K : aA) (B : Addr -> Prop) (φ : List Addr) (S : aJ) (H : Hp) : List Vl -> List V -> Prop
 | [], vs => vs = []
 | d :: ds, vs => ∃ v ws, vs = v :: ws /\ RepV K B φ S H d v /\ RepVs K B φ S H ds ws
def RepF (K : aA) (B : Addr -> Prop) (φ : List Addr) (S : aJ) (H : Hp) : List (Str × Vl) -> List (Str × V) -> Prop
 | [], vs => vs = []
 | d :: ds, vs => ∃ v ws, vs = (d.1, v) :: ws /\ RepV K B φ S H d.2 v /\ RepF K B φ S H ds ws
def kvOf (fs : List (Str × V)) : List (Key × V) := fs.map fun p => (Sum.inr p.1, p.2)
def kvI (ks : List Int) (vs : List V) : List (Key × V) := (ks.map Sum.inl).zip vs
def kvT (ks : List (Int × Int)) (vs : List V) : List (List Key × V) := (ks.map fun p => [Sum.inl p.1, Sum.inl p.2]).zip vs
def B7 (K : aA) (B : Addr -> Prop) (φ : List Addr) (S : aJ) (H : Hp) : Cell -> Addr -> Prop
 | .dead, _ => True
 | .lst ds, a => ∃ vs, H a = some (.lst vs) /\ RepL K (lI B φ S) H ds vs
 | .ins C fs, a => ∃ dx vfs, H a = some (.ins (He.ga K C) dx vfs) /\ RepF K B φ S H fs vfs
 | .dct fs, a => ∃ vfs, H a = some (.dK (kvOf vfs)) /\ RepF K B φ S H fs vfs
 | .lv xs, a => ∃ vs, H a = some (.lst vs) /\ RepVs K B φ S H xs vs
 | .dki ks xs, a => ∃ vs, H a = some (.dK (kvI ks vs)) /\ RepVs K B φ S H xs vs
 | .dkt ks xs, a => ∃ vs, H a = some (.dT (kvT ks vs)) /\ RepVs K B φ S H xs vs
 | .tbl d q, a => a = (He.cT K (d, none)).2 /\ LamX.TabS H a q
structure GInv (K : aA) (B : Addr -> Prop) (φ : List Addr) (S : aJ) (H : Hp) : Prop where
 len : φ.length = S.length
 ok : ∀ (n : Nat) (c : Cell) (a : Addr), S[n]? = some c -> φ[n]? = some a -> B7 K B φ S H c a
 inj : ∀ (n m : Nat) (c c' : Cell) (a : Addr), S[n]? = some c -> c ≠ .dead -> S[m]? = some c' -> c' ≠ .dead -> φ[n]? = some a -> φ[m]? = some a -> n = m
 blk : ∀ a, iV φ S a -> ¬ B a
 btr : ∀ a, B a -> ∃ o, H a = some o
structure Ext (φ : List Addr) (S : aJ) (H : Hp) (φ' : List Addr) (S' : aJ) (H' : Hp) : Prop where
 old : ∀ b o, H b = some o -> ¬ iV φ S b -> H' b = some o /\ ¬ iV φ' S' b
 ids : ∀ (n : Nat) (a : Addr), φ[n]? = some a -> φ'[n]? = some a
section
variable {K : aA} {B : Addr -> Prop} {φ φ' φ₂ : List Addr} {S S' S₂ : aJ} {H H' H₂ : Hp}
theorem Ext.refl : Ext φ S H φ S H := ⟨fun _ _ h n => ⟨h, n⟩, fun _ _ h => h⟩
theorem Ext.trans (a : Ext φ S H φ' S' H') (b : Ext φ' S' H' φ₂ S₂ H₂) : Ext φ S H φ₂ S₂ H₂ :=
 ⟨fun c o h n => b.old c o (a.old c o h n).1 (a.old c o h n).2, fun n x h => b.ids n x (a.ids n x h)⟩
theorem GInv.at_ (I : GInv K B φ S H) {a : Addr} (h : iV φ S a) : (∃ vs, H a = some (.lst vs)) \/ (∃ C dx fs, H a = some (.ins C dx fs)) \/ (∃ kvs, H a = some (.dK kvs)) \/ (∃ kvs, H a = some (.dT kvs)) \/ ∃ ps, H a = some (.tbl ps) := by
 obtain ⟨n, c, h1, h2, h3⟩ := h;have q := I.ok n c a h1 h3;cases c with
 | dead => exact absurd rfl h2
 | lst ds => obtain ⟨vs, e, _⟩ := q; exact .inl ⟨vs, e⟩
 | ins C fs => obtain ⟨dx, vs, e, _⟩ := q; exact .inr (.inl ⟨_, dx, vs, e⟩)
 | dct fs => obtain ⟨vs, e, _⟩ := q; exact .inr (.inr (.inl ⟨_, e⟩))
 | lv xs => obtain ⟨vs, e, _⟩ := q; exact .inl ⟨vs, e⟩
 | dki ks xs => obtain ⟨vs, e, _⟩ := q; exact .inr (.inr (.inl ⟨_, e⟩))
 | dkt ks xs => obtain ⟨vs, e, _⟩ := q; exact .inr (.inr (.inr (.inl ⟨_, e⟩)))
 | tbl d q0 => obtain ⟨_, ps, e, _⟩ := q; exact .inr (.inr (.inr (.inr ⟨ps, e⟩)))
theorem GInv.some_ (I : GInv K B φ S H) {a : Addr} (h : iV φ S a) : H a ≠ none := by
 rcases I.at_ h with ⟨_, e⟩ | ⟨_, _, _, e⟩ | ⟨_, e⟩ | ⟨_, e⟩ | ⟨_, e⟩ <;> rw [e] <;> simp
theorem GInv.fresh (I : GInv K B φ S H) {a : Addr} (h : H a = none) : ¬ iV φ S a := fun q => I.some_ q h
theorem GInv.nblk (I : GInv K B φ S H) {a : Addr} (h : H a = none) : ¬ lI B φ S a := fun q => by
 rcases q with q | q
 ·obtain ⟨u, e⟩ := I.btr a q; rw [h] at e; cases e
 ·exact I.fresh h q
theorem GInv.ntup (I : GInv K B φ S H) {a : Addr} {xs : List V} (h : H a = some (.tup xs)) : ¬ iV φ S a := fun q => by
 rcases I.at_ q with ⟨_, e⟩ | ⟨_, _, _, e⟩ | ⟨_, e⟩ | ⟨_, e⟩ | ⟨_, e⟩ <;> rw [h] at e <;> cases e
theorem GInv.nfrz (I : GInv K B φ S H) {a : Addr} {o : Obj} {u : HO} (h : H a = some (.frz o u)) : ¬ iV φ S a := fun q => by
 rcases I.at_ q with ⟨_, e⟩ | ⟨_, _, _, e⟩ | ⟨_, e⟩ | ⟨_, e⟩ | ⟨_, e⟩ <;> rw [h] at e <;> cases e
theorem GInv.nxd (I : GInv K B φ S H) {a : Addr} {fs : List (Str × V)} (h : H a = some (.xd fs)) : ¬ iV φ S a := fun q => by
 rcases I.at_ q with ⟨_, e⟩ | ⟨_, _, _, e⟩ | ⟨_, e⟩ | ⟨_, e⟩ | ⟨_, e⟩ <;> rw [h] at e <;> cases e
theorem GInv.next (I : GInv K B φ S H) {a : Addr} {p : Heap -> Prop} (h : H a = some (.ext p)) : ¬ iV φ S a := fun q => by
 rcases I.at_ q with ⟨_, e⟩ | ⟨_, _, _, e⟩ | ⟨_, e⟩ | ⟨_, e⟩ | ⟨_, e⟩ <;> rw [h] at e <;> cases e
theorem tab_keep {H H' : Hp} {a : Addr} {q : Str} (h : ∀ c o, H c = some o -> (∃ ps, o = .tbl ps) \/ (∃ p, o = .ext p) -> H' c = some o) (t : LamX.TabS H a q) : LamX.TabS H' a q := by
 obtain ⟨ps, h1, h2, h3⟩ := t;refine ⟨ps, h _ _ h1 (.inl ⟨_, rfl⟩), h2, fun pos cv hc => ?_⟩
 obtain ⟨c, e1, e2⟩ := h3 pos cv hc;exact ⟨c, e1, h _ _ e2 (.inr ⟨_, rfl⟩)⟩
theorem GInv.tab (I : GInv K B φ S H) (ex : Ext φ S H φ' S' H') {a : Addr} {q : Str} (ha : H' a = H a) (t : LamX.TabS H a q) : LamX.TabS H' a q := by
 obtain ⟨ps, h1, h2, h3⟩ := t;refine ⟨ps, by rw [ha]; exact h1, h2, fun pos cv hc => ?_⟩
 obtain ⟨c, e1, e2⟩ := h3 pos cv hc;exact ⟨c, e1, (ex.old c _ e2 (I.next e2)).1⟩
theorem Ext.kp (e : Ext φ S H φ' S' H') (I : GInv K B φ S H) : Kp (lI B φ S) H (lI B φ' S') H' where
 old := fun b o h n => by
  obtain ⟨h1, h2⟩ := e.old b o h (fun q => n (.inr q))
  exact ⟨h1, fun q => by
   rcases q with q | q
   ·exact n (.inl q)
   ·exact h2 q⟩
 tup := fun b u h => by
  rcases h with h | ⟨o, h⟩
  ·exact .inl (e.old _ _ h (I.ntup h)).1
  ·exact .inr ⟨o, (e.old _ _ h (I.nfrz h)).1⟩
theorem A8 (e : ∀ (n : Nat) (a : Addr), φ[n]? = some a -> φ'[n]? = some a) : ∀ (ns : List Nat) (as : List Addr), ns.map (fun n => φ[n]?) = as.map some -> ns.map (fun n => φ'[n]?) = as.map some
 | [], as, h => h
 | n :: ns, [], h => by simp at h
 | n :: ns, a :: as, h => by
  simp only [aQ, List.cons.injEq] at h ⊢;exact ⟨e _ _ h.1, A8 e ns as h.2⟩
theorem RepV.ext (e : Ext φ S H φ' S' H') (I : GInv K B φ S H) : ∀ {d : Vl} {v : V}, RepV K B φ S H d v -> RepV K B φ' S' H' d v
 | .dat d, v, h => Rep.kp (e.kp I) d v h
 | .cel n, v, ⟨a, h1, h2⟩ => ⟨a, h1, e.ids _ _ h2⟩
 | .cels ns, v, ⟨a, as, h1, h2, h3, h4⟩ => ⟨a, as, h1, ((e.kp I).old _ _ h3 h2).2, ((e.kp I).old _ _ h3 h2).1, A8 e.ids ns as h4⟩
 | .scr ns, v, ⟨a, h1, h2⟩ => ⟨a, h1, h2.keep fun o u h => (e.old _ _ h (I.nfrz h)).1⟩
 | .tc xs, v, ⟨a, vs, h1, h2, h3⟩ => ⟨a, vs, h1, SqT.kp (e.kp I).tup h2, h3.kp (e.kp I) e.ids⟩
theorem RepVs.ext (e : Ext φ S H φ' S' H') (I : GInv K B φ S H) : ∀ {ds : List Vl} {vs : List V}, RepVs K B φ S H ds vs -> RepVs K B φ' S' H' ds vs
 | [], vs, h => h
 | d :: ds, vs, ⟨v, ws, e1, h1, h2⟩ => ⟨v, ws, e1, h1.ext e I, RepVs.ext e I h2⟩
theorem RepF.ext (e : Ext φ S H φ' S' H') (I : GInv K B φ S H) : ∀ {ds : List (Str × Vl)} {vs : List (Str × V)}, RepF K B φ S H ds vs -> RepF K B φ' S' H' ds vs
 | [], vs, h => h
 | d :: ds, vs, ⟨v, ws, e1, h1, h2⟩ => ⟨v, ws, e1, h1.ext e I, RepF.ext e I h2⟩
theorem Ext.repL (e : Ext φ S H φ' S' H') (I : GInv K B φ S H) {ds : List D} {vs : List V} (h : RepL K (lI B φ S) H ds vs) : RepL K (lI B φ' S') H' ds vs := RepL.kp (e.kp I) ds vs h
theorem eM {B' : Addr -> Prop} (hV : ∀ {d : Vl} {v : V}, RepV K B φ S H d v -> RepV K B' φ' S' H' d v) : ∀ {ds : List Vl} {vs : List V}, RepVs K B φ S H ds vs -> RepVs K B' φ' S' H' ds vs
 | [], vs, h => h
 | d :: ds, vs, ⟨v, ws, e1, h1, h2⟩ => ⟨v, ws, e1, hV h1, eM hV h2⟩
def RepE (K : aA) (B : Addr -> Prop) (φ : List Addr) (S : aJ) (H : Hp) (ρ : Ev) (σ : L2.St) : Prop :=
 ρ.length = σ.length /\ ∀ (i : Nat) (d : Vl), ρ[i]? = some (some d) -> ∃ v, σ[i]? = some (some v) /\ RepV K B φ S H d v
theorem RepE.ext {ρ : Ev} {σ : L2.St} (e : Ext φ S H φ' S' H') (I : GInv K B φ S H) (h : RepE K B φ S H ρ σ) : RepE K B φ' S' H' ρ σ :=
 ⟨h.1, fun i d q => by
  obtain ⟨v, h1, h2⟩ := h.2 i d q;exact ⟨v, h1, h2.ext e I⟩⟩
theorem RepE.set {ρ : Ev} {σ : L2.St} {d : Vl} {v : V} (h : RepE K B φ S H ρ σ) (r : RepV K B φ S H d v) (i : Nat) : RepE K B φ S H (ρ.set i (some d)) (σ.set i (some v)) := by
 refine ⟨by simp [h.1], fun j d' q => ?_⟩
 rw [aP] at q ⊢
 by_cases e : i = j
 ·subst e
  rw [if_pos rfl] at q ⊢
  by_cases hl : i < ρ.length
  ·rw [if_pos hl] at q
   cases q;rw [if_pos (by rw [<- h.1]; exact hl)]
   exact ⟨v, rfl, r⟩
  ·rw [if_neg hl] at q; cases q
 ·rw [if_neg e] at q ⊢
  exact h.2 j d' q
theorem RepE.forget {ρ : Ev} {σ : L2.St} (h : RepE K B φ S H ρ σ) (i : Nat) : RepE K B φ S H (ρ.set i none) σ := by
 refine ⟨by simp [h.1], fun j d' q => ?_⟩
 rw [aP] at q
 by_cases e : i = j
 ·subst e
  rw [if_pos rfl] at q
  by_cases hl : i < ρ.length
  ·rw [if_pos hl] at q; cases q
  ·rw [if_neg hl] at q; cases q
 ·rw [if_neg e] at q
  exact h.2 j d' q
theorem qF {x : Cell} {p a : Addr} (hl : φ.length = S.length) : iV (φ ++ [p]) (S ++ [x]) a ↔ iV φ S a \/ (x ≠ .dead /\ a = p) := by
 constructor
 ·rintro ⟨n, c, h1, h2, h3⟩
  by_cases hn : n < S.length
  ·rw [aK hn] at h1
   rw [aK (by omega)] at h3
   exact .inl ⟨n, c, h1, h2, h3⟩
  ·have e : n = S.length := by
    have := (aH.mp h1).1;simp at this;omega
   subst e;rw [aW (bX _)] at h1;rw [<- hl, aW (bX _)] at h3;simp at h1 h3;subst h1;exact .inr ⟨h2, h3.symm⟩
 ·rintro (⟨n, c, h1, h2, h3⟩ | ⟨h, rfl⟩)
  ·exact ⟨n, c, by rw [aK (aH.mp h1).1]; exact h1, h2, by rw [aK (aH.mp h3).1]; exact h3⟩
  ·exact ⟨S.length, x, by simp, h, by rw [<- hl]; simp⟩
theorem Ext.new {p : Addr} {o : HO} (I : GInv K B φ S H) (hp : H p = none) : Ext φ S H φ S (upd H p o) :=
 ⟨fun b u h n => ⟨by rw [upd_ne (ne_of_none h hp)]; exact h, n⟩, fun _ _ h => h⟩
theorem GInv.mono {o : Ext φ S H φ S H'} (I : GInv K B φ S H) (h : ∀ (n : Nat) (c : Cell) (a : Addr), S[n]? = some c -> c ≠ .dead -> φ[n]? = some a -> H' a = H a) : GInv K B φ S H' where
 len := I.len
 ok := fun n c a h1 h2 => by
  have q := I.ok n c a h1 h2;cases c with
  | dead => trivial
  | lst ds => obtain ⟨vs, e, r⟩ := q; exact ⟨vs, by rw [h n _ a h1 (by simp) h2]; exact e, o.repL I r⟩
  | ins C fs => obtain ⟨dx, vs, e, r⟩ := q; exact ⟨dx, vs, by rw [h n _ a h1 (by simp) h2]; exact e, r.ext o I⟩
  | dct fs => obtain ⟨vs, e, r⟩ := q; exact ⟨vs, by rw [h n _ a h1 (by simp) h2]; exact e, r.ext o I⟩
  | lv xs => obtain ⟨vs, e, r⟩ := q; exact ⟨vs, by rw [h n _ a h1 (by simp) h2]; exact e, r.ext o I⟩
  | dki ks xs => obtain ⟨vs, e, r⟩ := q; exact ⟨vs, by rw [h n _ a h1 (by simp) h2]; exact e, r.ext o I⟩
  | dkt ks xs => obtain ⟨vs, e, r⟩ := q; exact ⟨vs, by rw [h n _ a h1 (by simp) h2]; exact e, r.ext o I⟩
  | tbl d q0 => exact ⟨q.1, I.tab o (h n _ a h1 (by simp) h2) q.2⟩
 inj := I.inj
 blk := I.blk
 btr := fun a h => by
  obtain ⟨u, e⟩ := I.btr a h;exact ⟨u, (o.old a u e fun q => I.blk a q h).1⟩
theorem GInv.new {p : Addr} {o : HO} (I : GInv K B φ S H) (hp : H p = none) : GInv K B φ S (upd H p o) :=
 GInv.mono (o := Ext.new I hp) I fun n c a h1 h2 h3 => by
  rw [upd_ne];intro e;subst e;exact I.fresh hp ⟨n, c, h1, h2, h3⟩
theorem Ext.newC {p : Addr} {o : HO} {x : Cell} (I : GInv K B φ S H) (hp : H p = none) : Ext φ S H (φ ++ [p]) (S ++ [x]) (upd H p o) where
 old := fun b u h n => by
  have hb : b ≠ p := ne_of_none h hp;exact ⟨by rw [upd_ne hb]; exact h, fun q => by
   rcases (qF I.len).mp q with q | ⟨_, q⟩
   ·exact n q
   ·exact hb q⟩
 ids := fun n a h => by rw [aK (aH.mp h).1]; exact h
theorem GInv.newC {p : Addr} {o : HO} {x : Cell} (I : GInv K B φ S H) (hp : H p = none) (hx : x ≠ .dead -> B7 K B (φ ++ [p]) (S ++ [x]) (upd H p o) x p) : GInv K B (φ ++ [p]) (S ++ [x]) (upd H p o) where
 len := by simp [I.len]
 ok := fun n c a h1 h2 => by
  by_cases hn : n < S.length
  ·rw [aK hn] at h1
   rw [aK (by rw [I.len]; exact hn)] at h2
   have q := I.ok n c a h1 h2;have ex := Ext.newC (o := o) (x := x) I hp;have ha : c ≠ .dead -> upd H p o a = H a := fun hc => by
    rw [upd_ne];intro e;subst e;exact I.fresh hp ⟨n, c, h1, hc, h2⟩
   cases c with
   | dead => trivial
   | lst ds => obtain ⟨vs, e, r⟩ := q; exact ⟨vs, by rw [ha (by simp)]; exact e, ex.repL I r⟩
   | ins C fs => obtain ⟨dx, vs, e, r⟩ := q; exact ⟨dx, vs, by rw [ha (by simp)]; exact e, r.ext ex I⟩
   | dct fs => obtain ⟨vs, e, r⟩ := q; exact ⟨vs, by rw [ha (by simp)]; exact e, r.ext ex I⟩
   | lv xs => obtain ⟨vs, e, r⟩ := q; exact ⟨vs, by rw [ha (by simp)]; exact e, r.ext ex I⟩
   | dki ks xs => obtain ⟨vs, e, r⟩ := q; exact ⟨vs, by rw [ha (by simp)]; exact e, r.ext ex I⟩
   | dkt ks xs => obtain ⟨vs, e, r⟩ := q; exact ⟨vs, by rw [ha (by simp)]; exact e, r.ext ex I⟩
   | tbl d q0 => exact ⟨q.1, I.tab ex (ha (by simp)) q.2⟩
  ·have e : n = S.length := by
    have := (aH.mp h1).1;simp at this;omega
   subst e;rw [aW (bX _)] at h1;rw [<- I.len, aW (bX _)] at h2;simp at h1 h2;subst h1 h2;cases x with
   | dead => trivial
   | _ => exact hx (by simp)
 inj := fun n m c c' a h1 h2 h3 h4 h5 h6 => by
  have key : ∀ (n : Nat) (c : Cell), (S ++ [x])[n]? = some c -> (n < S.length /\ S[n]? = some c) \/ n = S.length := fun n c h => by
   by_cases hn : n < S.length
   ·rw [aK hn] at h; exact .inl ⟨hn, h⟩
   ·have := (aH.mp h).1
    simp at this;exact .inr (by omega)
  have kφ : ∀ n : Nat, n < S.length -> (φ ++ [p])[n]? = φ[n]? := fun n hn => aK (by rw [I.len]; exact hn)
  have kp : (φ ++ [p])[S.length]? = some p := by rw [<- I.len]; simp
  rcases key n c h1 with ⟨hn, e1⟩ | e1 <;> rcases key m c' h3 with ⟨hm, e2⟩ | e2
  ·rw [kφ n hn] at h5
   rw [kφ m hm] at h6;exact I.inj n m c c' a e1 h2 e2 h4 h5 h6
  ·subst e2
   rw [kp] at h6;cases h6;rw [kφ n hn] at h5;exact absurd ⟨n, c, e1, h2, h5⟩ (I.fresh hp)
  ·subst e1
   rw [kp] at h5;cases h5;rw [kφ m hm] at h6;exact absurd ⟨m, c', e2, h4, h6⟩ (I.fresh hp)
  ·omega
 blk := fun a h => by
  rcases (qF I.len).mp h with h | ⟨_, h⟩
  ·exact I.blk a h
  ·rw [h]; intro q; obtain ⟨u, e⟩ := I.btr p q; rw [hp] at e; cases e
 btr := fun a h => by
  obtain ⟨u, e⟩ := I.btr a h;exact ⟨u, by rw [upd_ne (ne_of_none e hp)]; exact e⟩
theorem CA {n : Nat} {c x : Cell} {a : Addr} (h : S[n]? = some c) (hc : c ≠ .dead) (hx : x ≠ .dead) : iV φ (S.set n x) a ↔ iV φ S a := by
 constructor
 ·rintro ⟨m, c', h1, h2, h3⟩
  rw [aP] at h1
  by_cases e : n = m
  ·subst e
   exact ⟨n, c, h, hc, h3⟩
  ·rw [if_neg e] at h1
   exact ⟨m, c', h1, h2, h3⟩
 ·rintro ⟨m, c', h1, h2, h3⟩
  by_cases e : n = m
  ·subst e
   exact ⟨n, x, by rw [aP, if_pos rfl, if_pos (aH.mp h).1], hx, h3⟩
  ·exact ⟨m, c', by rw [aP, if_neg e]; exact h1, h2, h3⟩
theorem B2 {n : Nat} {a : Addr} (h : iV φ (S.set n .dead) a) : iV φ S a := by
 obtain ⟨m, c', h1, h2, h3⟩ := h;rw [aP] at h1
 by_cases e : n = m
 ·rw [if_pos e] at h1
  by_cases hl : n < S.length
  ·rw [if_pos hl] at h1; cases h1; exact absurd rfl h2
  ·rw [if_neg hl] at h1; cases h1
 ·rw [if_neg e] at h1
  exact ⟨m, c', h1, h2, h3⟩
theorem Ext.put {n : Nat} {c x : Cell} {a : Addr} {o : HO} (hn : S[n]? = some c) (hc : c ≠ .dead) (ha : φ[n]? = some a) (hx : x ≠ .dead) : Ext φ S H φ (S.set n x) (upd H a o) where
 old := fun b u h nb => by
  have hb : b ≠ a := fun e => by subst e; exact nb ⟨n, c, hn, hc, ha⟩
  exact ⟨by rw [upd_ne hb]; exact h, fun q => nb ((CA hn hc hx).mp q)⟩
 ids := fun _ _ h => h
theorem GInv.put {n : Nat} {c x : Cell} {a : Addr} {o : HO} (I : GInv K B φ S H) (hn : S[n]? = some c) (hc : c ≠ .dead) (ha : φ[n]? = some a) (hx : x ≠ .dead) (ok : B7 K B φ (S.set n x) (upd H a o) x a) : GInv K B φ (S.set n x) (upd H a o) where
 len := by simp [I.len]
 ok := fun m c' b h1 h2 => by
  by_cases e : n = m
  ·subst e
   rw [aP, if_pos rfl, if_pos (aH.mp hn).1] at h1;cases h1;rw [ha] at h2;cases h2;exact ok
  ·rw [aP, if_neg e] at h1
   have q := I.ok m c' b h1 h2;have ex := Ext.put (H := H) (o := o) hn hc ha hx;have hb : c' ≠ .dead -> upd H a o b = H b := fun hc' => upd_ne fun e2 => by
    subst e2;exact e (I.inj n m c c' b hn hc h1 hc' ha h2)
   cases c' with
   | dead => trivial
   | lst ds => obtain ⟨vs, e, r⟩ := q; exact ⟨vs, by rw [hb (by simp)]; exact e, ex.repL I r⟩
   | ins C fs => obtain ⟨dx, vs, e, r⟩ := q; exact ⟨dx, vs, by rw [hb (by simp)]; exact e, r.ext ex I⟩
   | dct fs => obtain ⟨vs, e, r⟩ := q; exact ⟨vs, by rw [hb (by simp)]; exact e, r.ext ex I⟩
   | lv xs => obtain ⟨vs, e, r⟩ := q; exact ⟨vs, by rw [hb (by simp)]; exact e, r.ext ex I⟩
   | dki ks xs => obtain ⟨vs, e, r⟩ := q; exact ⟨vs, by rw [hb (by simp)]; exact e, r.ext ex I⟩
   | dkt ks xs => obtain ⟨vs, e, r⟩ := q; exact ⟨vs, by rw [hb (by simp)]; exact e, r.ext ex I⟩
   | tbl d q0 => exact ⟨q.1, I.tab ex (hb (by simp)) q.2⟩
 inj := fun i j d d' b h1 h2 h3 h4 h5 h6 => by
  have key : ∀ (i : Nat) (d : Cell), (S.set n x)[i]? = some d -> d ≠ .dead -> ∃ d0, S[i]? = some d0 /\ d0 ≠ .dead := fun i d h hd => by
   by_cases e : n = i
   ·subst e; exact ⟨c, hn, hc⟩
   ·rw [aP, if_neg e] at h; exact ⟨d, h, hd⟩
  obtain ⟨d0, e1, e2⟩ := key i d h1 h2;obtain ⟨d1, e3, e4⟩ := key j d' h3 h4;exact I.inj i j d0 d1 b e1 e2 e3 e4 h5 h6
 blk := fun b h => I.blk b ((CA hn hc hx).mp h)
 btr := fun b h => by
  obtain ⟨u, e⟩ := I.btr b h;exact ⟨u, by rw [upd_ne]; exact e; intro q; subst q; exact I.blk b ⟨n, c, hn, hc, ha⟩ h⟩
theorem Ext.kill {n : Nat} : Ext φ S H φ (S.set n .dead) H := ⟨fun b o h nb => ⟨h, fun q => nb (B2 q)⟩, fun _ _ h => h⟩
theorem GInv.kill {n : Nat} (I : GInv K B φ S H) : GInv K B φ (S.set n .dead) H where
 len := by simp [I.len]
 ok := fun m c' b h1 h2 => by
  by_cases e : n = m
  ·rw [aP, if_pos e] at h1
   by_cases hl : n < S.length
   ·rw [if_pos hl] at h1; cases h1; trivial
   ·rw [if_neg hl] at h1; cases h1
  ·rw [aP, if_neg e] at h1
   have q := I.ok m c' b h1 h2;have ex := Ext.kill (φ := φ) (S := S) (H := H) (n := n);cases c' with
   | dead => trivial
   | lst ds => obtain ⟨vs, e, r⟩ := q; exact ⟨vs, e, ex.repL I r⟩
   | ins C fs => obtain ⟨dx, vs, e, r⟩ := q; exact ⟨dx, vs, e, r.ext ex I⟩
   | dct fs => obtain ⟨vs, e, r⟩ := q; exact ⟨vs, e, r.ext ex I⟩
   | lv xs => obtain ⟨vs, e, r⟩ := q; exact ⟨vs, e, r.ext ex I⟩
   | dki ks xs => obtain ⟨vs, e, r⟩ := q; exact ⟨vs, e, r.ext ex I⟩
   | dkt ks xs => obtain ⟨vs, e, r⟩ := q; exact ⟨vs, e, r.ext ex I⟩
   | tbl d q0 => exact ⟨q.1, I.tab ex rfl q.2⟩
 inj := fun i j d d' b h1 h2 h3 h4 h5 h6 => by
  have key : ∀ (i : Nat) (d : Cell), (S.set n .dead)[i]? = some d -> d ≠ .dead -> S[i]? = some d := fun i d h hd => by
   rw [aP] at h
   by_cases e : n = i
   ·rw [if_pos e] at h
    by_cases hl : n < S.length
    ·rw [if_pos hl] at h; cases h; exact absurd rfl hd
    ·rw [if_neg hl] at h; cases h
   ·rw [if_neg e] at h; exact h
  exact I.inj i j d d' b (key i d h1 h2) h2 (key j d' h3 h4) h4 h5 h6
 blk := fun b h => I.blk b (B2 h)
 btr := I.btr
theorem GInv.killed {n : Nat} {c : Cell} {a : Addr} (I : GInv K B φ S H) (hn : S[n]? = some c) (hc : c ≠ .dead) (ha : φ[n]? = some a) : ¬ lI B φ (S.set n .dead) a := fun q => by
 rcases q with q | ⟨m, c', h1, h2, h3⟩
 ·exact I.blk a ⟨n, c, hn, hc, ha⟩ q
 ·rw [aP] at h1
  by_cases e : n = m
  ·rw [if_pos e] at h1
   by_cases hl : n < S.length
   ·rw [if_pos hl] at h1; cases h1; exact h2 rfl
   ·rw [if_neg hl] at h1; cases h1
  ·rw [if_neg e] at h1
   exact e (I.inj n m c c' a hn hc h1 h2 ha h3)
end
abbrev FE := Ev -> aJ -> Res Vl
abbrev FT := Ev -> aJ -> Res Bool
abbrev FA := Ev -> aJ -> Res (List Vl)
abbrev FO := Ev -> aJ -> Res (Option Int)
abbrev Rl (α β : Type) := (Addr -> Prop) -> List Addr -> aJ -> Hp -> α -> β -> Prop
def Ge (K : aA) (B : Addr -> Prop) (φ : List Addr) (S : aJ) (H : Hp) (e : Er) (c : Value) (x : Option Addr) : Prop :=
 c = .ref (He.ga K e.cls) /\ ((e.ns = [] /\ x = none) \/ ∃ d vs, x = some d /\ H d = some (.xd (e.ns.zip vs)) /\ RepL K (lI B φ S) H e.xs vs)
def RepX (K : aA) (B : Addr -> Prop) (φ : List Addr) (S : aJ) (H : Hp) (e : Er) (c : Value) (x : Option Addr) : Prop :=
 (LD e.cls = none /\ Ge K B φ S H e c x) \/ LD e.cls = some c
theorem RepX.reg {K : aA} {B : Addr -> Prop} {φ : List Addr} {S : aJ} {H : Hp} {e : Er} {c : Value} {x : Option Addr} (r : RepX K B φ S H e c x) (h : LD e.cls = none) : Ge K B φ S H e c x := by
 rcases r with r | r
 ·exact r.2
 ·rw [h] at r; cases r
section
variable {α β α' β' : Type}
def Fin (K : aA) (W : WX) (σ : L2.St) (R : Rl α β) (B : Addr -> Prop) (φ : List Addr) (S : aJ) (H : Hp) (r : Res α) (Q : β -> Hp -> Prop) : Prop := match r with
 | .ok d S' => ∀ φ' v H', GInv K B φ' S' H' -> Ext φ S H φ' S' H' -> R B φ' S' H' d v -> Q v H'
 | .err e S' => ∀ φ' c x H', GInv K B φ' S' H' -> Ext φ S H φ' S' H' -> RepX K B φ' S' H' e c x -> W c x σ H'
 | .stuck => False
def rd (K : aA) (W : WX) (R : Rl α β) (m : Ev -> aJ -> Res α) : L2.St -> Hp -> (β -> Hp -> Prop) -> Prop := fun σ H Q =>
 ∃ B φ S ρ, GInv K B φ S H /\ RepE K B φ S H ρ σ /\ Fin K W σ R B φ S H (m ρ S) Q
end
def RB : Rl Bool Bool := fun _ _ _ _ b c => c = b
def RO : Rl (Option Int) (Option Int) := fun _ _ _ _ b c => c = b
abbrev cC (K : aA) (W : WX) (m : FE) : TE := rd K W (RepV K) m
abbrev xR (K : aA) (W : WX) (m : FT) : TT := rd K W RB m
abbrev DD (K : aA) (W : WX) (m : FA) : TA := rd K W (RepVs K) m
abbrev rdO (K : aA) (W : WX) (m : FO) : TO := rd K W RO m
section
variable {α β α' β' : Type} {K : aA} {W : WX} {σ : L2.St} {R : Rl α β} {R' : Rl α' β'} {B : Addr -> Prop} {φ φ' : List Addr} {S S' : aJ} {H H' : Hp}
theorem Fin.ext {r : Res α} {Q : β -> Hp -> Prop} (f : Fin K W σ R B φ S H r Q) (e : Ext φ S H φ' S' H') : Fin K W σ R B φ' S' H' r Q := by
 cases r with
 | ok d S1 => exact fun φ1 v H1 I1 X r => f φ1 v H1 I1 (e.trans X) r
 | err x S1 => exact fun φ1 c x H1 I1 X r => f φ1 c x H1 I1 (e.trans X) r
 | stuck => exact f
theorem bP {m : Ev -> aJ -> Res α} {k : α -> Ev -> aJ -> Res α'} {Q : β' -> Hp -> Prop} {Q1 : β -> Hp -> Prop} (h : rd K W R' (fun ρ S => (m ρ S).bind fun a S' => k a ρ S') σ H Q)
  (hk : ∀ B φ S ρ d v H1, GInv K B φ S H1 -> RepE K B φ S H1 ρ σ -> R B φ S H1 d v -> Fin K W σ R' B φ S H1 (k d ρ S) Q -> Q1 v H1) : rd K W R m σ H Q1 := by
 obtain ⟨B, φ, S, ρ, I, E, f⟩ := h;refine ⟨B, φ, S, ρ, I, E, ?_⟩
 dsimp only at f;cases e : m ρ S with
 | stuck => rw [e] at f; exact f
 | err x S' => rw [e] at f; exact f
 | ok d S' =>
  rw [e] at f;exact fun φ' v H' I' X r => hk B φ' S' ρ d v H' I' (E.ext X I) r (Fin.ext f X)
theorem gY {ρ : Ev} {m : Ev -> aJ -> Res α} {k : α -> aJ -> Res α'} {Q : β' -> Hp -> Prop} {Q1 : β -> Hp -> Prop} (I : GInv K B φ S H) (E : RepE K B φ S H ρ σ) (f : Fin K W σ R' B φ S H ((m ρ S).bind k) Q)
  (hk : ∀ φ' S' d v H1, GInv K B φ' S' H1 -> Ext φ S H φ' S' H1 -> RepE K B φ' S' H1 ρ σ -> R B φ' S' H1 d v -> Fin K W σ R' B φ' S' H1 (k d S') Q -> Q1 v H1) : rd K W R m σ H Q1 := by
 refine ⟨B, φ, S, ρ, I, E, ?_⟩
 cases e : m ρ S with
 | stuck => rw [e] at f; exact f
 | err x S' => rw [e] at f; exact f
 | ok d S' =>
  rw [e] at f;exact fun φ' v H' I' X r => hk φ' S' d v H' I' X (E.ext X I) r (Fin.ext f X)
theorem Fin.now {d : α} {v : β} {Q : β -> Hp -> Prop} (f : Fin K W σ R B φ S H (.ok d S) Q) (I : GInv K B φ S H) (r : R B φ S H d v) : Q v H := f φ v H I Ext.refl r
end
def newL (c : Bool) (ds : List D) (S : aJ) : Res Vl := if c then .ok (.cel S.length) (S ++ [.lst ds]) else .ok (.dat (.lst ds)) S
section
variable {K : aA} {W : WX} {σ : L2.St} {B : Addr -> Prop} {φ φ' : List Addr} {S S' : aJ} {H H' : Hp} {Q : VK}
theorem lT {l : List Addr} {p : Addr} : (l ++ [p])[l.length]? = some p := by simp
theorem Fin.newT {ds : List D} {vs : List V} {p : Addr} (f : Fin K W σ (RepV K) B φ S H (.ok (.dat (.tup ds)) S) Q) (I : GInv K B φ S H) (r : RepL K (lI B φ S) H ds vs) (hp : H p = none) : Q (.ref p) (upd H p (.tup vs)) :=
 f φ _ _ (I.new hp) (Ext.new I hp) ⟨p, vs, rfl, .inl (.inl upd_same), (Ext.new I hp).repL I r⟩
theorem Fin.newL {c : Bool} {ds : List D} {vs : List V} {p : Addr} (f : Fin K W σ (RepV K) B φ S H (newL c ds S) Q) (I : GInv K B φ S H) (r : RepL K (lI B φ S) H ds vs) (hp : H p = none) : Q (.ref p) (upd H p (.lst vs)) := by
 unfold PH.newL at f;cases c with
 | false =>
  refine f φ _ _ (I.new hp) (Ext.new I hp) ⟨p, vs, rfl, I.nblk hp, upd_same, (Ext.new I hp).repL I r⟩
 | true =>
  have X := Ext.newC (o := .lst vs) (x := .lst ds) I hp;refine f (φ ++ [p]) _ _ (I.newC hp fun _ => ⟨vs, upd_same, X.repL I r⟩) X ⟨p, rfl, ?_⟩
  rw [<- I.len];exact lT
end
instance instIntMulOk (a b : Int) : Decidable (IntMulOk a b) := by unfold IntMulOk; infer_instance
instance instCDiv (a b : Int) : Decidable (CDiv a b) := by unfold CDiv; infer_instance
instance instCPow (a b : Int) : Decidable (CPow a b) := by unfold CPow; infer_instance
def lk : Ev -> Nat -> Option Vl
 | [], _ => none
 | x :: _, 0 => x
 | _ :: r, n + 1 => lk r n
theorem Dg : ∀ {ρ : Ev} {i : Nat} {d : Vl}, lk ρ i = some d -> ρ[i]? = some (some d)
 | [], _, _, h => by cases h
 | x :: _, 0, d, h => by
  have e : x = some d := h;rw [e]; rfl
 | _ :: r, n + 1, d, h => by
  have e := Dg (ρ := r) (i := n) (d := d) h
  simpa using e
def aB (i : Nat) : FE := fun ρ S => match lk ρ i with
 | some d => .ok d S
 | none => .stuck
def mC (d : D) : FE := fun _ S => .ok (.dat d) S
def aS (f : Vl -> Vl -> aJ -> Res Vl) (a b : FE) : FE := fun ρ S => (a ρ S).bind fun x S1 => (b ρ S1).bind fun y S2 => f x y S2
def m1 (f : Vl -> aJ -> Res Vl) (a : FE) : FE := fun ρ S => (a ρ S).bind fun x S1 => f x S1
def gI (K : aA) (r : R2) (f : Vl -> Vl -> aJ -> Res Vl) : Prop := ∀ {W : WX} {σ : L2.St} {B : Addr -> Prop} {φ : List Addr} {S : aJ} {H : Hp} {x y : V} {d e : Vl} {Q : VK}, GInv K B φ S H -> RepV K B φ S H d x -> RepV K B φ S H e y -> Fin K W σ (RepV K) B φ S H (f d e S) Q -> r x y H Q
def Fg (K : aA) (r : V -> Hp -> VK -> Prop) (f : Vl -> aJ -> Res Vl) : Prop := ∀ {W : WX} {σ : L2.St} {B : Addr -> Prop} {φ : List Addr} {S : aJ} {H : Hp} {x : V} {d : Vl} {Q : VK}, GInv K B φ S H -> RepV K B φ S H d x -> Fin K W σ (RepV K) B φ S H (f d S) Q -> r x H Q
section
variable {X : Cx} {W : WX} {e a b c : Expr} {pos p : Pos} {x : Str}
theorem fv (i : Nat) (hN : X.N[i]? = some x := by rfl) (hv : Vis X.env.scope x := by first | exact xO rfl | exact rW (xO rfl) | exact rW (rW rfl)) (hd : (x == ("__debug__" : Str)) = false := by decide)
  (hcd : (x == ("__classdict__" : Str)) = false := by decide) : PE X (.Name x pos) (cC X.K W (aB i)) := cP (pe_var hN hv hd hcd) fun σ H Q h => by
 obtain ⟨B, φ, S, ρ, I, E, f⟩ := h;unfold aB at f;cases q : lk ρ i with
 | none => rw [q] at f; exact f.elim
 | some d =>
  rw [q] at f;obtain ⟨v, h1, h2⟩ := E.2 i d (Dg q);exact ⟨v, h1, f.now I h2⟩
theorem KR {v : V} {d : D} (h : PE X e (tC v)) (r : ∀ Bk H, Rep X.K Bk H d v) : PE X e (cC X.K W (mC d)) := cP h fun σ H Q h => by
 obtain ⟨B, φ, S, ρ, I, E, f⟩ := h;exact Fin.now (v := v) f I (r _ _)
theorem CF {K : aA} {r : R2} {f : Vl -> Vl -> aJ -> Res Vl} {ma mb : FE} {σ : L2.St} {H : Hp} {Q : VK} (s : gI K r f) (h : cC K W (aS f ma mb) σ H Q) : tOp r (cC K W ma) (cC K W mb) σ H Q :=
 bP (k := fun x ρ S => (mb ρ S).bind fun y S2 => f x y S2) h fun B φ S ρ d v H1 I E r1 f' => gY I E f' fun φ' S' e w H2 I2 X2 E2 r2 f2 => s I2 (r1.ext X2 I) r2 f2
theorem cS {op : Operator} {r : R2} {f : Vl -> Vl -> aJ -> Res Vl} {ma mb : FE} (o : OpR X (binaryOp op) r) (s : gI X.K r f) (ha : PE X a (cC X.K W ma)) (hb : PE X b (cC X.K W mb)) : PE X (.BinOp a op b pos) (cC X.K W (aS f ma mb)) :=
 cP (pe_op o ha hb) fun σ H Q h => CF s h
theorem tA {op : CmpOp} {r : R2} {f : Vl -> Vl -> aJ -> Res Vl} {ma mb : FE} (o : OpR X (compareOp op) r) (s : gI X.K r f) (ha : PE X a (cC X.K W ma)) (hb : PE X b (cC X.K W mb)) (hm : behindInMarks op b = false := by rfl) : PE X (.Compare a [op] [b] pos) (cC X.K W (aS f ma mb)) :=
 cP (OD o ha hb hm) fun σ H Q h => CF s h
theorem Ik {K : aA} {r : V -> Hp -> VK -> Prop} {f : Vl -> aJ -> Res Vl} {ma : FE} {σ : L2.St} {H : Hp} {Q : VK} (s : Fg K r f) (h : cC K W (m1 f ma) σ H Q) : cC K W ma σ H fun x H1 => r x H1 Q :=
 bP (k := fun x ρ S => f x S) h fun B φ S ρ d v H1 I E r1 f' => s I r1 f'
def vC : Vl -> Vl -> aJ -> Res Vl
 | .dat (.int i), .dat (.int j), S => .ok (.dat (.int (i - j))) S
 | _, _, _ => .stuck
def mK : Vl -> Vl -> aJ -> Res Vl
 | .dat (.int i), .dat (.int j), S => if IntMulOk i j then .ok (.dat (.int (i * j))) S else .stuck
 | _, _, _ => .stuck
def Ap : Vl -> Vl -> aJ -> Res Vl
 | .dat (.int i), .dat (.int j), S => if 0 < j then .ok (.dat (.int (i % j))) S else .stuck
 | _, _, _ => .stuck
def Bx : Vl -> Vl -> aJ -> Res Vl
 | .dat (.int i), .dat (.int j), S => if CDiv i j then .ok (.dat (.int (i / j))) S else .stuck
 | _, _, _ => .stuck
def vD : Vl -> Vl -> aJ -> Res Vl
 | .dat (.int i), .dat (.int j), S => if CPow i j then .ok (.dat (.int (i ^ j.toNat))) S else .stuck
 | _, _, _ => .stuck
def KZ : Vl -> Vl -> aJ -> Res Vl
 | .dat (.int i), .dat (.int j), S => .ok (.dat (.bl (decide (i < j)))) S
 | _, _, _ => .stuck
def Eh : Vl -> Vl -> aJ -> Res Vl
 | .dat (.int i), .dat (.int j), S => .ok (.dat (.bl (decide (i <= j)))) S
 | _, _, _ => .stuck
def OB : Vl -> Vl -> aJ -> Res Vl
 | .dat (.int i), .dat (.int j), S => .ok (.dat (.bl (decide (j < i)))) S
 | _, _, _ => .stuck
def fGe : Vl -> Vl -> aJ -> Res Vl
 | .dat (.int i), .dat (.int j), S => .ok (.dat (.bl (decide (j <= i)))) S
 | _, _, _ => .stuck
variable {K : aA}
theorem yY : gI K NY vC := fun {W σ B φ S H x y d e Q} I r1 r2 f => by
 unfold vC at f;split at f
 ·cases r1; cases r2; exact Fin.now f I rfl
 ·exact f.elim
theorem pT : gI K G1 mK := fun {W σ B φ S H x y d e Q} I r1 r2 f => by
 unfold mK at f;split at f
 ·cases r1; cases r2
  split at f
  ·rename_i h; exact ⟨h, Fin.now f I rfl⟩
  ·exact f.elim
 ·exact f.elim
theorem BY : gI K Na Ap := fun {W σ B φ S H x y d e Q} I r1 r2 f => by
 unfold Ap at f;split at f
 ·cases r1; cases r2
  split at f
  ·rename_i h; exact ⟨h, Fin.now f I rfl⟩
  ·exact f.elim
 ·exact f.elim
theorem Es : gI K J4 Bx := fun {W σ B φ S H x y d e Q} I r1 r2 f => by
 unfold Bx at f;split at f
 ·cases r1; cases r2
  split at f
  ·rename_i h; exact ⟨h, Fin.now f I rfl⟩
  ·exact f.elim
 ·exact f.elim
theorem vU : gI K NZ vD := fun {W σ B φ S H x y d e Q} I r1 r2 f => by
 unfold vD at f;split at f
 ·cases r1; cases r2
  split at f
  ·rename_i h; exact ⟨h, Fin.now f I rfl⟩
  ·exact f.elim
 ·exact f.elim
theorem HE : gI K rLtC KZ := fun {W σ B φ S H x y d e Q} I r1 r2 f => by
 unfold KZ at f;split at f
 ·cases r1; cases r2; exact Fin.now f I rfl
 ·exact f.elim
theorem CO : gI K rLeC Eh := fun {W σ B φ S H x y d e Q} I r1 r2 f => by
 unfold Eh at f;split at f
 ·cases r1; cases r2; exact Fin.now f I rfl
 ·exact f.elim
theorem s_gt : gI K rGtC OB := fun {W σ B φ S H x y d e Q} I r1 r2 f => by
 unfold OB at f;split at f
 ·cases r1; cases r2; exact Fin.now f I rfl
 ·exact f.elim
theorem s_ge : gI K rGeC fGe := fun {W σ B φ S H x y d e Q} I r1 r2 f => by
 unfold fGe at f;split at f
 ·cases r1; cases r2; exact Fin.now f I rfl
 ·exact f.elim
def D0 : Vl -> aJ -> Res Vl
 | .dat (.int i), S => .ok (.dat (.int (-i))) S
 | _, _ => .stuck
theorem Bv {ma : FE} (ha : PE X a (cC X.K W ma)) : PE X (.UnaryOp .USub a pos) (cC X.K W (m1 D0 ma)) :=
 cP (pe_un LK ha) fun σ H Q h => Ik (r := cNeg) (fun {W σ B φ S H x d Q} I r f => by
  unfold D0 at f;split at f
  ·cases r; exact Fin.now f I rfl
  ·exact f.elim) h
theorem RepL.len {Bk : Addr -> Prop} {H : Hp} : ∀ {ds : List D} {vs : List V}, RepL K Bk H ds vs -> vs.length = ds.length
 | [], vs, h => by cases h; rfl
 | d :: ds, vs, ⟨v, ws, e, _, h2⟩ => by subst e; simp [RepL.len h2]
theorem RepL.get {Bk : Addr -> Prop} {H : Hp} : ∀ {ds : List D} {vs : List V} {i : Nat} {d : D}, RepL K Bk H ds vs -> ds[i]? = some d -> ∃ v, vs[i]? = some v /\ Rep K Bk H d v
 | [], vs, i, d, h, q => by simp at q
 | d :: ds, vs, 0, d', ⟨v, ws, e, h1, h2⟩, q => by simp at q; subst q e; exact ⟨v, rfl, h1⟩
 | d :: ds, vs, i + 1, d', ⟨v, ws, e, h1, h2⟩, q => by
  subst e;obtain ⟨v', h3, h4⟩ := RepL.get (i := i) (d := d') h2 (by simpa using q)
  exact ⟨v', by simpa using h3, h4⟩
theorem RepL.append {Bk : Addr -> Prop} {H : Hp} : ∀ {ds es : List D} {vs ws : List V}, RepL K Bk H ds vs -> RepL K Bk H es ws -> RepL K Bk H (ds ++ es) (vs ++ ws)
 | [], es, vs, ws, h, h' => by cases h; exact h'
 | d :: ds, es, vs, ws, ⟨v, us, e, h1, h2⟩, h' => by subst e; exact ⟨v, us ++ ws, rfl, h1, RepL.append h2 h'⟩
theorem RepL.take {Bk : Addr -> Prop} {H : Hp} : ∀ {ds : List D} {vs : List V} (n : Nat), RepL K Bk H ds vs -> RepL K Bk H (ds.take n) (vs.take n)
 | ds, vs, 0, h => by simp [RepL]
 | [], vs, n + 1, h => by cases h; rfl
 | d :: ds, vs, n + 1, ⟨v, us, e, h1, h2⟩ => by subst e; exact ⟨v, us.take n, rfl, h1, RepL.take n h2⟩
theorem RepL.drop {Bk : Addr -> Prop} {H : Hp} : ∀ {ds : List D} {vs : List V} (n : Nat), RepL K Bk H ds vs -> RepL K Bk H (ds.drop n) (vs.drop n)
 | ds, vs, 0, h => h
 | [], vs, n + 1, h => by cases h; rfl
 | d :: ds, vs, n + 1, ⟨v, us, e, h1, h2⟩ => by subst e; exact RepL.drop n h2
theorem RepL.set {Bk : Addr -> Prop} {H : Hp} {d : D} {v : V} (r : Rep K Bk H d v) : ∀ {ds : List D} {vs : List V} (n : Nat), RepL K Bk H ds vs -> RepL K Bk H (ds.set n d) (vs.set n v)
 | [], vs, n, h => by cases h; rfl
 | _ :: ds, vs, 0, ⟨_, us, e, h1, h2⟩ => by subst e; exact ⟨v, us, rfl, r, h2⟩
 | d' :: ds, vs, n + 1, ⟨v', us, e, h1, h2⟩ => by subst e; exact ⟨v', us.set n v, rfl, h1, RepL.set r n h2⟩
theorem RepL.snoc {Bk : Addr -> Prop} {H : Hp} {ds : List D} {vs : List V} {d : D} {v : V} (h : RepL K Bk H ds vs) (r : Rep K Bk H d v) : RepL K Bk H (ds ++ [d]) (vs ++ [v]) := h.append ⟨v, [], rfl, r, rfl⟩
theorem RepL.atI {Bk : Addr -> Prop} {H : Hp} {ds : List D} {vs : List V} {i : Int} {d : D} (h : RepL K Bk H ds vs) (q : L2.atI ds i = some d) : ∃ v, L2.atI vs i = some v /\ Rep K Bk H d v := by
 unfold L2.atI at q ⊢;rw [h.len];cases e : ixN ds.length i with
 | none => rw [e] at q; cases q
 | some j =>
  rw [e] at q;exact h.get (i := j) q
theorem RepVs.len {B : Addr -> Prop} {φ : List Addr} {S : aJ} {H : Hp} : ∀ {ds : List Vl} {vs : List V}, RepVs K B φ S H ds vs -> vs.length = ds.length
 | [], vs, h => by cases h; rfl
 | d :: ds, vs, ⟨v, ws, e, _, h2⟩ => by subst e; simp [RepVs.len h2]
def vI : List Vl -> Option (List D)
 | [] => some []
 | .dat d :: r => match vI r with
  | some ds => some (d :: ds)
  | none => none
 | _ :: _ => none
theorem xJ {B : Addr -> Prop} {φ : List Addr} {S : aJ} {H : Hp} : ∀ {xs : List Vl} {vs : List V} {ds : List D}, vI xs = some ds -> RepVs K B φ S H xs vs -> RepL K (lI B φ S) H ds vs
 | [], vs, ds, h, r => by cases h; exact r
 | .dat d :: xs, vs, ds, h, ⟨v, ws, e, h1, h2⟩ => by
  unfold vI at h;cases q : vI xs with
  | none => rw [q] at h; cases h
  | some es => rw [q] at h; cases h; exact ⟨v, ws, e, h1, xJ q h2⟩
 | .cel _ :: xs, vs, ds, h, _ => by cases h
 | .cels _ :: xs, vs, ds, h, _ => by cases h
 | .scr _ :: xs, vs, ds, h, _ => by cases h
 | .tc _ :: xs, vs, ds, h, _ => by cases h
def nJ (S : aJ) : Vl -> Option (List D)
 | .dat (.lst xs) => some xs
 | .cel n => match S[n]? with
  | some (.lst xs) => some xs
  | _ => none
 | _ => none
theorem mR {B : Addr -> Prop} {φ : List Addr} {S : aJ} {H : Hp} {d : Vl} {v : V} {xs : List D} (I : GInv K B φ S H) (h : nJ S d = some xs) (r : RepV K B φ S H d v) : ∃ a vs, v = .ref a /\ H a = some (.lst vs) /\ RepL K (lI B φ S) H xs vs := by
 unfold nJ at h;split at h
 ·cases h
  obtain ⟨a, vs, e, _, h1, h2⟩ := r;exact ⟨a, vs, e, h1, h2⟩
 ·rename_i n
  obtain ⟨a, e, h1⟩ := r;split at h
  ·rename_i ys q
   cases h;obtain ⟨vs, h2, h3⟩ := I.ok n _ a q h1;exact ⟨a, vs, e, h2, h3⟩
  ·cases h
 ·cases h
end
section
variable {X : Cx} {W : WX} {e a b c : Expr} {es rest : List Expr} {pos p : Pos} {x : Str} {K : aA} {ma mb mc : FE} {mt mu : FT} {mas : FA} {B : Addr -> Prop} {φ : List Addr} {S : aJ} {H : Hp} {σ : L2.St} {Q : VK}
def eR (cl : Bool) (x y : Vl) (S : aJ) : Res Vl := match x, y with
 | .dat (.int i), .dat (.int j) => .ok (.dat (.int (i + j))) S
 | .dat (.str a), .dat (.str b) => if a.length + b.length <= sizeLine then .ok (.dat (.str (a ++ b))) S else .stuck
 | .dat (.tup xs), .dat (.tup ys) => if xs.length + ys.length <= sizeLine then .ok (.dat (.tup (xs ++ ys))) S else .stuck
 | x, y => match nJ S x, nJ S y with
  | some xs, some ys => if xs.length + ys.length <= sizeLine then newL cl (xs ++ ys) S else .stuck
  | _, _ => .stuck
theorem hY {cl : Bool} : gI K (NM K) (eR cl) := fun {W σ B φ S H x y d e Q} I r1 r2 f => by
 unfold eR at f;split at f
 ·cases r1; cases r2; exact Fin.now f I rfl
 ·cases r1; cases r2
  split at f
  ·rename_i h; exact ⟨h, Fin.now f I rfl⟩
  ·exact f.elim
 ·rename_i xs ys
  obtain ⟨a, vs, rfl, h1, l1⟩ := r1;obtain ⟨b, ws, rfl, h2, l2⟩ := r2;split at f
  ·rename_i h
   refine rW ⟨a, b, vs, ws, rfl, rfl, h1, h2, by rw [l1.len, l2.len]; exact h, fun e => ?_, fun e1 e2 => ?_, fun _ _ p hp => Fin.newT f I (l1.append l2) hp⟩
   ·have l := l1.append l2
    rw [e, oC] at l;exact Fin.now f I ⟨b, ws, rfl, h2, l⟩
   ·have l := l1.append l2
    rw [e2, bJ] at l;exact Fin.now f I ⟨a, vs, rfl, h1, l⟩
  ·exact f.elim
 ·split at f
  ·rename_i xs ys q1 q2
   obtain ⟨a, vs, rfl, h1, l1⟩ := mR I q1 r1;obtain ⟨b, ws, rfl, h2, l2⟩ := mR I q2 r2;split at f
   ·rename_i h
    exact xO ⟨a, b, vs, ws, rfl, rfl, h1, h2, by rw [l1.len, l2.len]; exact h, fun p hp => Fin.newL f I (l1.append l2) hp⟩
   ·exact f.elim
  ·exact f.elim
def bQ (x y : Vl) (S : aJ) : Res Vl := match x, y with
 | .dat (.tup xs), .dat (.int i) => match atI xs i with
  | some d => .ok (.dat d) S
  | none => .stuck
 | .dat (.str z), .dat (.int i) => if z.length <= sizeLine then (match atI z.cps.toList i with
  | some c => .ok (.dat (.str ⟨#[c]⟩)) S
  | none => .stuck) else .stuck
 | .cels ns, .dat (.int i) => match atI ns i with
  | some n => .ok (.cel n) S
  | none => .stuck
 | x, .dat (.int i) => match nJ S x with
  | some xs => (match atI xs i with
   | some d => .ok (.dat d) S
   | none => .stuck)
  | none => .stuck
 | _, _ => .stuck
theorem D8 {α β : Type} {f : α -> β} {xs : List α} {i : Int} : atI (xs.map f) i = (atI xs i).map f := by
 unfold atI;rw [bA];cases ixN xs.length i with
 | none => rfl
 | some j => simp
theorem s_ix : gI K (cIx K) bQ := fun {W σ B φ S H x y d e Q} I r1 r2 f => by
 unfold bQ at f;split at f
 ·cases r2
  obtain ⟨a, vs, rfl, h1, l1⟩ := r1;split at f
  ·rename_i q
   obtain ⟨v, h2, h3⟩ := l1.atI q;exact ⟨vs, v, .inr h1, h2, Fin.now f I h3⟩
  ·exact f.elim
 ·cases r1; cases r2
  split at f
  ·rename_i h
   split at f
   ·rename_i c q
    exact ⟨h, c, q, Fin.now f I rfl⟩
   ·exact f.elim
  ·exact f.elim
 ·rename_i ns i
  cases r2;obtain ⟨a, as, rfl, h1, h2, h3⟩ := r1;split at f
  ·rename_i n q
   have q2 : atI (ns.map fun n => φ[n]?) i = some φ[n]? := by rw [D8, q]; rfl
   rw [h3, D8] at q2;cases q3 : atI as i with
   | none => rw [q3] at q2; cases q2
   | some b =>
    rw [q3] at q2;refine ⟨as.map V.ref, .ref b, .inl (SqL.of h2), by rw [D8, q3]; rfl, Fin.now f I ⟨b, rfl, ?_⟩⟩
    simpa using q2.symm
  ·exact f.elim
 ·cases r2
  split at f
  ·rename_i xs q1
   obtain ⟨a, vs, rfl, h1, l1⟩ := mR I q1 r1;split at f
   ·rename_i q
    obtain ⟨v, h2, h3⟩ := l1.atI q;exact ⟨vs, v, .inl (SqL.of h1), h2, Fin.now f I h3⟩
   ·exact f.elim
  ·exact f.elim
 ·exact f.elim
theorem bM (ha : PE X a (cC X.K W ma)) (hb : PE X b (cC X.K W mb)) (hs : PlainIx b := by intro _ _; rfl) : PE X (.Subscript a b pos) (cC X.K W (aS bQ ma mb)) := cP (e_ix ha hb hs) fun σ H Q h => CF s_ix h
mutual
def D.py : D -> Option PyData
 | .non => some .none
 | .bl b => some (.bool b)
 | .int i => some (.int i)
 | .str x => some (.str x)
 | .lst xs => match D.pys xs with
  | some ys => some (.list ys)
  | none => none
 | .tup xs => match D.pys xs with
  | some ys => some (.tuple ys)
  | none => none
 | .ins _ _ _ => none
 | .dct => none
 | .opq _ => none
def D.pys : List D -> Option (List PyData)
 | [] => some []
 | d :: ds => match D.py d, D.pys ds with
  | some x, some xs => some (x :: xs)
  | _, _ => none
end
mutual
theorem Rep.dp {Bk : Addr -> Prop} {H : Hp} : ∀ (d : D) (v : V) (p : PyData), d.py = some p -> Rep K Bk H d v -> Dp K H v p
 | .non, v, p, h, r => by cases h; cases r; exact .non
 | .bl b, v, p, h, r => by cases h; cases r; exact .bl b
 | .int b, v, p, h, r => by cases h; cases r; exact .int b
 | .str b, v, p, h, r => by cases h; cases r; exact .str b
 | .lst xs, v, p, h, ⟨a, vs, e, _, h1, h2⟩ => by
  subst e;unfold D.py at h;cases q : D.pys xs with
  | none => rw [q] at h; cases h
  | some ys => rw [q] at h; cases h; exact .lst (SqL.of h1) (RepL.dp xs vs ys q h2)
 | .tup xs, v, p, h, ⟨a, vs, e, h1, h2⟩ => by
  subst e;unfold D.py at h;cases q : D.pys xs with
  | none => rw [q] at h; cases h
  | some ys => rw [q] at h; cases h; exact .tup h1 (RepL.dp xs vs ys q h2)
 | .ins _ _ _, v, p, h, r => by cases h
 | .dct, v, p, h, r => by cases h
 | .opq _, v, p, h, r => by cases h
theorem RepL.dp {Bk : Addr -> Prop} {H : Hp} : ∀ (ds : List D) (vs : List V) (ps : List PyData), D.pys ds = some ps -> RepL K Bk H ds vs -> DpAll K H vs ps
 | [], vs, ps, h, r => by cases h; cases r; exact .nil
 | d :: ds, vs, ps, h, ⟨v, ws, e, h1, h2⟩ => by
  subst e;unfold D.pys at h;cases q1 : D.py d with
  | none => rw [q1] at h; cases h
  | some x =>
   cases q2 : D.pys ds with
   | none => rw [q1, q2] at h; cases h
   | some xs => rw [q1, q2] at h; cases h; exact .cons (Rep.dp d v x q1 h1) (RepL.dp ds ws xs q2 h2)
end
def G6 (S : aJ) : Vl -> Option PyData
 | .dat d => d.py
 | .cel n => match S[n]? with
  | some (.lst xs) => D.py (.lst xs)
  | _ => none
 | _ => none
def HI (S : aJ) : List Vl -> Option (List PyData)
 | [] => some []
 | x :: r => match G6 S x, HI S r with
  | some p, some ps => some (p :: ps)
  | _, _ => none
def HK (S : aJ) : Vl -> Option PyData
 | .dat d => d.py
 | .cel n => match S[n]? with
  | some (.lst xs) => D.py (.lst xs)
  | some (.lv xs) => (match HI S xs with
   | some ps => some (.list ps)
   | none => none)
  | _ => none
 | _ => none
theorem J5 {d : Vl} {v : V} {p : PyData} (I : GInv K B φ S H) (h : G6 S d = some p) (r : RepV K B φ S H d v) : Dp K H v p := by
 unfold G6 at h;split at h
 ·exact Rep.dp _ _ _ h r
 ·rename_i n
  obtain ⟨a, rfl, h1⟩ := r;split at h
  ·rename_i xs q
   obtain ⟨vs, h2, h3⟩ := I.ok n _ a q h1;unfold D.py at h;cases q : D.pys xs with
   | none => rw [q] at h; cases h
   | some ys => rw [q] at h; cases h; exact .lst (SqL.of h2) (RepL.dp xs vs ys q h3)
  ·cases h
 ·cases h
theorem G5 (I : GInv K B φ S H) : ∀ {xs : List Vl} {vs : List V} {ps : List PyData}, HI S xs = some ps -> RepVs K B φ S H xs vs -> DpAll K H vs ps
 | [], vs, ps, h, r => by cases h; cases r; exact .nil
 | x :: xs, vs, ps, h, ⟨v, ws, e, h1, h2⟩ => by
  subst e;unfold HI at h;cases q1 : G6 S x with
  | none => rw [q1] at h; cases h
  | some p =>
   cases q2 : HI S xs with
   | none => rw [q1, q2] at h; cases h
   | some qs => rw [q1, q2] at h; cases h; exact .cons (J5 I q1 h1) (G5 I q2 h2)
theorem A6 {d : Vl} {v : V} {p : PyData} (I : GInv K B φ S H) (h : HK S d = some p) (r : RepV K B φ S H d v) : Dp K H v p := by
 unfold HK at h;split at h
 ·exact Rep.dp _ _ _ h r
 ·rename_i n
  obtain ⟨a, rfl, h1⟩ := r;split at h
  ·rename_i xs q
   obtain ⟨vs, h2, h3⟩ := I.ok n _ a q h1;unfold D.py at h;cases q : D.pys xs with
   | none => rw [q] at h; cases h
   | some ys => rw [q] at h; cases h; exact .lst (SqL.of h2) (RepL.dp xs vs ys q h3)
  ·rename_i xs q
   obtain ⟨vs, h2, h3⟩ := I.ok n _ a q h1;cases q : HI S xs with
   | none => rw [q] at h; cases h
   | some ys => rw [q] at h; cases h; exact .lst (SqL.of h2) (G5 I q h3)
  ·cases h
 ·cases h
def shp (p q : PyData) : Bool := SeqAt.shaped p && SeqAt.shaped q
def hW (x y : Vl) (S : aJ) : Res Vl := match x, y with
 | .dat (.int i), .dat (.int j) => .ok (.dat (.bl (decide (i = j)))) S
 | .dat (.str i), .dat (.str j) => .ok (.dat (.bl (decide (i = j)))) S
 | x, y => match HK S x, HK S y with
  | some p, some q => if shp p q = true then .ok (.dat (.bl (PyData.eqv p q))) S else .stuck
  | _, _ => .stuck
def GT (x y : Vl) (S : aJ) : Res Vl := match x, y with
 | .dat (.int i), .dat (.int j) => .ok (.dat (.bl (!decide (i = j)))) S
 | .dat (.str i), .dat (.str j) => .ok (.dat (.bl (!decide (i = j)))) S
 | x, y => match HK S x, HK S y with
  | some p, some q => if shp p q = true then .ok (.dat (.bl (!PyData.eqv p q))) S else .stuck
  | _, _ => .stuck
theorem NL {x y : V} (h : rEqD K x y H Q) : cEq K x y H Q := by
 unfold cEq;split
 ·obtain ⟨d, e, h1, h2, _, _, q⟩ := h
  cases h1; cases h2;exact q
 ·obtain ⟨d, e, h1, h2, _, _, q⟩ := h
  cases h1; cases h2;exact q
 ·exact h
theorem NK {x y : V} (h : rNeD K x y H Q) : cNe K x y H Q := by
 unfold cNe;split
 ·obtain ⟨d, e, h1, h2, _, _, q⟩ := h
  cases h1; cases h2;exact q
 ·obtain ⟨d, e, h1, h2, _, _, q⟩ := h
  cases h1; cases h2;exact q
 ·exact h
theorem s_eq : gI K (cEq K) hW := fun {W σ B φ S H x y d e Q} I r1 r2 f => by
 unfold hW at f;split at f
 ·cases r1; cases r2; exact Fin.now f I rfl
 ·cases r1; cases r2; exact Fin.now f I rfl
 ·split at f
  ·rename_i p q h1 h2
   split at f
   ·rename_i h
    obtain ⟨h3, h4⟩ := He.ba h;exact NL ⟨p, q, A6 I h1 r1, A6 I h2 r2, h3, h4, Fin.now f I rfl⟩
   ·exact f.elim
  ·exact f.elim
theorem Ep : gI K (cNe K) GT := fun {W σ B φ S H x y d e Q} I r1 r2 f => by
 unfold GT at f;split at f
 ·cases r1; cases r2; exact Fin.now f I rfl
 ·cases r1; cases r2; exact Fin.now f I rfl
 ·split at f
  ·rename_i p q h1 h2
   split at f
   ·rename_i h
    obtain ⟨h3, h4⟩ := He.ba h;exact NK ⟨p, q, A6 I h1 r1, A6 I h2 r2, h3, h4, Fin.now f I rfl⟩
   ·exact f.elim
  ·exact f.elim
def isNon : Vl -> Bool
 | .dat .non => true
 | _ => false
def Aq (neg : Bool) (x y : Vl) (S : aJ) : Res Vl := match y with
 | .dat .non => .ok (.dat (.bl (if neg then !(isNon x) else isNon x))) S
 | _ => .stuck
theorem Du {d : Vl} {v : V} (r : RepV K B φ S H d v) : decide (v = .non) = isNon d := by
 cases d with
 | dat d =>
  cases d with
  | non => cases r; rfl
  | bl b => cases r; rfl
  | int b => cases r; rfl
  | str b => cases r; rfl
  | lst xs => obtain ⟨a, vs, rfl, _⟩ := r; rfl
  | tup xs => obtain ⟨a, vs, rfl, _⟩ := r; rfl
  | ins C ns xs => obtain ⟨a, dx, vs, rfl, _⟩ := r; rfl
  | dct => obtain ⟨a, rfl, _⟩ := r; rfl
  | opq k => cases k with
   | none => obtain ⟨a, rfl⟩ := r; rfl
   | some k => obtain ⟨a, rfl, _⟩ := r; rfl
 | cel n => obtain ⟨a, rfl, _⟩ := r; rfl
 | cels ns => obtain ⟨a, as, rfl, _⟩ := r; rfl
 | scr ns => obtain ⟨a, rfl, _⟩ := r; rfl
 | tc xs => obtain ⟨a, vs, rfl, _⟩ := r; rfl
theorem Iv : gI K Nb (Aq false) := fun {W σ B φ S H x y d e Q} I r1 r2 f => by
 unfold Aq at f;split at f
 ·cases r2
  show Q (.bl (decide (x = .non))) H
  rw [Du r1];exact Fin.now f I rfl
 ·exact f.elim
theorem Ir : gI K J0 (Aq true) := fun {W σ B φ S H x y d e Q} I r1 r2 f => by
 unfold Aq at f;split at f
 ·cases r2
  show Q (.bl (!decide (x = .non))) H
  rw [Du r1];exact Fin.now f I rfl
 ·exact f.elim
def unB : Vl -> aJ -> Res Bool
 | .dat (.bl b), S => .ok b S
 | _, _ => .stuck
def mB (a : FE) : FT := fun ρ S => (a ρ S).bind unB
theorem Ij {Q : Bool -> Hp -> Prop} (h : xR K W (mB ma) σ H Q) : cC K W ma σ H fun x H' => (match x with | .bl k => Q k H' | _ => False) :=
 bP (k := fun x _ S => unB x S) h fun B φ S ρ d v H1 I E r f => by
  unfold unB at f;split at f
  ·cases r; exact Fin.now f I rfl
  ·exact f.elim
theorem bC {op : CmpOp} {r : R2} {f : Vl -> Vl -> aJ -> Res Vl} (o : OpR X (compareOp op) r) (s : gI X.K r f) (ha : PE X a (cC X.K W ma)) (hb : PE X b (cC X.K W mb)) (hm : behindInMarks op b = false := by rfl) : PT X (.Compare a [op] [b] pos) (xR X.K W (mB (aS f ma mb))) :=
 B3 (NT o ha hb hm) fun σ H Q h => CF s (Ij h)
def AG (x : Vl) (S : aJ) : Res Bool := match x with
 | .dat .non => .ok false S
 | .dat (.bl b) => .ok b S
 | .dat (.int i) => .ok (i != 0) S
 | .dat (.str y) => if y.length <= sizeLine then .ok ((y.length : Int) != 0) S else .stuck
 | .dat (.tup xs) => .ok (!xs.isEmpty) S
 | x => match nJ S x with
  | some xs => .ok (!xs.isEmpty) S
  | none => .stuck
theorem RepL.emp {Bk : Addr -> Prop} {ds : List D} {vs : List V} (h : RepL K Bk H ds vs) : (!ds.isEmpty) = !vs.isEmpty := by
 have := h.len;cases ds <;> cases vs <;> simp at this ⊢
theorem CC {d : Vl} {v : V} {Q : Bool -> Hp -> Prop} (I : GInv K B φ S H) (r : RepV K B φ S H d v) (f : Fin K W σ RB B φ S H (AG d S) Q) : cT K v H Q := by
 unfold AG at f;split at f
 ·cases r; exact Fin.now f I rfl
 ·cases r; exact Fin.now f I rfl
 ·cases r; exact Fin.now f I rfl
 ·cases r
  split at f
  ·rename_i h; exact ⟨_, ⟨h, rfl⟩, Fin.now f I rfl⟩
  ·exact f.elim
 ·obtain ⟨a, vs, rfl, h1, l1⟩ := r
  exact ⟨_, .inr (.inl ⟨vs, h1, l1.emp⟩), Fin.now f I rfl⟩
 ·split at f
  ·rename_i xs q1
   obtain ⟨a, vs, rfl, h1, l1⟩ := mR I q1 r;exact ⟨_, .inl ⟨vs, SqL.of h1, l1.emp⟩, Fin.now f I rfl⟩
  ·exact f.elim
def cY (a : FE) : FT := fun ρ S => (a ρ S).bind AG
theorem cN (ha : PE X a (cC X.K W ma)) (he : ∀ whole, isTrue a X.env whole = (do let v <- whole; standAt a.pos; holding [v] (truthy v)) := by intro _; rfl) : PT X a (xR X.K W (cY ma)) :=
 B3 (t_val ha he) fun σ H Q h => bP (k := fun x _ S => AG x S) h fun B φ S ρ d v H1 I E r f => CC I r f
def M3 (a b : FT) : FT := fun ρ S => (a ρ S).bind fun c S1 => if c = true then b ρ S1 else .ok false S1
def Ac (a b : FT) : FT := fun ρ S => (a ρ S).bind fun c S1 => if c = true then .ok true S1 else b ρ S1
def iU (a : FT) : FT := fun ρ S => (a ρ S).bind fun c S1 => .ok (!c) S1
theorem Ky {e : Expr} {t u : TT} (h : PW X e t) (i : ∀ σ H Q, u σ H Q -> t σ H Q) : PW X e u := ⟨fun whole pins s σ H Q I q => h.run whole pins s σ H Q I (i σ H Q q)⟩
theorem LX {Q : Bool -> Hp -> Prop} (h : xR K W (M3 mt mu) σ H Q) : tAnd (xR K W mt) (xR K W mu) σ H Q :=
 bP (k := fun c ρ S => if c = true then mu ρ S else .ok false S) h fun B φ S ρ d v H1 I E r f => by
  have r : v = d := r;subst r;cases v with
  | true => exact ⟨B, φ, S, ρ, I, E, f⟩
  | false => exact Fin.now f I rfl
theorem OS {Q : Bool -> Hp -> Prop} (h : xR K W (Ac mt mu) σ H Q) : tOr (xR K W mt) (xR K W mu) σ H Q :=
 bP (k := fun c ρ S => if c = true then .ok true S else mu ρ S) h fun B φ S ρ d v H1 I E r f => by
  have r : v = d := r;subst r;cases v with
  | false => exact ⟨B, φ, S, ρ, I, E, f⟩
  | true => exact Fin.now f I rfl
theorem Q0 (ha : PT X a (xR X.K W mt)) (hb : PW X (.BoolOp .And (b :: rest) pos) (xR X.K W mu)) : PW X (.BoolOp .And (a :: b :: rest) pos) (xR X.K W (M3 mt mu)) := Ky (pw_and ha hb) fun σ H Q h => LX h
theorem kQ (ha : PT X a (xR X.K W mt)) (hb : PW X (.BoolOp .Or (b :: rest) pos) (xR X.K W mu)) : PW X (.BoolOp .Or (a :: b :: rest) pos) (xR X.K W (Ac mt mu)) := Ky (pw_or ha hb) fun σ H Q h => OS h
theorem eB (ha : PT X a (xR X.K W mt)) : PT X (.UnaryOp .Not a pos) (xR X.K W (iU mt)) := B3 (pt_not ha) fun σ H Q h =>
 bP (k := fun c _ S => .ok (!c) S) h fun B φ S ρ d v H1 I E r f => by cases r; exact Fin.now f I rfl
def iO (a b : FE) : FE := fun ρ S => (a ρ S).bind fun x S1 => match x with
 | .dat (.bl c) => if c = true then b ρ S1 else .ok (.dat (.bl false)) S1
 | _ => .stuck
def mOrV (a b : FE) : FE := fun ρ S => (a ρ S).bind fun x S1 => match x with
 | .dat (.bl c) => if c = true then .ok (.dat (.bl true)) S1 else b ρ S1
 | _ => .stuck
def GD (a : FE) : FE := fun ρ S => (a ρ S).bind fun x S1 => (AG x S1).bind fun k S2 => .ok (.dat (.bl (!k))) S2
theorem gT (ha : PE X a (cC X.K W ma)) (hb : PE X (.BoolOp .And (b :: rest) pos) (cC X.K W mb)) : PE X (.BoolOp .And (a :: b :: rest) pos) (cC X.K W (iO ma mb)) := cP (e_and ha hb) fun σ H Q h =>
 bP (k := fun x ρ S1 => match x with | .dat (.bl c) => if c = true then mb ρ S1 else .ok (.dat (.bl false)) S1 | _ => .stuck) h fun B φ S ρ d v H1 I E r f => by
  split at f
  ·rename_i c
   cases r;cases c with
   | true => exact ⟨B, φ, S, ρ, I, E, f⟩
   | false => exact Fin.now f I rfl
  ·exact f.elim
def Oj (a b : FE) : FE := fun ρ S => (a ρ S).bind fun x S1 => (AG x S1).bind fun k S2 => if k = true then .ok x S2 else b ρ S2
theorem DL {x : Vl} {k : Bool} {S' : aJ} (h : AG x S = .ok k S') : S' = S := by
 unfold AG at h;split at h
 ·cases h; rfl
 ·cases h; rfl
 ·cases h; rfl
 ·split at h <;> cases h; rfl
 ·cases h; rfl
 ·split at h <;> cases h; rfl
theorem tru_V {d : Vl} {v : V} {k : Bool} (I : GInv K B φ S H) (r : RepV K B φ S H d v) (h : AG d S = .ok k S) : TruV K v H k := by
 obtain ⟨k', h1, h2⟩ := Kl v H (fun b _ => b = k) (CC (W := LH) (σ := []) I r (by
  rw [h];exact fun φ' v' H' _ _ r => r))
 rw [<- h2]; exact h1
theorem Q4 (ha : PE X a (cC X.K W ma)) (hb : PE X (.BoolOp .Or (b :: rest) pos) (cC X.K W mb)) : PE X (.BoolOp .Or (a :: b :: rest) pos) (cC X.K W (Oj ma mb)) := cP (pe_orT ha hb) fun σ H Q h =>
 bP (k := fun x ρ S1 => (AG x S1).bind fun k S2 => if k = true then .ok x S2 else mb ρ S2) h fun B φ S ρ d v H1 I E r f => by
  cases q : AG d S with
  | stuck => rw [q] at f; exact f.elim
  | err e S' =>
   exfalso
   unfold AG at q;split at q <;> first | cases q | (split at q <;> cases q)
  | ok k S' =>
   have e := DL q;subst e;rw [q] at f;refine ⟨k, tru_V I r q, ?_⟩
   cases k with
   | true => exact Fin.now f I r
   | false => exact ⟨B, φ, S', ρ, I, E, f⟩
theorem KQ (ha : PE X a (cC X.K W ma)) : PE X (.UnaryOp .Not a pos) (cC X.K W (GD ma)) := cP (e_not ha) fun σ H Q h =>
 bP (k := fun x _ S1 => (AG x S1).bind fun k S2 => Res.ok (Vl.dat (D.bl (!k))) S2) h fun B φ S ρ d v H1 I E r f => by
  cases q : AG d S with
  | stuck => rw [q] at f; exact f.elim
  | err e S' =>
   exfalso
   unfold AG at q;split at q <;> first | cases q | (split at q <;> cases q)
  | ok k S' =>
   have e := DL q;subst e;rw [q] at f;refine CC (W := W) (σ := σ) I r ?_
   rw [q];intro φ' v' H' I' X' r';cases r';exact Fin.now (Fin.ext f X') I' rfl
def iD (f g : Vl -> Vl -> aJ -> Res Vl) (a b c : FE) : FE := fun ρ S => (a ρ S).bind fun x S1 => (b ρ S1).bind fun y S2 => (f x y S2).bind fun z S3 => match z with
 | .dat (.bl k) => if k = true then (c ρ S3).bind fun w S4 => g y w S4 else .ok (.dat (.bl false)) S3
 | _ => .stuck
theorem BV {r r' : R2} {f g : Vl -> Vl -> aJ -> Res Vl} (s : gI K r f) (s' : gI K r' g) (h : cC K W (iD f g ma mb mc) σ H Q) : D6 r r' (cC K W ma) (cC K W mb) (cC K W mc) σ H Q := by
 refine bP (k := fun x ρ S1 => (mb ρ S1).bind fun y S2 => (f x y S2).bind fun z S3 => match z with | .dat (.bl k) => if k = true then (mc ρ S3).bind fun w S4 => g y w S4 else .ok (.dat (.bl false)) S3 | _ => .stuck) h fun B φ S ρ d v H1 I E r1 f' => gY I E f' fun φ' S' e w H2 I2 X2 E2 r2 f2 => ?_
 have r1' := r1.ext X2 I;refine s (W := W) (σ := σ) I2 r1' r2 ?_
 cases q : f d e S' with
 | stuck => rw [q] at f2; exact f2
 | err x S3 => rw [q] at f2; exact f2
 | ok z S3 =>
  rw [q] at f2;intro φ3 v3 H3 I3 X3 r3;have f3 := Fin.ext f2 X3;dsimp only [Res.bind] at f3;split at f3
  ·rename_i k
   cases r3;cases k with
   | false => exact Fin.now f3 I3 rfl
   | true => exact gY I3 (E2.ext X3 I2) f3 fun φ4 S4 d4 v4 H4 I4 X4 E4 r4 f4 => s' I4 ((r2.ext X3 I2).ext X4 I3) r4 f4
  ·exact f3.elim
theorem AB {op op' : CmpOp} {r r' : R2} {f g : Vl -> Vl -> aJ -> Res Vl} (ho : OpR X (compareOp op) r) (s : gI X.K r f) (ho' : OpR X (compareOp op') r') (s' : gI X.K r' g) (ha : PE X a (cC X.K W ma)) (hb : PE X b (cC X.K W mb)) (hc : PE X c (cC X.K W mc))
  (hm : lastMarks [op, op'] [b, c] = false := by with_unfolding_all rfl) : PE X (.Compare a [op, op'] [b, c] pos) (cC X.K W (iD f g ma mb mc)) := cP (ND ho ho' ha hb hc hm) fun σ H Q h => BV s s' h
theorem E9 {op op' : CmpOp} {r r' : R2} {f g : Vl -> Vl -> aJ -> Res Vl} (ho : OpR X (compareOp op) r) (s : gI X.K r f) (ho' : OpR X (compareOp op') r') (s' : gI X.K r' g) (ha : PE X a (cC X.K W ma)) (hb : PE X b (cC X.K W mb)) (hc : PE X c (cC X.K W mc))
  (hm : lastMarks [op, op'] [b, c] = false := by with_unfolding_all rfl) : PT X (.Compare a [op, op'] [b, c] pos) (xR X.K W (mB (iD f g ma mb mc))) := B3 (LO ho ho' ha hb hc hm) fun σ H Q h => BV s s' (Ij h)
def mIf (t : FT) (a b : FE) : FE := fun ρ S => (t ρ S).bind fun c S1 => if c = true then a ρ S1 else b ρ S1
def aL : FA := fun _ S => .ok [] S
def aD (a : FE) (r : FA) : FA := fun ρ S => (a ρ S).bind fun x S1 => (r ρ S1).bind fun xs S2 => .ok (x :: xs) S2
theorem L0 {t u : TA} (h : PA X es t) (i : ∀ σ H Q, u σ H Q -> t σ H Q) : PA X es u := ⟨fun pos pins s σ H Q I q => h.run pos pins s σ H Q I (i σ H Q q)⟩
theorem aI : PA X [] (DD X.K W aL) := L0 pa_nil fun σ H Q h => by
 obtain ⟨B, φ, S, ρ, I, E, f⟩ := h;exact Fin.now (v := []) f I rfl
theorem aC (ha : PE X a (cC X.K W ma)) (hr : PA X es (DD X.K W mas)) (hs : starEach (a :: es) X.env = (false, eval a X.env) :: starEach es X.env := by rfl) : PA X (a :: es) (DD X.K W (aD ma mas)) := L0 (pa_cons ha hr hs) fun σ H Q h =>
 bP (k := fun x ρ S1 => (mas ρ S1).bind fun xs S2 => .ok (x :: xs) S2) h fun B φ S ρ d v H1 I E r f => gY I E f fun φ' S' ds vs H2 I2 X2 E2 r2 f2 => Fin.now f2 I2 ⟨v, vs, rfl, r.ext X2 I, r2⟩
def jM (cl : Bool) (r : FA) : FE := fun ρ S => (r ρ S).bind fun xs S1 => match vI xs with
 | some ds => if ds.length <= sizeLine then newL cl ds S1 else .stuck
 | none => .stuck
def cK (r : FA) : FE := fun ρ S => (r ρ S).bind fun xs S1 => match vI xs with
 | some ds => if ds.length <= sizeLine then .ok (.dat (.tup ds)) S1 else .stuck
 | none => .stuck
theorem pY {cl : Bool} (h : PA X es (DD X.K W mas)) : PE X (.List es pos) (cC X.K W (jM cl mas)) := cP (pe_lst h) fun σ H Q h =>
 bP (k := fun xs ρ S1 => match vI xs with | some ds => if ds.length <= sizeLine then newL cl ds S1 else .stuck | none => .stuck) h fun B φ S ρ d v H1 I E r f => by
  split at f
  ·rename_i ds q
   have l := xJ q r;split at f
   ·rename_i hl
    exact ⟨by rw [l.len]; exact hl, fun p hp => Fin.newL f I l hp⟩
   ·exact f.elim
  ·exact f.elim
theorem cZ (h : PA X es (DD X.K W mas)) : PE X (.Tuple es x1 pos) (cC X.K W (cK mas)) := cP (pe_tup h) fun σ H Q h =>
 bP (k := fun xs ρ S1 => match vI xs with | some ds => if ds.length <= sizeLine then Res.ok (Vl.dat (D.tup ds)) S1 else .stuck | none => .stuck) h fun B φ S ρ d v H1 I E r f => by
  split at f
  ·rename_i ds q
   have l := xJ q r;split at f
   ·rename_i hl
    exact ⟨by rw [l.len]; exact hl, fun p hp => Fin.newT f I l hp⟩
   ·exact f.elim
  ·exact f.elim
end
section
variable {X : Cx} {W : WX} {e a b c : Expr} {es rest : List Expr} {pos p q p2 : Pos} {x y z : Str} {K : aA} {ma mb mc : FE} {mt mu : FT} {mas : FA} {B : Addr -> Prop} {φ : List Addr} {S : aJ} {H : Hp} {σ : L2.St} {Q : VK}
theorem CG {r : V -> Hp -> VK -> Prop} {f : Vl -> aJ -> Res Vl} (s : Fg K r f) (h : cC K W (m1 f ma) σ H Q) : tCB (c1 r) (tCons (cC K W ma) tNil) σ H Q := Ik s h
def eY (x : Vl) (S : aJ) : Res Vl := match x with
 | .dat (.tup xs) => .ok (.dat (.int xs.length)) S
 | .dat (.str z) => if z.length <= sizeLine then .ok (.dat (.int z.length)) S else .stuck
 | .cels ns => .ok (.dat (.int ns.length)) S
 | x => match nJ S x with
  | some xs => .ok (.dat (.int xs.length)) S
  | none => .stuck
theorem s_len : Fg K (cLen K) eY := fun {W σ B φ S H x d Q} I r f => by
 unfold eY at f;split at f
 ·obtain ⟨a, vs, rfl, h1, l1⟩ := r
  refine ⟨vs, .inr h1, ?_⟩
  rw [l1.len];exact Fin.now f I rfl
 ·cases r
  split at f
  ·rename_i h; exact ⟨h, Fin.now f I rfl⟩
  ·exact f.elim
 ·rename_i ns
  obtain ⟨a, as, rfl, h1, h2, h3⟩ := r;refine ⟨as.map V.ref, .inl (SqL.of h2), ?_⟩
  have e : as.length = ns.length := by
   have := congrArg List.length h3
   simpa using this.symm
  rw [bA, e];exact Fin.now f I rfl
 ·split at f
  ·rename_i xs q1
   obtain ⟨a, vs, rfl, h1, l1⟩ := mR I q1 r;refine ⟨vs, .inl (SqL.of h1), ?_⟩
   rw [l1.len];exact Fin.now f I rfl
  ·exact f.elim
theorem iE (hm : X.mg "len" = none) (ha : PE X a (cC X.K W ma)) (hg : Gl X "len" := by rfl) (hs : starEach [a] X.env = [(false, eval a X.env)] := by rfl) : PE X (.Call (.Name "len" p) [a] [] pos) (cC X.K W (m1 eY ma)) := cP (e_len hm ha hg hs) fun σ H Q h => CG s_len h
def zZ (x : Vl) (S : aJ) : Res Vl := match x with
 | .dat (.int i) => .ok (.dat (.int i)) S
 | .dat (.bl k) => .ok (.dat (.int (if k then 1 else 0))) S
 | _ => .stuck
theorem s_int : Fg K cInt zZ := fun {W σ B φ S H x d Q} I r f => by
 unfold zZ at f;split at f
 ·cases r; exact Fin.now f I rfl
 ·cases r; exact Fin.now f I rfl
 ·exact f.elim
theorem Cy (hm : X.mg "int" = none) (ha : PE X a (cC X.K W ma)) (hg : Gl X "int" := by rfl) (hs : starEach [a] X.env = [(false, eval a X.env)] := by rfl) : PE X (.Call (.Name "int" p) [a] [] pos) (cC X.K W (m1 zZ ma)) := cP (OC hm ha hg hs) fun σ H Q h => CG s_int h
def xK : List D -> Option (List Bool)
 | [] => some []
 | .bl b :: r => match xK r with
  | some bs => some (b :: bs)
  | none => none
 | _ :: _ => none
theorem EU {Bk : Addr -> Prop} : ∀ {ds : List D} {bs : List Bool} {vs : List V}, xK ds = some bs -> RepL K Bk H ds vs -> vs = bs.map V.bl
 | [], bs, vs, h, r => by cases h; exact r
 | d :: ds, bs, vs, h, ⟨v, ws, e, h1, h2⟩ => by
  subst e;cases d with
  | bl b =>
   unfold xK at h;cases q : xK ds with
   | none => rw [q] at h; cases h
   | some es => rw [q] at h; cases h; cases h1; rw [EU q h2]; rfl
  | _ => cases h
def QG : List D -> Option (List Int)
 | [] => some []
 | .int b :: r => match QG r with
  | some bs => some (b :: bs)
  | none => none
 | _ :: _ => none
def yN (x : Vl) (S : aJ) : Res Vl := match nJ S x with
 | some xs => (match xK xs with
  | some bs => .ok (.dat (.bl (bs.all id))) S
  | none => .stuck)
 | none => .stuck
theorem s_all : Fg K (cAll K) yN := fun {W σ B φ S H x d Q} I r f => by
 unfold yN at f;split at f
 ·rename_i xs q1
  obtain ⟨a, vs, rfl, h1, l1⟩ := mR I q1 r;split at f
  ·rename_i bs q2
   rw [EU q2 l1] at h1;exact ⟨bs, SqL.of h1, Fin.now f I rfl⟩
  ·exact f.elim
 ·exact f.elim
theorem KY (hm : X.mg "all" = none) (ha : PE X a (cC X.K W ma)) (hc : X.calm = true := by rfl) (hg : Gl X "all" := by rfl) (hs : starEach [a] X.env = [(false, eval a X.env)] := by rfl) : PE X (.Call (.Name "all" p) [a] [] pos) (cC X.K W (m1 yN ma)) := cP (e_all hm ha hc hg hs) fun σ H Q h => CG s_all h
def Ka (cl : Bool) (x : Vl) (S : aJ) : Res Vl := match x with
 | .dat (.tup xs) => newL cl xs S
 | x => match nJ S x with
  | some xs => newL cl xs S
  | none => .stuck
def fTuple (x : Vl) (S : aJ) : Res Vl := match nJ S x with
 | some xs => .ok (.dat (.tup xs)) S
 | none => .stuck
theorem LZ : Fg K (Kk K) fTuple := fun {W σ B φ S H x d Q} I r f => by
 unfold fTuple at f;split at f
 ·rename_i xs q1
  obtain ⟨a, vs, rfl, h1, l1⟩ := mR I q1 r;exact ⟨vs, SqL.of h1, fun l hl => Fin.newT f I l1 hl⟩
 ·exact f.elim
theorem N2 (hm : X.mg "tuple" = none) (ha : PE X a (cC X.K W ma)) (hg : Gl X "tuple" := by rfl) (hs : starEach [a] X.env = [(false, eval a X.env)] := by rfl) : PE X (.Call (.Name "tuple" p) [a] [] pos) (cC X.K W (m1 fTuple ma)) := cP (NC hm ha hg hs) fun σ H Q h => CG LZ h
def fAbs (x : Vl) (S : aJ) : Res Vl := match x with
 | .dat (.int i) => .ok (.dat (.int (if i < 0 then -i else i))) S
 | _ => .stuck
theorem Dm {a : Addr} {xs : List V} (h : SqT K H a xs) : B4 K H a "tuple" := by
 refine ⟨by decide, ?_⟩
 rcases h with (h | ⟨o, h⟩) | ⟨o, its, n, h, hc, _⟩
 ·exact .base (.tup h)
 ·exact .fTuple h
 ·exact .kTuple h hc
theorem sV {a : Addr} {xs : List V} (h : SqL K H a xs) : B4 K H a "list" := by
 refine ⟨by decide, ?_⟩
 rcases h with (h | ⟨o, h⟩) | ⟨o, its, n, h, hc, _⟩
 ·exact .base (.lst h)
 ·exact .base (.frz h)
 ·exact .kList h hc
def kindOf (S : aJ) : Vl -> Option String
 | .dat .non => some "NoneType"
 | .dat (.bl _) => some "bool"
 | .dat (.int _) => some "int"
 | .dat (.str _) => some "str"
 | .dat (.lst _) => some "list"
 | .dat (.tup _) => some "tuple"
 | .dat .dct => some "dict"
 | .dat (.opq _) => none
 | .dat (.ins _ _ _) => none
 | .cels _ => some "list"
 | .scr _ => some "list"
 | .tc _ => some "tuple"
 | .cel n => match S[n]? with
  | some (.lst _) => some "list"
  | some (.dct _) => some "dict"
  | some (.lv _) => some "list"
  | _ => none
def fIsi (T : String) (x : Vl) (S : aJ) : Res Vl := match kindOf S x with
 | some n => .ok (.dat (.bl (isTy T n))) S
 | none => .stuck
theorem yE {d : Vl} {v : V} {n : String} (I : GInv K B φ S H) (r : RepV K B φ S H d v) (h : kindOf S d = some n) : (v = .non /\ n = "NoneType") \/ (∃ b, v = .bl b /\ n = "bool") \/ (∃ b, v = .int b /\ n = "int") \/ (∃ b, v = .str b /\ n = "str") \/ ∃ a, v = .ref a /\ B4 K H a n := by
 cases d with
 | dat d =>
  cases d with
  | non => cases h; cases r; exact .inl ⟨rfl, rfl⟩
  | bl b => cases h; cases r; exact .inr (.inl ⟨b, rfl, rfl⟩)
  | int b => cases h; cases r; exact .inr (.inr (.inl ⟨b, rfl, rfl⟩))
  | str b => cases h; cases r; exact .inr (.inr (.inr (.inl ⟨b, rfl, rfl⟩)))
  | lst xs => cases h; obtain ⟨a, vs, rfl, _, h1, _⟩ := r; exact .inr (.inr (.inr (.inr ⟨a, rfl, sV (SqL.of h1)⟩)))
  | tup xs => cases h; obtain ⟨a, vs, rfl, h1, _⟩ := r; exact .inr (.inr (.inr (.inr ⟨a, rfl, Dm h1⟩)))
  | ins C ns xs => cases h
  | opq _ => cases h
  | dct => cases h; obtain ⟨a, rfl, _, h1⟩ := r; exact .inr (.inr (.inr (.inr ⟨a, rfl, by decide, .base (.dK h1)⟩)))
 | cels ns => cases h; obtain ⟨a, as, rfl, _, h1, _⟩ := r; exact .inr (.inr (.inr (.inr ⟨a, rfl, sV (SqL.of h1)⟩)))
 | scr ns => cases h; obtain ⟨a, rfl, h1⟩ := r; exact .inr (.inr (.inr (.inr ⟨a, rfl, sV h1.sq⟩)))
 | tc xs => cases h; obtain ⟨a, vs, rfl, h1, _⟩ := r; exact .inr (.inr (.inr (.inr ⟨a, rfl, Dm h1⟩)))
 | cel n =>
  obtain ⟨a, rfl, h1⟩ := r;have h : (match S[n]? with | some (.lst _) => some "list" | some (.dct _) => some "dict" | some (.lv _) => some "list" | _ => none) = some _ := h
  split at h
  ·rename_i q
   cases h;obtain ⟨vs, h2, _⟩ := I.ok n _ a q h1;exact .inr (.inr (.inr (.inr ⟨a, rfl, sV (SqL.of h2)⟩)))
  ·rename_i q
   cases h;obtain ⟨vs, h2, _⟩ := I.ok n _ a q h1;exact .inr (.inr (.inr (.inr ⟨a, rfl, by decide, .base (.dK h2)⟩)))
  ·rename_i q
   cases h;obtain ⟨vs, h2, _⟩ := I.ok n _ a q h1;exact .inr (.inr (.inr (.inr ⟨a, rfl, sV (SqL.of h2)⟩)))
  ·cases h
theorem s_isi {T : String} (hT : T ∈ targets) : Fg K (Kn K T) (fIsi T) := fun {W σ B φ S H x d Q} I r f => by
 unfold fIsi at f;have h6 : T = "int" \/ T = "bool" \/ T = "str" \/ T = "list" \/ T = "tuple" \/ T = "dict" := by simpa [targets] using hT
 split at f
 ·rename_i n h
  have q : ∀ b, b = isTy T n -> Q (.bl b) H := fun b e => by rw [e]; exact Fin.now f I rfl
  rcases yE I r h with ⟨rfl, rfl⟩ | ⟨b, rfl, rfl⟩ | ⟨b, rfl, rfl⟩ | ⟨b, rfl, rfl⟩ | ⟨a, rfl, hk⟩
  ·exact q false (by rcases h6 with e | e | e | e | e | e <;> subst e <;> decide)
  ·exact q _ (by rcases h6 with e | e | e | e | e | e <;> subst e <;> decide)
  ·exact q _ (by rcases h6 with e | e | e | e | e | e <;> subst e <;> decide)
  ·exact q _ (by rcases h6 with e | e | e | e | e | e <;> subst e <;> decide)
  ·have h3 : n = "list" \/ n = "tuple" \/ n = "dict" := by simpa using hk.1
   exact ⟨n, hk, q _ (by rcases h6 with e | e | e | e | e | e <;> rcases h3 with e' | e' | e' <;> subst e <;> subst e' <;> decide)⟩
 ·exact f.elim
theorem fC {T : String} (hm : X.mg "isinstance" = none) (hmT : X.mg y = none) (ha : PE X a (cC X.K W ma)) (hT : T ∈ targets := by decide) (hv : bootBuiltins y = some (.type T) := by decide +kernel)
  (hg : Gl X "isinstance" := by rfl) (hgT : Gl X y := by rfl) (hn : y ≠ "__name__" := by decide) (hd : (y == ("__debug__" : Str)) = false := by decide) (hs : starEach [a, .Name y q] X.env = (false, eval a X.env) :: starEach [.Name y q] X.env := by rfl) :
  PE X (.Call (.Name "isinstance" p) [a, .Name y q] [] pos) (cC X.K W (m1 (fIsi T) ma)) := cP (e_isi hm hmT ha hT hv hg hgT hn hd hs) fun σ H Q h => Ik (s_isi hT) h
def fIsi2 (T U : String) (x : Vl) (S : aJ) : Res Vl := match kindOf S x with
 | some n => .ok (.dat (.bl (isTy T n || isTy U n))) S
 | none => .stuck
theorem OT {T U : String} (hT : T ∈ targets) (hU : U ∈ targets) {x : V} {d : Vl} (I : GInv K B φ S H) (r : RepV K B φ S H d x) (f : Fin K W σ (RepV K) B φ S H (fIsi2 T U d S) Q) {tp : Addr} {H' : Hp} (ntp : H tp = none) (hH : H' = upd H tp (.tup [.ty T, .ty U])) : OE K T U x H' fun b => Q (.bl b) H' := by
 unfold fIsi2 at f;split at f
 ·rename_i n h
  have X1 := Ext.new (o := .tup [.ty T, .ty U]) I ntp;have I1 := I.new (o := .tup [.ty T, .ty U]) ntp;have hq : Q (.bl (isTy T n || isTy U n)) H' := by subst hH; exact f φ _ _ I1 X1 rfl
  have r' : RepV K B φ S H' d x := by subst hH; exact r.ext X1 I
  rcases yE I r h with ⟨rfl, rfl⟩ | ⟨b, rfl, rfl⟩ | ⟨b, rfl, rfl⟩ | ⟨b, rfl, rfl⟩ | ⟨a, rfl, hk⟩
  ·have : ∀ T ∈ targets, isTy T "NoneType" = false := by decide
   rw [this T hT, this U hU] at hq;exact hq
  ·exact hq
  ·exact hq
  ·exact hq
  ·have I1' : GInv K B φ S H' := by subst hH; exact I1
   rcases yE I1' r' h with ⟨z, _⟩ | ⟨b, z, _⟩ | ⟨b, z, _⟩ | ⟨b, z, _⟩ | ⟨a', z, hk'⟩ <;> cases z
   exact ⟨n, hk', hq⟩
 ·exact f.elim
theorem KW {q1 q2 tpos : Pos} {j : Nat} {T U : String} (hm : X.mg "isinstance" = none) (hmT : X.mg y = none) (hmU : X.mg z = none) (ha : PE X a (cC X.K W ma)) (hT : T ∈ targets := by decide) (hU : U ∈ targets := by decide)
  (hv : bootBuiltins y = some (.type T) := by decide +kernel) (hw : bootBuiltins z = some (.type U) := by decide +kernel) (hg : Gl X "isinstance" := by rfl) (hgT : Gl X y := by rfl) (hgU : Gl X z := by rfl) (hn : y ≠ "__name__" := by decide) (hd : (y == ("__debug__" : Str)) = false := by decide) (hn2 : z ≠ "__name__" := by decide) (hd2 : (z == ("__debug__" : Str)) = false := by decide)
  (hs : starEach [a, .Tuple [.Name y q1, .Name z q2] j tpos] X.env = (false, eval a X.env) :: starEach [.Tuple [.Name y q1, .Name z q2] j tpos] X.env := by rfl) :
  PE X (.Call (.Name "isinstance" p) [a, .Tuple [.Name y q1, .Name z q2] j tpos] [] pos) (cC X.K W (m1 (fIsi2 T U) ma)) :=
 cP (Q8 hm hmT hmU ha hT hU hv hw hg hgT hgU hn hd hn2 hd2 hs) fun σ H Q h => bP (k := fun x _ S => fIsi2 T U x S) h fun B φ S ρ d v H1 I E r f => by
  show _ /\ _
  exact ⟨(by show 2 <= sizeLine; decide), fun tp htp => ⟨upd_same, OT hT hU I r f htp rfl⟩⟩
def cutD (xs : List D) (lo hi : Option Int) : List D := (xs.drop (HT.sIx xs.length 0 lo)).take (HT.sIx xs.length xs.length hi - HT.sIx xs.length 0 lo)
theorem RepL.cut {Bk : Addr -> Prop} {ds : List D} {vs : List V} {lo hi : Option Int} (h : RepL K Bk H ds vs) : RepL K Bk H (cutD ds lo hi) (cutV vs lo hi) := by
 unfold cutD cutV;rw [h.len];exact (h.drop _).take _
def BI (cl : Bool) (x : Vl) (lo hi : Option Int) (S : aJ) : Res Vl := match x with
 | .dat (.tup xs) => .ok (.dat (.tup (cutD xs lo hi))) S
 | .dat (.str z) => if z.length <= sizeLine then .ok (.dat (.str (cutS z lo hi))) S else .stuck
 | .scr ns => newL cl (cutD (ns.map D.int) lo hi) S
 | x => match nJ S x with
  | some xs => newL cl (cutD xs lo hi) S
  | none => .stuck
def zX : FO := fun _ S => .ok none S
def gH (a : FE) : FO := fun ρ S => (a ρ S).bind fun x S1 => match x with
 | .dat (.int i) => .ok (some i) S1
 | _ => .stuck
theorem Kz {e : Option Expr} {t u : TO} (h : PO X e t) (i : ∀ σ H Q, u σ H Q -> t σ H Q) : PO X e u := ⟨fun pins s σ H Q I q => h.run pins s σ H Q I (i σ H Q q)⟩
theorem rB : PO X none (rdO X.K W zX) := Kz po_none fun σ H Q h => by
 obtain ⟨B, φ, S, ρ, I, E, f⟩ := h;exact Fin.now (v := none) f I rfl
theorem gS (ha : PE X a (cC X.K W ma)) : PO X (some a) (rdO X.K W (gH ma)) := Kz (J9 ha) fun σ H Q h =>
 bP (k := fun x _ S1 => match x with | .dat (.int i) => .ok (some i) S1 | _ => .stuck) h fun B φ S ρ d v H1 I E r f => by
  split at f
  ·cases r; exact Fin.now f I rfl
  ·exact f.elim
theorem xY {Bk : Addr -> Prop} : ∀ ns : List Int, RepL K Bk H (ns.map D.int) (ns.map V.int)
 | [] => rfl
 | n :: ns => ⟨_, _, rfl, rfl, xY ns⟩
theorem Hy {xs : List D} {lo hi : Option Int} (h : HT.sIx xs.length 0 lo = 0 /\ HT.sIx xs.length xs.length hi = xs.length) : cutD xs lo hi = xs := by
 unfold cutD;rw [h.1, h.2];simp
def Ca (cl : Bool) (a : FE) (l h : FO) : FE := fun ρ S => (a ρ S).bind fun x S1 => (l ρ S1).bind fun lo S2 => (h ρ S2).bind fun hi S3 => BI cl x lo hi S3
theorem Ao {cl : Bool} {lo hi : Option Expr} {ml mh : FO} (ha : PE X a (cC X.K W ma)) (hl : PO X lo (rdO X.K W ml)) (hh : PO X hi (rdO X.K W mh)) : PE X (.Subscript a (.Slice lo hi none p2) pos) (cC X.K W (Ca cl ma ml mh)) := cP (pe_slice sl_C ha hl hh) fun σ H Q h =>
 bP (k := fun x ρ S1 => (ml ρ S1).bind fun lo S2 => (mh ρ S2).bind fun hi S3 => BI cl x lo hi S3) h fun B φ S ρ d v H1 I E r f => gY I E f fun φ1 S1 d1 v1 H2 I1 X1 E1 r1 f1 => gY I1 E1 f1 fun φ2 S2 d2 v2 H3 I2 X2 E2 r2 f2 => by
  cases r1;cases r2
  replace r := (r.ext X1 I).ext X2 I1
  unfold BI at f2;split at f2
  ·rename_i xs
   obtain ⟨a, vs, rfl, h1, l1⟩ := r;refine rW ⟨vs, h1, fun hw => ?_, fun hw p hp => Fin.newT f2 I2 l1.cut hp⟩
   rw [l1.len] at hw;have e := Hy (xs := xs) hw;rw [e] at f2;exact Fin.now f2 I2 ⟨a, vs, rfl, h1, l1⟩
  ·cases r
   split at f2
   ·rename_i hz; exact ⟨hz, Fin.now f2 I2 rfl⟩
   ·exact f2.elim
  ·obtain ⟨a, rfl, h1⟩ := r
   exact xO ⟨_, h1.sq, fun p hp => Fin.newL f2 I2 (xY _).cut hp⟩
  ·split at f2
   ·rename_i xs q1
    obtain ⟨a, vs, rfl, h1, l1⟩ := mR I2 q1 r;exact xO ⟨vs, SqL.of h1, fun p hp => Fin.newL f2 I2 l1.cut hp⟩
   ·exact f2.elim
def M0 (a : FE) : FE := fun ρ S => (a ρ S).bind fun x S1 => match x with
 | .cel n => (match S1[n]? with
  | some (.lst ds) => .ok (.dat (.lst ds)) (S1.set n .dead)
  | _ => .stuck)
 | _ => .stuck
theorem OA (ha : PE X a (cC X.K W ma)) : PE X a (cC X.K W (M0 ma)) := cP ha fun σ H Q h =>
 bP (k := fun x _ S1 => match x with | .cel n => (match S1[n]? with | some (Cell.lst ds) => Res.ok (Vl.dat (D.lst ds)) (S1.set n Cell.dead) | _ => Res.stuck) | _ => Res.stuck) h fun B φ S ρ d v H1 I E r f => by
  split at f
  ·rename_i n
   obtain ⟨a, rfl, h1⟩ := r;split at f
   ·rename_i ds q
    obtain ⟨vs, h2, l⟩ := I.ok n _ a q h1;have X1 := Ext.kill (φ := φ) (S := S) (H := H1) (n := n);exact f φ _ H1 I.kill X1 ⟨a, vs, rfl, I.killed q (by simp) h1, h2, X1.repL I l⟩
   ·exact f.elim
  ·exact f.elim
def Nl (a : FE) (r : FA) : FA := fun ρ S => (a ρ S).bind fun x S1 => match (match x with | .dat (.tup xs) => some xs | x => nJ S1 x) with
 | some xs => (r ρ S1).bind fun ys S2 => .ok (xs.map Vl.dat ++ ys) S2
 | none => .stuck
end
inductive Out where
 | next (ρ : Ev) (S : aJ) | ret (d : Vl) (S : aJ) | brk (ρ : Ev) (S : aJ) | cnt (ρ : Ev) (S : aJ) | err (e : Er) (ρ : Ev) (S : aJ) | stuck
abbrev FS := Ev -> aJ -> Out
def Res.toS {α : Type} (r : Res α) (ρ : Ev) (k : α -> aJ -> Out) : Out := match r with
 | .ok a S => k a S
 | .err e S => .err e ρ S
 | .stuck => .stuck
def FinS (K : aA) (W : WX) (D : Ends) (B : Addr -> Prop) (φ : List Addr) (S : aJ) (H : Hp) (o : Out) : Prop := match o with
 | .next ρ' S' => ∀ φ' σ' H', GInv K B φ' S' H' -> Ext φ S H φ' S' H' -> RepE K B φ' S' H' ρ' σ' -> D.nx σ' H'
 | .ret d S' => ∀ φ' v H', GInv K B φ' S' H' -> Ext φ S H φ' S' H' -> RepV K B φ' S' H' d v -> D.rt v H'
 | .brk ρ' S' => ∀ φ' σ' H', GInv K B φ' S' H' -> Ext φ S H φ' S' H' -> RepE K B φ' S' H' ρ' σ' -> D.bk σ' H'
 | .cnt ρ' S' => ∀ φ' σ' H', GInv K B φ' S' H' -> Ext φ S H φ' S' H' -> RepE K B φ' S' H' ρ' σ' -> D.ct σ' H'
 | .err e ρ' S' => ∀ φ' σ' c x H', GInv K B φ' S' H' -> Ext φ S H φ' S' H' -> RepE K B φ' S' H' ρ' σ' -> RepX K B φ' S' H' e c x -> W c x σ' H'
 | .stuck => False
def jL (K : aA) (W : WX) (m : FS) : TS := fun D σ H => ∃ B φ S ρ, GInv K B φ S H /\ RepE K B φ S H ρ σ /\ FinS K W D B φ S H (m ρ S)
section
variable {X : Cx} {W : WX} {e a b c : Expr} {es rest : List Expr} {pos p q p2 : Pos} {x y z : Str} {K : aA} {ma mb mc : FE} {mt mu : FT} {mas : FA} {B : Addr -> Prop} {φ φ' : List Addr} {S S' : aJ} {H H' : Hp} {σ : L2.St} {Q : VK} {m n : FS} {st : Stmt} {BD : List Stmt} {D : Ends}
theorem fD {t u : TS} (h : PS X st t) (i : ∀ D σ H, u D σ H -> t D σ H) : PS X st u := ⟨fun pins s σ H D I q => h.run pins s σ H D I (i D σ H q)⟩
theorem DA {t u : TS} (h : PSs X BD t) (i : ∀ D σ H, u D σ H -> t D σ H) : PSs X BD u := ⟨fun pins s σ H D I q => h.run pins s σ H D I (i D σ H q)⟩
theorem FinS.ext {o : Out} (f : FinS K W D B φ S H o) (e : Ext φ S H φ' S' H') : FinS K W D B φ' S' H' o := by
 cases o with
 | next ρ S1 => exact fun φ1 v H1 I1 X r => f φ1 v H1 I1 (e.trans X) r
 | ret d S1 => exact fun φ1 v H1 I1 X r => f φ1 v H1 I1 (e.trans X) r
 | brk ρ S1 => exact fun φ1 v H1 I1 X r => f φ1 v H1 I1 (e.trans X) r
 | cnt ρ S1 => exact fun φ1 v H1 I1 X r => f φ1 v H1 I1 (e.trans X) r
 | err x ρ S1 => exact fun φ1 σ1 c x H1 I1 X r => f φ1 σ1 c x H1 I1 (e.trans X) r
 | stuck => exact f
theorem bT {α β : Type} {R : Rl α β} {ρ : Ev} {m : Ev -> aJ -> Res α} {k : α -> aJ -> Out} {Q1 : β -> Hp -> Prop} (I : GInv K B φ S H) (E : RepE K B φ S H ρ σ) (f : FinS K W D B φ S H ((m ρ S).toS ρ k))
  (hk : ∀ φ' S' d v H1, GInv K B φ' S' H1 -> Ext φ S H φ' S' H1 -> RepE K B φ' S' H1 ρ σ -> R B φ' S' H1 d v -> FinS K W D B φ' S' H1 (k d S') -> Q1 v H1) : rd K W R m σ H Q1 := by
 refine ⟨B, φ, S, ρ, I, E, ?_⟩
 cases e : m ρ S with
 | stuck => rw [e] at f; exact f
 | err x S' =>
  rw [e] at f;exact fun φ' c d H' I' X r => f φ' σ c d H' I' X (E.ext X I) r
 | ok d S' =>
  rw [e] at f;exact fun φ' v H' I' X r => hk φ' S' d v H' I' X (E.ext X I) r (FinS.ext f X)
def aR (m n : FS) : FS := fun ρ S => match m ρ S with
 | .next ρ' S' => n ρ' S'
 | o => o
def bK : FS := fun ρ S => .next ρ S
def bU (a : FE) : FS := fun ρ S => (a ρ S).toS ρ fun d S1 => .ret d S1
def cH (a : FE) : FS := fun ρ S => (a ρ S).toS ρ fun _ S1 => .next ρ S1
def bS (t : FT) (m n : FS) : FS := fun ρ S => (t ρ S).toS ρ fun c S1 => if c = true then m ρ S1 else n ρ S1
theorem LR (h : jL K W (aR m n) D σ H) : tSeq (jL K W m) (jL K W n) D σ H := by
 obtain ⟨B, φ, S, ρ, I, E, f⟩ := h;refine ⟨B, φ, S, ρ, I, E, ?_⟩
 unfold aR at f;cases e : m ρ S with
 | next ρ' S' =>
  rw [e] at f;exact fun φ' σ' H' I' X r => ⟨B, φ', S', ρ', I', r, FinS.ext f X⟩
 | ret d S' => rw [e] at f; exact f
 | brk d S' => rw [e] at f; exact f
 | cnt d S' => rw [e] at f; exact f
 | err x d S' => rw [e] at f; exact f
 | stuck => rw [e] at f; exact f
theorem aV : PSs X [] (jL X.K W bK) := DA pss_nil fun D σ H h => by
 obtain ⟨B, φ, S, ρ, I, E, f⟩ := h;exact f φ σ H I Ext.refl E
theorem aG (h : PS X st (jL X.K W m)) : PSs X [st] (jL X.K W m) := pss_one h
theorem aF (h : PS X st (jL X.K W m)) (hr : PSs X BD (jL X.K W n)) : PSs X (st :: BD) (jL X.K W (aR m n)) := DA (pss_cons h hr) fun D σ H h => LR h
theorem aX (ha : PE X a (cC X.K W ma)) : PS X (.Return (some a) pos) (jL X.K W (bU ma)) := fD (ps_ret ha) fun D σ H h => by
 obtain ⟨B, φ, S, ρ, I, E, f⟩ := h;exact bT I E f fun φ' S' d v H1 I1 X1 E1 r f1 => f1 φ' v H1 I1 Ext.refl r
theorem N0 : PS X (.Return none pos) (jL X.K W (bU (mC .non))) := fD ps_retN fun D σ H h => by
 obtain ⟨B, φ, S, ρ, I, E, f⟩ := h;exact f φ _ H I Ext.refl rfl
theorem bY (ha : PE X a (cC X.K W ma)) (hs : swapsWith a none pos.line X.env = pure false := by rfl) : PS X (.Expr a pos) (jL X.K W (cH ma)) := fD (ps_expr ha hs) fun D σ H h => by
 obtain ⟨B, φ, S, ρ, I, E, f⟩ := h;exact bT I E f fun φ' S' d v H1 I1 X1 E1 r f1 => f1 φ' σ H1 I1 Ext.refl E1
theorem bE {s1 s2 : List Stmt} (ht : PT X c (xR X.K W mt)) (ha : PSs X s1 (jL X.K W m)) (hb : PSs X s2 (jL X.K W n)) : PS X (.If c s1 s2 pos) (jL X.K W (bS mt m n)) := fD (ps_if ht ha hb) fun D σ H h => by
 obtain ⟨B, φ, S, ρ, I, E, f⟩ := h;refine bT I E f fun φ' S' d v H1 I1 X1 E1 r f1 => ?_
 have r : v = d := r;subst r;cases v with
 | true => exact ⟨B, φ', S', ρ, I1, E1, f1⟩
 | false => exact ⟨B, φ', S', ρ, I1, E1, f1⟩
inductive Tg where
 | nm (i : Nat) | tp (is : List Nat) | tn (i : Nat) (is : List Nat)
def Cu : List Nat -> TGs
 | [] => gNil
 | i :: r => gCons (gName i) (Cu r)
def L8 (K : aA) : Tg -> TG
 | .nm i => gName i
 | .tp is => gTup K is.length (Cu is)
 | .tn i is => gTup K 2 (gCons (gName i) (gCons (gTup K is.length (Cu is)) gNil))
def putAll : List Nat -> List L2.V -> L2.St -> L2.St
 | i :: r, v :: vs, σ => putAll r vs (σ.set i (some v))
 | _, _, σ => σ
def jR : List Nat -> List PH.D -> Ev -> Ev
 | i :: r, v :: vs, σ => jR r vs (σ.set i (some (.dat v)))
 | _, _, σ => σ
def rV : Tg -> Vl -> Ev -> Option Ev
 | .nm i, d, ρ => some (ρ.set i (some d))
 | .tp is, .dat (.tup ds), ρ => if ds.length = is.length then some (jR is ds ρ) else none
 | .tp _, _, _ => none
 | .tn i is, .dat (.tup [d, .tup ds]), ρ => if ds.length = is.length then some (jR is ds (ρ.set i (some (.dat d)))) else none
 | .tn _ _, _, _ => none
def ON : Tg -> List Nat
 | .nm i => [i]
 | .tp is => is
 | .tn i is => i :: is
theorem yH {Q : L2.St -> Hp -> Prop} : ∀ {is : List Nat} {vs : List L2.V} {σ : L2.St} {H : Hp}, vs.length = is.length -> Q (putAll is vs σ) H -> Cu is vs σ H Q
 | [], [], σ, H, _, q => ⟨rfl, q⟩
 | i :: is, v :: vs, σ, H, h, q => ⟨v, vs, rfl, yH (is := is) (by simpa using h) q⟩
 | [], _ :: _, _, _, h, _ => by simp at h
 | _ :: _, [], _, _, h, _ => by simp at h
theorem AR : ∀ {is : List Nat} {ds : List PH.D} {vs : List L2.V} {ρ : Ev} {σ : L2.St}, RepL K (lI B φ S) H ds vs -> RepE K B φ S H ρ σ -> RepE K B φ S H (jR is ds ρ) (putAll is vs σ)
 | [], ds, vs, ρ, σ, h, E => by cases ds <;> cases vs <;> exact E
 | i :: is, [], vs, ρ, σ, h, E => by cases h; exact E
 | i :: is, d :: ds, vs, ρ, σ, ⟨v, ws, e, h1, h2⟩, E => by subst e; exact AR (is := is) h2 (E.set (d := .dat d) h1 i)
def OP : Tg -> L2.V -> List L2.V -> L2.St -> L2.St
 | .nm i, v, _, σ => σ.set i (some v)
 | .tp is, _, vs, σ => putAll is vs σ
 | .tn i is, _, v :: vs, σ => putAll is vs (σ.set i (some v))
 | .tn _ _, _, [], σ => σ
theorem CD {t : Tg} {d : Vl} {v : L2.V} {ρ ρ' : Ev} {Q : L2.St -> Hp -> Prop} (E : RepE K B φ S H ρ σ) (r : RepV K B φ S H d v) (h : rV t d ρ = some ρ') (q : ∀ vs, RepE K B φ S H ρ' (OP t v vs σ) -> Q (OP t v vs σ) H) : L8 K t v σ H Q := by
 cases t with
 | nm i => cases h; exact q [] (E.set r i)
 | tp is =>
  cases d with
  | dat d =>
   cases d with
   | tup ds =>
    have h : (if ds.length = is.length then some (jR is ds ρ) else none) = some ρ' := h
    split at h
    ·rename_i hl
     cases h;obtain ⟨a, vs, rfl, h1, l⟩ := r;exact ⟨a, vs, rfl, h1, by rw [l.len, hl], yH (by rw [l.len, hl]) (q vs (AR l E))⟩
    ·cases h
   | _ => cases h
  | _ => cases h
 | tn i is =>
  cases d with
  | dat d =>
   cases d with
   | tup xs =>
    cases xs with
    | nil => cases h
    | cons d0 xs =>
     cases xs with
     | nil => cases h
     | cons d1 xs =>
      cases xs with
      | cons _ _ => cases d1 <;> cases h
      | nil =>
       cases d1 with
       | tup ds =>
        have h : (if ds.length = is.length then some (jR is ds (ρ.set i (some (.dat d0)))) else none) = some ρ' := h
        split at h
        ·rename_i hl
         cases h;obtain ⟨a, vs, rfl, h1, v0, ws, rfl, r0, v1, us, rfl, ⟨b, zs, rfl, h2, l⟩, rfl⟩ := r;refine ⟨a, [v0, .ref b], rfl, h1, rfl, v0, _, rfl, .ref b, _, rfl, b, zs, rfl, h2, by rw [l.len, hl], ?_⟩
         refine yH (Q := fun σ' H' => gNil [] σ' H' Q) (by rw [l.len, hl]) ⟨rfl, ?_⟩
         exact q (v0 :: zs) (AR l (E.set (d := .dat d0) r0 i))
        ·cases h
       | _ => cases h
   | _ => cases h
  | _ => cases h
def cF (a : FE) (t : Tg) : FS := fun ρ S => (a ρ S).toS ρ fun d S1 => match rV t d ρ with
 | some ρ' => .next ρ' S1
 | none => .stuck
theorem Fx {t : Tg} (h : jL K W (cF ma t) D σ H) : tAsg (cC K W ma) (L8 K t) D σ H := by
 obtain ⟨B, φ, S, ρ, I, E, f⟩ := h;refine bT I E f fun φ' S' d v H1 I1 X1 E1 r f1 => ?_
 split at f1
 ·rename_i ρ' q
  exact CD E1 r q fun vs E2 => f1 φ' _ H1 I1 Ext.refl E2
 ·exact f1.elim
theorem yJ {tg e : Expr} {t : Tg} (he : PE X e (cC X.K W ma)) (hg : PG X tg (L8 X.K t)) (hs : swapsWithSole [tg] e pos.line X.env = pure false := by rfl) (hw : swappedStores [tg] e X.env = pure none := by rfl)
  (h1 : (assignEach [tg] X.env).map (·.2) = [assign tg X.env] := by rfl) : PS X (.Assign [tg] e pos) (jL X.K W (cF ma t)) := fD (ps_asg he hg hs hw h1) fun D σ H h => Fx h
theorem cG {i : Nat} {x : Str} {e : Expr} {pos' : Pos} (hN : X.N.Nodup) (hi : X.N[i]? = some x) (hx : Loc X.env.scope x) (he : PE X e (cC X.K W ma)) (hs : swapsWith e (some (.Name x pos')) pos.line X.env = pure false := by rfl) (hf : X.fn x = true \/ X.env.scope.names.lookup x = some .local := by first | exact .inl rfl | exact .inr rfl | assumption) :
  PS X (.Assign [.Name x pos'] e pos) (jL X.K W (cF ma (.nm i))) := fD (ps_set hN hi hx he hs hf) fun D σ H h => Fx (t := .nm i) h
def wipeE (ρ : Ev) : List Nat -> Ev
 | [] => ρ
 | v :: vs => (wipeE ρ vs).set v none
theorem RepE.wipeE {ρ : Ev} (E : RepE K B φ S H ρ σ) : ∀ is : List Nat, RepE K B φ S H (wipeE ρ is) σ
 | [] => E
 | i :: is => (RepE.wipeE E is).forget i
def jK (is : List Nat) (m : FS) : FS := fun ρ S => match m ρ S with
 | .next ρ' S' => .next (wipeE ρ' is) S'
 | .cnt ρ' S' => .cnt (wipeE ρ' is) S'
 | .brk ρ' S' => .brk (wipeE ρ' is) S'
 | o => o
theorem Ic {is : List Nat} (h : jL K W (jK is m) D σ H) : jL K W m D σ H := by
 obtain ⟨B, φ, S, ρ, I, E, f⟩ := h;refine ⟨B, φ, S, ρ, I, E, ?_⟩
 unfold jK at f;cases e : m ρ S with
 | next ρ' S' => rw [e] at f; exact fun φ' σ' H' I' X r => f φ' σ' H' I' X (r.wipeE is)
 | ret d S' => rw [e] at f; exact f
 | brk ρ' S' => rw [e] at f; exact fun φ' σ' H' I' X r => f φ' σ' H' I' X (r.wipeE is)
 | cnt ρ' S' => rw [e] at f; exact fun φ' σ' H' I' X r => f φ' σ' H' I' X (r.wipeE is)
 | err x d S' => rw [e] at f; exact f
 | stuck => rw [e] at f; exact f
theorem nU (is : List Nat) (h : PSs X BD (jL X.K W m)) : PSs X BD (jL X.K W (jK is m)) := DA h fun D σ H h => Ic h
abbrev FI := Ev -> aJ -> Res (List PH.D)
def L3 (K : aA) (B : Addr -> Prop) (φ : List Addr) (S : aJ) (H : Hp) (J : It) (ds : List PH.D) : Prop := ∀ φ1 S1 H1 B1, GInv K B1 φ1 S1 H1 -> Kp (lI B φ S) H (lI B1 φ1 S1) H1 ->
 (∀ i, i < ds.length -> J.go i H1) /\ J.stop ds.length H1 /\ ∀ i x H2 d, ds[i]? = some d -> J.yld i H1 x H2 -> GInv K B1 φ1 S1 H2 /\ Ext φ1 S1 H1 φ1 S1 H2 /\ Rep K (lI B1 φ1 S1) H2 d x
def RI (K : aA) : Rl (List PH.D) It := fun B φ S H ds J => L3 K B φ S H J ds
abbrev LB (K : aA) (W : WX) (m : FI) : TI := rd K W (RI K) m
theorem Fh {tg iter : Expr} {t u : TI} (h : PI X tg iter t) (i : ∀ σ H R, u σ H R -> t σ H R) : PI X tg iter u := ⟨fun pins s σ H R I q => h.run pins s σ H R I (i σ H R q)⟩
theorem Ext.kpB {B1 : Addr -> Prop} {φ1 : List Addr} {S1 : aJ} {H1 : Hp} (h1 : ∀ a, B a -> B1 a) (h2 : ∀ a, H a ≠ none -> B1 a -> B a) (I : GInv K B φ S H) (x : Ext φ S H φ1 S1 H1) : Kp (lI B φ S) H (lI B1 φ1 S1) H1 where
 old := fun b o h n => by
  obtain ⟨h3, h4⟩ := x.old b o h (fun q => n (.inr q))
  exact ⟨h3, fun q => by
   rcases q with q | q
   ·exact n (.inl (h2 b (by rw [h]; simp) q))
   ·exact h4 q⟩
 tup := (x.kp I).tup
theorem MD {v : L2.V} {ds : List PH.D} (I : GInv K B φ S H) (r : Rep K (lI B φ S) H (.lst ds) v) : ∃ a, v = .ref a /\ (∃ xs, SqL K H a xs) /\ L3 K B φ S H (Itl K a) ds := by
 obtain ⟨a, vs, rfl, nb, h1, l⟩ := r;refine ⟨a, rfl, ⟨vs, SqL.of h1⟩, fun φ1 S1 H1 B1 I1 X1 => ?_⟩
 have h2 := (X1.old a _ h1 nb).1;have l2 := RepL.kp X1 ds vs l;have hl := l.len;refine ⟨fun i hi => ⟨vs, vs[i], SqL.of h2, by simp [hl, hi]⟩, ⟨vs, SqL.of h2, by omega⟩, fun i x H2 d hd y => ?_⟩
 obtain ⟨rfl, y⟩ := y;obtain ⟨v', h3, h4⟩ := l2.get hd;rw [y vs (SqL.of h2)] at h3;cases h3;exact ⟨I1, Ext.refl, h4⟩
theorem P8 {v : L2.V} {ds : List PH.D} (I : GInv K B φ S H) (r : Rep K (lI B φ S) H (.tup ds) v) : ∃ a, v = .ref a /\ (∃ xs, SqT K H a xs) /\ L3 K B φ S H (Itt K a) ds := by
 obtain ⟨a, vs, rfl, h1, l⟩ := r;refine ⟨a, rfl, ⟨vs, h1⟩, fun φ1 S1 H1 B1 I1 X1 => ?_⟩
 have h2 : SqT K H1 a vs := SqT.kp X1.tup h1;have l2 := RepL.kp X1 ds vs l;have hl := l.len;refine ⟨fun i hi => ⟨vs, vs[i], h2, by simp [hl, hi]⟩, ⟨vs, h2, by omega⟩, fun i x H2 d hd y => ?_⟩
 obtain ⟨rfl, y⟩ := y;obtain ⟨v', h3, h4⟩ := l2.get hd;rw [y vs h2] at h3;cases h3;exact ⟨I1, Ext.refl, h4⟩
def itemsOf : Vl -> aJ -> Res (List PH.D)
 | .dat (.lst ds), S => .ok ds S
 | .dat (.tup ds), S => .ok ds S
 | _, _ => .stuck
def pV (a : FE) : FI := fun ρ S => (a ρ S).bind itemsOf
theorem rC {tg : Expr} (ha : PE X a (cC X.K W ma)) : PI X tg a (LB X.K W (pV ma)) := Fh (OY ha) fun σ H R h =>
 bP (k := fun x _ S => itemsOf x S) h fun B φ S ρ d v H1 I E r f => by
  unfold itemsOf at f;split at f
  ·obtain ⟨a, rfl, h1, h2⟩ := MD I r
   exact xO ⟨h1, Fin.now f I h2⟩
  ·obtain ⟨a, rfl, h1, h2⟩ := P8 I r
   exact rW ⟨h1, Fin.now f I h2⟩
  ·exact f.elim
def iB (lo : Int) (n : Nat) : List PH.D := (aO n).map fun (k : Nat) => PH.D.int (lo + (k : Int))
theorem P9 {lo : Int} {n : Nat} : L3 K B φ S H (Itr lo n) (iB lo n) := fun φ1 S1 H1 B1 I1 X1 => by
 refine ⟨fun i hi => by show i < n; simpa [iB] using hi, by show n <= _; simp [iB], fun i x H2 d hd y => ?_⟩
 obtain ⟨rfl, rfl⟩ := y;have : d = .int (lo + (i : Int)) := by
  unfold iB at hd;rw [bG] at hd;cases q : (aO n)[i]? with
  | none => rw [q] at hd; cases hd
  | some k =>
   rw [q] at hd;have := aH.mp q;obtain ⟨_, e⟩ := this;simp at e;subst e;cases hd;rfl
 subst this;exact ⟨I1, Ext.refl, rfl⟩
def jS (a : FE) : FI := fun ρ S => (a ρ S).bind fun x S1 => match x with
 | .dat (.int j) => if -(2 ^ 62) <= j /\ j < 2 ^ 62 then .ok (iB 0 j.toNat) S1 else .stuck
 | _ => .stuck
theorem wO {tg : Expr} (hg : Gl X "range") (hm : X.mg "range" = none) (ha : PE X a (cC X.K W ma)) (hs : starEach [a] X.env = [(false, eval a X.env)] := by rfl) : PI X tg (.Call (.Name "range" p) [a] [] pos) (LB X.K W (jS ma)) := Fh (pi_range1 hg hm (pa_cons ha pa_nil hs) hs) fun σ H R h =>
 bP (k := fun x _ S1 => match x with | Vl.dat (PH.D.int j) => if -(2 ^ 62) <= j /\ j < 2 ^ 62 then Res.ok (iB 0 j.toNat) S1 else .stuck | _ => .stuck) h fun B φ S ρ d v H1 I E r f => by
  split at f
  ·rename_i j
   cases r;split at f
   ·rename_i hj
    exact ⟨j, rfl, hj.1, hj.2, Fin.now f I P9⟩
   ·exact f.elim
  ·exact f.elim
def dH : Nat -> List PH.D -> List PH.D
 | _, [] => []
 | n, d :: r => .tup [.int (n : Nat), d] :: dH (n + 1) r
theorem By : ∀ (n : Nat) (ds : List PH.D), (dH n ds).length = ds.length
 | _, [] => rfl
 | n, d :: r => by simp [dH, By (n + 1) r]
theorem Bz : ∀ (n : Nat) (ds : List PH.D) (i : Nat), (dH n ds)[i]? = (ds[i]?).map fun d => PH.D.tup [.int ((n + i : Nat) : Int), d]
 | n, [], i => by simp [dH]
 | n, d :: r, 0 => by simp [dH]
 | n, d :: r, i + 1 => by
  simp only [dH, kK];rw [Bz (n + 1) r i, show n + 1 + i = n + (i + 1) by omega]
def Bc (a : FE) : FI := fun ρ S => (a ρ S).bind fun x S1 => match x with
 | .dat (.lst ds) => .ok (dH 0 ds) S1
 | _ => .stuck
theorem ME {a : Addr} {vs : List L2.V} {ds : List PH.D} (I : GInv K B φ S H) (nb : ¬ lI B φ S a) (h1 : H a = some (.lst vs)) (l : RepL K (lI B φ S) H ds vs) : L3 K B φ S H (Ite K a) (dH 0 ds) := fun φ1 S1 H1 B1 I1 X1 => by
 have h2 := (X1.old a _ h1 nb).1;have l2 := RepL.kp X1 ds vs l;have hl := l.len;rw [By];refine ⟨fun i hi => ⟨vs, vs[i], SqL.of h2, by simp [hl, hi]⟩, ⟨vs, SqL.of h2, by omega⟩, fun i x H2 d hd y => ?_⟩
 obtain ⟨T, x', rfl, nT, rfl, y⟩ := y;rw [Bz, pD] at hd;cases q : ds[i]? with
 | none => rw [q] at hd; cases hd
 | some d' =>
  rw [q] at hd;cases hd;obtain ⟨v', h3, h4⟩ := l2.get q;rw [y vs (SqL.of h2)] at h3;cases h3;have X2 := Ext.new (o := .tup [.int (i : Nat), x']) I1 nT;exact ⟨I1.new nT, X2, T, _, rfl, .inl (.inl upd_same), _, _, rfl, rfl, _, _, rfl, Rep.kp (X2.kp I1) _ _ h4, rfl⟩
theorem A9 {elts : List Expr} {kk : Nat} {tpos : Pos} (hg : Gl X "enumerate") (hm : X.mg "enumerate" = none) (ha : PE X a (cC X.K W ma)) (hs : starEach [a] X.env = [(false, eval a X.env)] := by rfl) : PI X (.Tuple elts kk tpos) (.Call (.Name "enumerate" p) [a] [] pos) (LB X.K W (Bc ma)) := Fh (pi_enum hg hm (pa_cons ha pa_nil hs) hs) fun σ H R h =>
 bP (k := fun x _ S1 => match x with | Vl.dat (PH.D.lst ds) => Res.ok (dH 0 ds) S1 | _ => .stuck) h fun B φ S ρ d v H1 I E r f => by
  split at f
  ·obtain ⟨a, vs, rfl, nb, h1, l⟩ := r
   exact ⟨a, vs, rfl, SqL.of h1, Fin.now f I (ME I nb h1 l)⟩
  ·exact f.elim
def Gk : List PH.D -> List PH.D -> List PH.D
 | a :: r, b :: s => .tup [a, b] :: Gk r s
 | _, _ => []
def Ly (a b : FE) : FI := fun ρ S => (a ρ S).bind fun x S1 => (b ρ S1).bind fun y S2 => match x, y with
 | .dat (.lst ds), .dat (.lst es) => .ok (Gk ds es) S2
 | _, _ => .stuck
end
section
variable {X : Cx} {W : WX} {e a b c : Expr} {es rest : List Expr} {pos p q p2 : Pos} {x y z : Str} {K : aA} {ma mb mc : FE} {mt mu : FT} {mas : FA} {mi : FI} {B : Addr -> Prop} {φ φ' : List Addr} {S S' : aJ} {H H' : Hp} {σ : L2.St} {Q : VK} {m n : FS} {st : Stmt} {BD : List Stmt} {D : Ends} {t : Tg}
def loop (t : Tg) (mb : FS) : List PH.D -> Ev -> aJ -> Out
 | [], ρ, S => .next ρ S
 | d :: r, ρ, S => match rV t (.dat d) ρ with
  | none => .stuck
  | some ρ1 => match mb ρ1 S with
   | .next ρ2 S2 => loop t mb r ρ2 S2
   | .cnt ρ2 S2 => loop t mb r ρ2 S2
   | .brk ρ2 S2 => .next ρ2 S2
   | .ret d S2 => .ret d S2
   | .err e ρ2 S2 => .err e ρ2 S2
   | .stuck => .stuck
def uB (mi : FI) (t : Tg) (mb : FS) : FS := fun ρ S => (mi ρ S).toS ρ fun ds S1 => loop t mb ds ρ S1
theorem LV (h : jL K W (uB mi t m) D σ H) : tFor (LB K W mi) (L8 K t) (jL K W m) D σ H := by
 obtain ⟨B, φ, S, ρ, I, E, f⟩ := h;refine bT I E f fun φ0 S0 ds J H0 I0 X0 E0 r f0 => ?_
 refine ⟨fun i k σ' H' => i <= ds.length /\ k = ds.length - i /\ ∃ φ1 S1 ρ1, GInv K B φ1 S1 H' /\ Ext φ0 S0 H0 φ1 S1 H' /\ RepE K B φ1 S1 H' ρ1 σ' /\ FinS K W D B φ1 S1 H' (loop t m (ds.drop i) ρ1 S1), ⟨_, vL _, rfl, φ0, S0, ρ, I0, Ext.refl, E0, f0⟩, ?_⟩
 rintro i k σ' H' ⟨hi, rfl, φ1, S1, ρ1, I1, X1, E1, f1⟩
 obtain ⟨hgo, hstop, hyld⟩ := r φ1 S1 H' B I1 (X1.kp I0)
 by_cases hlt : i < ds.length
 ·refine .inr ⟨hgo i hlt, fun σ2 H2 => i + 1 <= ds.length /\ ∃ φ2 S2 ρ2, GInv K B φ2 S2 H2 /\ Ext φ0 S0 H0 φ2 S2 H2 /\ RepE K B φ2 S2 H2 ρ2 σ2 /\ FinS K W D B φ2 S2 H2 (loop t m (ds.drop (i + 1)) ρ2 S2), fun σ2 H2 ⟨h1, h2⟩ => ⟨ds.length - (i + 1), by omega, h1, rfl, h2⟩, fun x H2 y => ?_⟩
  have hd : ds[i]? = some ds[i] := by simp [hlt]
  obtain ⟨I2, X2, r2⟩ := hyld i x H2 ds[i] hd y;rw [DE hlt] at f1;unfold loop at f1;have E2 := E1.ext X2 I1;have f2 := FinS.ext f1 X2;split at f2
  ·exact f2.elim
  ·rename_i ρ2 q2
   refine CD E2 (d := .dat ds[i]) r2 q2 fun vs E3 => ⟨B, φ1, S1, ρ2, I2, E3, ?_⟩
   cases q3 : m ρ2 S1 with
   | next ρ3 S3 =>
    rw [q3] at f2;exact fun φ3 σ3 H3 I3 X3 E4 => ⟨hlt, φ3, S3, ρ3, I3, X1.trans (X2.trans X3), E4, FinS.ext f2 X3⟩
   | cnt ρ3 S3 =>
    rw [q3] at f2;exact fun φ3 σ3 H3 I3 X3 E4 => ⟨hlt, φ3, S3, ρ3, I3, X1.trans (X2.trans X3), E4, FinS.ext f2 X3⟩
   | brk ρ3 S3 => rw [q3] at f2; exact f2
   | ret d S3 => rw [q3] at f2; exact f2
   | err e ρ3 S3 => rw [q3] at f2; exact f2
   | stuck => rw [q3] at f2; exact f2
 ·have e : i = ds.length := by omega
  subst e;rw [List.drop_length] at f1;exact .inl ⟨hstop, f1 φ1 σ' H' I1 Ext.refl E1⟩
theorem uY {tg iter : Expr} (hp : PassesOwn (model X.prog X.w) X.A X.env X.xe) (hc : X.calm = true) (hi : PI X tg iter (LB X.K W mi)) (hg : PG X tg (L8 X.K t)) (hb : PSs X BD (jL X.K W m))
  (hs : ∀ x, foldedSetIterable iter X.env x = pure x := by intro _; rfl) : PS X (.For tg iter BD [] pos) (jL X.K W (uB mi t m)) := fD (ps_for hp hc hi hg hb hs) fun D σ H h => LV h
def oH (mt : FT) (mb : FS) : Nat -> Ev -> aJ -> Out
 | 0, _, _ => .stuck
 | n + 1, ρ, S => (mt ρ S).toS ρ fun c S1 => if c = true then (match mb ρ S1 with
   | .next ρ2 S2 => oH mt mb n ρ2 S2
   | .cnt ρ2 S2 => oH mt mb n ρ2 S2
   | .brk ρ2 S2 => .next ρ2 S2
   | .ret d S2 => .ret d S2
   | .err e ρ2 S2 => .err e ρ2 S2
   | .stuck => .stuck) else .next ρ S1
def yC (k : Nat) (mt : FT) (mb : FS) : FS := fun ρ S => oH mt mb k ρ S
theorem Gy {k : Nat} (h : jL K W (yC k mt m) D σ H) : tWhile (xR K W mt) (jL K W m) D σ H := by
 obtain ⟨B, φ, S, ρ, I, E, f⟩ := h;refine ⟨fun k σ' H' => ∃ φ1 S1 ρ1, GInv K B φ1 S1 H' /\ RepE K B φ1 S1 H' ρ1 σ' /\ FinS K W D B φ1 S1 H' (oH mt m k ρ1 S1), ⟨k, φ, S, ρ, I, E, f⟩, ?_⟩
 rintro k σ' H' ⟨φ1, S1, ρ1, I1, E1, f1⟩
 cases k with
 | zero => exact f1.elim
 | succ k =>
  refine bT I1 E1 f1 fun φ2 S2 d v H2 I2 X2 E2 r f2 => ?_
  have r : v = d := r;subst r;cases v with
  | false => exact f2 φ2 σ' H2 I2 Ext.refl E2
  | true =>
   refine ⟨fun σ3 H3 => ∃ φ1 S1 ρ1, GInv K B φ1 S1 H3 /\ RepE K B φ1 S1 H3 ρ1 σ3 /\ FinS K W D B φ1 S1 H3 (oH mt m k ρ1 S1), fun σ3 H3 h3 => ⟨k, BB _, h3⟩, ⟨B, φ2, S2, ρ1, I2, E2, ?_⟩⟩
   rw [if_pos rfl] at f2;cases q3 : m ρ1 S2 with
   | next ρ3 S3 =>
    rw [q3] at f2;exact fun φ3 σ3 H3 I3 X3 E4 => ⟨φ3, S3, ρ3, I3, E4, FinS.ext f2 X3⟩
   | cnt ρ3 S3 =>
    rw [q3] at f2;exact fun φ3 σ3 H3 I3 X3 E4 => ⟨φ3, S3, ρ3, I3, E4, FinS.ext f2 X3⟩
   | brk ρ3 S3 => rw [q3] at f2; exact f2
   | ret d S3 => rw [q3] at f2; exact f2
   | err e ρ3 S3 => rw [q3] at f2; exact f2
   | stuck => rw [q3] at f2; exact f2
theorem EA {k : Nat} (hp : PassesOwn (model X.prog X.w) X.A X.env X.xe) (hc : PT X c (xR X.K W mt)) (hb : PSs X BD (jL X.K W m)) : PS X (.While c BD [] pos) (jL X.K W (yC k mt m)) := fD (ps_while hp hc hb) fun D σ H h => Gy h
theorem tP : ∀ (vs : List Nat) (σ : L2.St) (j : Nat), (wipe σ vs)[j]? = if j ∈ vs then (σ[j]?).map (fun _ => none) else σ[j]?
 | [], σ, j => by simp [wipe]
 | v :: vs, σ, j => by
  unfold wipe;rw [aP, tP vs σ j, wipe_length]
  by_cases e : v = j
  ·subst e
   rw [if_pos rfl, if_pos (aY ..)]
   by_cases hl : v < σ.length
   ·rw [if_pos hl]; simp [hl]
   ·rw [if_neg hl]; simp [sC hl]
  ·rw [if_neg e]
   by_cases hm : j ∈ vs
   ·rw [if_pos hm, if_pos (aM _ hm)]
   ·rw [if_neg hm, if_neg]
    intro h;rcases bN.mp h with h | h
    ·exact e h.symm
    ·exact hm h
theorem AE {vs : List Nat} {σ : L2.St} {i : Nat} {v : Option L2.V} (hi : i ∈ vs) : wipe (σ.set i v) vs = wipe σ vs := by
 apply qJ
 intro j;rw [tP, tP]
 by_cases hj : j ∈ vs
 ·rw [if_pos hj, if_pos hj, aP]
  by_cases e : i = j
  ·subst e
   rw [if_pos rfl]
   by_cases hl : i < σ.length
   ·rw [if_pos hl]; simp [hl]
   ·rw [if_neg hl]; simp [sC hl]
  ·rw [if_neg e]
 ·rw [if_neg hj, if_neg hj, aP, if_neg]
  intro e;subst e;exact hj hi
theorem BQ {vs : List Nat} {σ : L2.St} : wipe (wipe σ vs) vs = wipe σ vs := by
 apply qJ
 intro j;rw [tP]
 by_cases hj : j ∈ vs
 ·rw [if_pos hj, tP, if_pos hj]
  cases σ[j]? <;> rfl
 ·rw [if_neg hj]
theorem sE {vs : List Nat} : ∀ {is : List Nat} {ws : List L2.V} {σ : L2.St}, (∀ i ∈ is, i ∈ vs) -> wipe (putAll is ws σ) vs = wipe σ vs
 | [], ws, σ, _ => by cases ws <;> rfl
 | i :: is, [], σ, _ => rfl
 | i :: is, w :: ws, σ, h => by
  unfold putAll;rw [sE (is := is) fun j hj => h j (aM _ hj), AE (h i (aY ..))]
theorem BR {vs : List Nat} {v : L2.V} {ws : List L2.V} (h : ∀ i ∈ ON t, i ∈ vs) : wipe (OP t v ws σ) vs = wipe σ vs := by
 cases t with
 | nm i => exact AE (h i (by simp [ON]))
 | tp is => exact sE h
 | tn i is =>
  cases ws with
  | nil => rfl
  | cons w ws =>
   show wipe (putAll is ws (σ.set i (some w))) vs = _
   rw [sE fun j hj => h j (aM _ hj), AE (h i (aY ..))]
theorem RepE.wipes {ρ : Ev} (E : RepE K B φ S H ρ σ) (vs : List Nat) : RepE K B φ S H (PH.wipeE ρ vs) (wipe σ vs) := by
 have hl : ∀ vs : List Nat, (PH.wipeE ρ vs).length = ρ.length := fun vs => by
  induction vs with
  | nil => rfl
  | cons v vs ih => simp [PH.wipeE, ih]
 have hg : ∀ (vs : List Nat) (i : Nat) (d : Vl), (PH.wipeE ρ vs)[i]? = some (some d) -> i ∉ vs /\ ρ[i]? = some (some d) := fun vs => by
  induction vs with
  | nil => intro i d h; exact ⟨by simp, h⟩
  | cons v vs ih =>
   intro i d h;unfold PH.wipeE at h;rw [aP] at h
   by_cases e : v = i
   ·rw [if_pos e] at h
    by_cases hv : v < (PH.wipeE ρ vs).length
    ·rw [if_pos hv] at h; cases h
    ·rw [if_neg hv] at h; cases h
   ·rw [if_neg e] at h
    obtain ⟨h1, h2⟩ := ih i d h;exact ⟨fun q => by
     rcases bN.mp q with q | q
     ·exact e q.symm
     ·exact h1 q, h2⟩
 refine ⟨by rw [hl, wipe_length]; exact E.1, fun i d h => ?_⟩
 obtain ⟨h1, h2⟩ := hg vs i d h;obtain ⟨v, h3, h4⟩ := E.2 i d h2;exact ⟨v, by rw [tP, if_neg h1]; exact h3, h4⟩
def mL (B : Addr -> Prop) (a : Addr) : Addr -> Prop := fun b => B b \/ b = a
theorem GInv.plus {a : Addr} {o : HO} (I : GInv K B φ S H) (ha : H a = none) : GInv K (mL B a) φ S (upd H a o) where
 len := I.len
 ok := fun n c b h1 h2 => by
  have q := I.ok n c b h1 h2;have k : Kp (lI B φ S) H (lI (mL B a) φ S) (upd H a o) := Ext.kpB (B1 := mL B a) (fun _ h => .inl h) (fun b hb h => by
   rcases h with h | h
   ·exact h
   ·exact absurd (by rw [h]; exact ha) hb) I (Ext.new I ha)
  have hb : c ≠ .dead -> upd H a o b = H b := fun hc => upd_ne fun e => by
   subst e;exact I.fresh ha ⟨n, c, h1, hc, h2⟩
  have hV : ∀ {d : Vl} {v : L2.V}, RepV K B φ S H d v -> RepV K (mL B a) φ S (upd H a o) d v := fun {d v} r => by
   cases d with
   | dat d => exact Rep.kp k d v r
   | cel n => exact r
   | cels ns => obtain ⟨a', as, e1, e2, e3, e4⟩ := r; exact ⟨a', as, e1, (k.old _ _ e3 e2).2, (k.old _ _ e3 e2).1, e4⟩
   | scr ns => obtain ⟨a', e1, e2⟩ := r; exact ⟨a', e1, e2.keep fun o u h => by rw [upd_ne (ne_of_none h ha)]; exact h⟩
   | tc xs => obtain ⟨a', vs, e1, e2, e3⟩ := r; exact ⟨a', vs, e1, SqT.kp k.tup e2, e3.kp k (fun _ _ h => h)⟩
  have hF : ∀ {fs : List (Str × Vl)} {vs : List (Str × L2.V)}, RepF K B φ S H fs vs -> RepF K (mL B a) φ S (upd H a o) fs vs := fun {fs} => by
   induction fs with
   | nil => intro vs r; exact r
   | cons f fs ih => rintro vs ⟨v, ws, e, h1, h2⟩; exact ⟨v, ws, e, hV h1, ih h2⟩
  cases c with
  | dead => trivial
  | lst ds => obtain ⟨vs, e, r⟩ := q; exact ⟨vs, by rw [hb (by simp)]; exact e, RepL.kp k ds vs r⟩
  | ins C fs => obtain ⟨dx, vs, e, r⟩ := q; exact ⟨dx, vs, by rw [hb (by simp)]; exact e, hF r⟩
  | dct fs => obtain ⟨vs, e, r⟩ := q; exact ⟨vs, by rw [hb (by simp)]; exact e, hF r⟩
  | lv xs => obtain ⟨vs, e, r⟩ := q; exact ⟨vs, by rw [hb (by simp)]; exact e, eM hV r⟩
  | dki ks xs => obtain ⟨vs, e, r⟩ := q; exact ⟨vs, by rw [hb (by simp)]; exact e, eM hV r⟩
  | dkt ks xs => obtain ⟨vs, e, r⟩ := q; exact ⟨vs, by rw [hb (by simp)]; exact e, eM hV r⟩
  | tbl d q0 => exact ⟨q.1, tab_keep (fun c o' h _ => by rw [upd_ne (ne_of_none h ha)]; exact h) q.2⟩
 inj := I.inj
 blk := fun b h q => by
  rcases q with q | q
  ·exact I.blk b h q
  ·subst q; exact I.fresh ha h
 btr := fun b h => by
  rcases h with h | h
  ·obtain ⟨u, e⟩ := I.btr b h
   exact ⟨u, by rw [upd_ne (ne_of_none e ha)]; exact e⟩
  ·subst h; exact ⟨o, upd_same⟩
theorem RepV.less {a : Addr} {d : Vl} {v : L2.V} (r : RepV K (mL B a) φ S H d v) : RepV K B φ S H d v := by
 have k : Kp (lI (mL B a) φ S) H (lI B φ S) H := ⟨fun b o h n => ⟨h, fun q => n (by
  rcases q with q | q
  ·exact .inl (.inl q)
  ·exact .inr q)⟩, fun _ _ h => h⟩
 cases d with
 | dat d => exact Rep.kp k d v r
 | cel n => exact r
 | cels ns => obtain ⟨a', as, e1, e2, e3, e4⟩ := r; exact ⟨a', as, e1, (k.old _ _ e3 e2).2, e3, e4⟩
 | scr ns => exact r
 | tc xs => obtain ⟨a', vs, e1, e2, e3⟩ := r; exact ⟨a', vs, e1, SqT.kp k.tup e2, e3.kp k (fun _ _ h => h)⟩
theorem RepL.less {a : Addr} {ds : List PH.D} {vs : List L2.V} (r : RepL K (lI (mL B a) φ S) H ds vs) : RepL K (lI B φ S) H ds vs :=
 RepL.kp ⟨fun b o h n => ⟨h, fun q => n (by
  rcases q with q | q
  ·exact .inl (.inl q)
  ·exact .inr q)⟩, fun _ _ h => h⟩ ds vs r
theorem RepF.less {a : Addr} : ∀ {fs : List (Str × Vl)} {vs : List (Str × L2.V)}, RepF K (mL B a) φ S H fs vs -> RepF K B φ S H fs vs
 | [], vs, r => r
 | f :: fs, vs, ⟨v, ws, e, h1, h2⟩ => ⟨v, ws, e, h1.less, RepF.less h2⟩
theorem GInv.less {a : Addr} (I : GInv K (mL B a) φ S H) : GInv K B φ S H where
 len := I.len
 ok := fun n c b h1 h2 => by
  have q := I.ok n c b h1 h2;cases c with
  | dead => trivial
  | lst ds => obtain ⟨vs, e, r⟩ := q; exact ⟨vs, e, r.less⟩
  | ins C fs => obtain ⟨dx, vs, e, r⟩ := q; exact ⟨dx, vs, e, r.less⟩
  | dct fs => obtain ⟨vs, e, r⟩ := q; exact ⟨vs, e, r.less⟩
  | lv xs => obtain ⟨vs, e, r⟩ := q; exact ⟨vs, e, eM RepV.less r⟩
  | dki ks xs => obtain ⟨vs, e, r⟩ := q; exact ⟨vs, e, eM RepV.less r⟩
  | dkt ks xs => obtain ⟨vs, e, r⟩ := q; exact ⟨vs, e, eM RepV.less r⟩
  | tbl d q0 => exact q
 inj := I.inj
 blk := fun b h q => I.blk b h (.inl q)
 btr := fun b h => I.btr b (.inl h)
theorem Kp.plusPut {a : Addr} {acc : List L2.V} {o : HO} (ha : H a = some (.lst acc)) : Kp (lI (mL B a) φ S) H (lI (mL B a) φ S) (upd H a o) :=
 ⟨fun b o' h n => ⟨by
  rw [upd_ne]
  ·exact h
  ·intro e; subst e; exact n (.inl (.inr rfl)), n⟩, fun b w h => by
  have ne : b ≠ a := fun e => by
   subst e;rcases h with h | ⟨o', h⟩
   ·rw [ha] at h; cases h
   ·rw [ha] at h; cases h
  rcases h with h | ⟨o', h⟩
  ·exact .inl (by rw [upd_ne ne]; exact h)
  ·exact .inr ⟨o', by rw [upd_ne ne]; exact h⟩⟩
theorem RepV.plusPut {a : Addr} {acc : List L2.V} {o : HO} (ha : H a = some (.lst acc)) {d : Vl} {v : L2.V} (r : RepV K (mL B a) φ S H d v) : RepV K (mL B a) φ S (upd H a o) d v := by
 have k := Kp.plusPut (B := B) (φ := φ) (S := S) (o := o) ha;cases d with
 | dat d => exact Rep.kp k d v r
 | cel n => exact r
 | cels ns => obtain ⟨a', as, e1, e2, e3, e4⟩ := r; exact ⟨a', as, e1, (k.old _ _ e3 e2).2, (k.old _ _ e3 e2).1, e4⟩
 | scr ns =>
  obtain ⟨a', e1, e2⟩ := r;refine ⟨a', e1, e2.keep fun o u h => ?_⟩
  rw [upd_ne]
  ·exact h
  ·intro e; subst e; rw [ha] at h; cases h
 | tc xs => obtain ⟨a', vs, e1, e2, e3⟩ := r; exact ⟨a', vs, e1, SqT.kp k.tup e2, e3.kp k (fun _ _ h => h)⟩
theorem RepF.plusPut {a : Addr} {acc : List L2.V} {o : HO} (ha : H a = some (.lst acc)) : ∀ {fs : List (Str × Vl)} {vs : List (Str × L2.V)}, RepF K (mL B a) φ S H fs vs -> RepF K (mL B a) φ S (upd H a o) fs vs
 | [], vs, r => r
 | f :: fs, vs, ⟨v, ws, e, h1, h2⟩ => ⟨v, ws, e, h1.plusPut ha, RepF.plusPut ha h2⟩
theorem GInv.plusPut {a : Addr} {acc : List L2.V} {o : HO} (I : GInv K (mL B a) φ S H) (ha : H a = some (.lst acc)) : GInv K (mL B a) φ S (upd H a o) where
 len := I.len
 ok := fun n c b h1 h2 => by
  have q := I.ok n c b h1 h2;have k := Kp.plusPut (B := B) (φ := φ) (S := S) (o := o) ha;have hb : c ≠ .dead -> upd H a o b = H b := fun hc => upd_ne fun e => by
   subst e;exact I.blk b ⟨n, c, h1, hc, h2⟩ (.inr rfl)
  cases c with
  | dead => trivial
  | lst ds => obtain ⟨vs, e, r⟩ := q; exact ⟨vs, by rw [hb (by simp)]; exact e, RepL.kp k ds vs r⟩
  | ins C fs => obtain ⟨dx, vs, e, r⟩ := q; exact ⟨dx, vs, by rw [hb (by simp)]; exact e, r.plusPut ha⟩
  | dct fs => obtain ⟨vs, e, r⟩ := q; exact ⟨vs, by rw [hb (by simp)]; exact e, r.plusPut ha⟩
  | lv xs => obtain ⟨vs, e, r⟩ := q; exact ⟨vs, by rw [hb (by simp)]; exact e, eM (RepV.plusPut ha) r⟩
  | dki ks xs => obtain ⟨vs, e, r⟩ := q; exact ⟨vs, by rw [hb (by simp)]; exact e, eM (RepV.plusPut ha) r⟩
  | dkt ks xs => obtain ⟨vs, e, r⟩ := q; exact ⟨vs, by rw [hb (by simp)]; exact e, eM (RepV.plusPut ha) r⟩
  | tbl d q0 => exact ⟨q.1, tab_keep (fun c o' h k => by
    rw [upd_ne (fun e => by
     subst e; rw [ha] at h; cases h; rcases k with ⟨_, k⟩ | ⟨_, k⟩ <;> cases k)]
    exact h) q.2⟩
 inj := I.inj
 blk := I.blk
 btr := fun b h => by
  by_cases e : b = a
  ·subst e; exact ⟨o, upd_same⟩
  ·obtain ⟨u, h1⟩ := I.btr b h
   exact ⟨u, by rw [upd_ne e]; exact h1⟩
theorem RepV.plus {a : Addr} {o : HO} (I : GInv K B φ S H) (ha : H a = none) {d : Vl} {v : L2.V} (r : RepV K B φ S H d v) : RepV K (mL B a) φ S (upd H a o) d v := by
 have k : Kp (lI B φ S) H (lI (mL B a) φ S) (upd H a o) := Ext.kpB (B1 := mL B a) (fun _ h => .inl h) (fun b hb h => by
  rcases h with h | h
  ·exact h
  ·exact absurd (by rw [h]; exact ha) hb) I (Ext.new I ha)
 cases d with
 | dat d => exact Rep.kp k d v r
 | cel n => exact r
 | cels ns => obtain ⟨a', as, e1, e2, e3, e4⟩ := r; exact ⟨a', as, e1, (k.old _ _ e3 e2).2, (k.old _ _ e3 e2).1, e4⟩
 | scr ns => obtain ⟨a', e1, e2⟩ := r; exact ⟨a', e1, e2.keep fun o u h => by rw [upd_ne (ne_of_none h ha)]; exact h⟩
 | tc xs => obtain ⟨a', vs, e1, e2, e3⟩ := r; exact ⟨a', vs, e1, SqT.kp k.tup e2, e3.kp k (fun _ _ h => h)⟩
theorem RepE.plus {a : Addr} {o : HO} {ρ : Ev} (I : GInv K B φ S H) (ha : H a = none) (E : RepE K B φ S H ρ σ) : RepE K (mL B a) φ S (upd H a o) ρ σ :=
 ⟨E.1, fun i d h => by
  obtain ⟨v, h1, h2⟩ := E.2 i d h;exact ⟨v, h1, h2.plus I ha⟩⟩
theorem RepE.plusPut {a : Addr} {acc : List L2.V} {o : HO} {ρ : Ev} (ha : H a = some (.lst acc)) (E : RepE K (mL B a) φ S H ρ σ) : RepE K (mL B a) φ S (upd H a o) ρ σ :=
 ⟨E.1, fun i d h => by
  obtain ⟨v, h1, h2⟩ := E.2 i d h;exact ⟨v, h1, h2.plusPut ha⟩⟩
theorem Fin.done {cl : Bool} {a : Addr} {ds : List PH.D} {vs : List L2.V} {H0 : Hp} {φ0 : List Addr} {S0 : aJ} (f : Fin K W σ (RepV K) B φ0 S0 H0 (PH.newL cl ds S) Q) (I : GInv K (mL B a) φ S H) (X0 : Ext φ0 S0 H0 φ S H) (h0 : H0 a = none) (nB : ¬ B a) (ha : H a = some (.lst vs)) (l : RepL K (lI (mL B a) φ S) H ds vs) : Q (.ref a) H := by
 have na : ¬ iV φ S a := fun q => I.blk a q (.inr rfl)
 unfold PH.newL at f;cases cl with
 | false =>
  refine f φ _ H I.less X0 ⟨a, vs, rfl, fun q => ?_, ha, l.less⟩
  rcases q with q | q
  ·exact nB q
  ·exact na q
 | true =>
  have X1 : Ext φ0 S0 H0 (φ ++ [a]) (S ++ [.lst ds]) H := {
   old := fun b o h n => by
    obtain ⟨h1, h2⟩ := X0.old b o h n;refine ⟨h1, fun q => ?_⟩
    rcases (qF I.len).mp q with q | ⟨_, q⟩
    ·exact h2 q
    ·subst q; rw [h0] at h; cases h
   ids := fun n b h => by
    have := X0.ids n b h;rw [aK (aH.mp this).1]; exact this }
  have hS : ∀ b, lI B (φ ++ [a]) (S ++ [.lst ds]) b -> lI (mL B a) φ S b := fun b q => by
   rcases q with q | q
   ·exact .inl (.inl q)
   ·rcases (qF I.len).mp q with q | ⟨_, q⟩
    ·exact .inr q
    ·exact .inl (.inr q)
  have k : Kp (lI (mL B a) φ S) H (lI B (φ ++ [a]) (S ++ [.lst ds])) H := ⟨fun b o h n => ⟨h, fun q => n (hS b q)⟩, fun _ _ h => h⟩
  have hφ : ∀ (n : Nat) (b : Addr), φ[n]? = some b -> (φ ++ [a])[n]? = some b := fun n b h => by rw [aK (aH.mp h).1]; exact h
  have hV : ∀ {d : Vl} {v : L2.V}, RepV K (mL B a) φ S H d v -> RepV K B (φ ++ [a]) (S ++ [.lst ds]) H d v := fun {d v} r => by
   cases d with
   | dat d => exact Rep.kp k d v r
   | cel n => obtain ⟨b, e1, e2⟩ := r; exact ⟨b, e1, hφ _ _ e2⟩
   | cels ns => obtain ⟨a', as, e1, e2, e3, e4⟩ := r; exact ⟨a', as, e1, (k.old _ _ e3 e2).2, e3, A8 hφ ns as e4⟩
   | scr ns => exact r
   | tc xs => obtain ⟨a', vs, e1, e2, e3⟩ := r; exact ⟨a', vs, e1, SqT.kp k.tup e2, e3.kp k hφ⟩
  have hF : ∀ {fs : List (Str × Vl)} {vs : List (Str × L2.V)}, RepF K (mL B a) φ S H fs vs -> RepF K B (φ ++ [a]) (S ++ [.lst ds]) H fs vs := fun {fs} => by
   induction fs with
   | nil => intro vs r; exact r
   | cons f fs ih => rintro vs ⟨v, ws, e, h1, h2⟩; exact ⟨v, ws, e, hV h1, ih h2⟩
  refine f (φ ++ [a]) _ H ?_ X1 ⟨a, rfl, by rw [<- I.len]; exact lT⟩
  exact {
   len := by simp [I.len]
   ok := fun n c b h1 h2 => by
    by_cases hn : n < S.length
    ·rw [aK hn] at h1
     rw [aK (by rw [I.len]; exact hn)] at h2
     have q := I.ok n c b h1 h2;cases c with
     | dead => trivial
     | lst es => obtain ⟨us, e, r⟩ := q; exact ⟨us, e, RepL.kp k es us r⟩
     | ins C fs => obtain ⟨dx, us, e, r⟩ := q; exact ⟨dx, us, e, hF r⟩
     | dct fs => obtain ⟨us, e, r⟩ := q; exact ⟨us, e, hF r⟩
     | lv xs => obtain ⟨us, e, r⟩ := q; exact ⟨us, e, eM hV r⟩
     | dki ks xs => obtain ⟨us, e, r⟩ := q; exact ⟨us, e, eM hV r⟩
     | dkt ks xs => obtain ⟨us, e, r⟩ := q; exact ⟨us, e, eM hV r⟩
     | tbl d q0 => exact q
    ·have e : n = S.length := by
      have := (aH.mp h1).1;simp at this;omega
     subst e;rw [aW (bX _)] at h1;rw [<- I.len, aW (bX _)] at h2;simp at h1 h2;subst h1 h2;exact ⟨vs, ha, RepL.kp k ds vs l⟩
   inj := fun n m c c' b h1 h2 h3 h4 h5 h6 => by
    have key : ∀ (n : Nat) (c : Cell), (S ++ [.lst ds])[n]? = some c -> (n < S.length /\ S[n]? = some c) \/ n = S.length := fun n c h => by
     by_cases hn : n < S.length
     ·rw [aK hn] at h; exact .inl ⟨hn, h⟩
     ·have := (aH.mp h).1
      simp at this;exact .inr (by omega)
    have kφ : ∀ n : Nat, n < S.length -> (φ ++ [a])[n]? = φ[n]? := fun n hn => aK (by rw [I.len]; exact hn)
    have kp : (φ ++ [a])[S.length]? = some a := by rw [<- I.len]; simp
    rcases key n c h1 with ⟨hn, e1⟩ | e1 <;> rcases key m c' h3 with ⟨hm, e2⟩ | e2
    ·rw [kφ n hn] at h5
     rw [kφ m hm] at h6;exact I.inj n m c c' b e1 h2 e2 h4 h5 h6
    ·subst e2
     rw [kp] at h6;cases h6;rw [kφ n hn] at h5;exact absurd ⟨n, c, e1, h2, h5⟩ na
    ·subst e1
     rw [kp] at h5;cases h5;rw [kφ m hm] at h6;exact absurd ⟨m, c', e2, h4, h6⟩ na
    ·omega
   blk := fun b h => by
    rcases (qF I.len).mp h with h | ⟨_, h⟩
    ·exact fun q => I.blk b h (.inl q)
    ·subst h; exact nB
   btr := fun b h => I.btr b (.inl h) }
end
section
variable {X : Cx} {W : WX} {e a b c : Expr} {es rest : List Expr} {pos p q p2 : Pos} {x y z : Str} {K : aA} {ma mb mc : FE} {mt mu : FT} {mas : FA} {mi mj : FI} {B : Addr -> Prop} {φ φ' : List Addr} {S S' : aJ} {H H' : Hp} {σ : L2.St} {Q : VK} {m n : FS} {st : Stmt} {BD : List Stmt} {D : Ends} {t t1 : Tg}
def gX : FT := fun _ S => .ok true S
theorem LQ {Q : Bool -> Hp -> Prop} (h : xR K W gX σ H Q) : tYes σ H Q := by
 obtain ⟨B, φ, S, ρ, I, E, f⟩ := h;exact Fin.now (v := true) f I rfl
theorem NR {es : List Expr} {t u : TT} (h : PTs X es t) (i : ∀ σ H Q, u σ H Q -> t σ H Q) : PTs X es u := ⟨fun pins s σ H Q I q => h.run pins s σ H Q I (i σ H Q q)⟩
theorem kA : PTs X [] (xR X.K W gX) := NR pts_nil fun σ H Q h => LQ h
def mI (t : Tg) (mt : FT) (me : FE) (ρ : Ev) : List PH.D -> aJ -> Res (List PH.D)
 | [], S => .ok [] S
 | d :: r, S => match rV t (.dat d) ρ with
  | none => .stuck
  | some ρ1 => match mt ρ1 S with
   | .ok b S1 => if b = true then (match me ρ1 S1 with
     | .ok (.dat e) S2 => (match mI t mt me ρ r S2 with
      | .ok es S3 => .ok (e :: es) S3
      | _ => .stuck)
     | _ => .stuck) else mI t mt me ρ r S1
   | _ => .stuck
def BH (cl : Bool) (mi : FI) (t : Tg) (mt : FT) (me : FE) (vs : List Nat) : FE := fun ρ S => (mi ρ S).bind fun ds S1 => if ds.length <= sizeLine then (match mI t mt me (wipeE ρ vs) ds S1 with
 | .ok es S2 => newL cl es S2
 | _ => .stuck) else .stuck
theorem Ig {cl : Bool} {me : FE} {vs : List Nat} (ht : ∀ i ∈ ON t, i ∈ vs) (h : cC K W (BH cl mi t mt me vs) σ H Q) : tLc (LB K W mi) (L8 K t) (xR K LH mt) (cC K LH me) vs σ H Q := by
 refine bP (k := fun ds ρ S1 => if ds.length <= sizeLine then (match mI t mt me (wipeE ρ vs) ds S1 with | .ok es S2 => newL cl es S2 | _ => .stuck) else .stuck) h fun B φ0 S0 ρ ds J H0 I0 E0 r f0 => ?_
 intro A hA;split at f0
 case isFalse => exact f0.elim
 rename_i hsz;cases q0 : mI t mt me (wipeE ρ vs) ds S0 with
 | stuck => rw [q0] at f0; exact f0.elim
 | err e S' => rw [q0] at f0; exact f0.elim
 | ok es0 Sz =>
 rw [q0] at f0;have nB : ¬ B A := fun q => by obtain ⟨u, e⟩ := I0.btr A q; rw [hA] at e; cases e
 have IA : GInv K (mL B A) φ0 S0 (upd H0 A (.lst [])) := I0.plus hA;have b2 : ∀ a, H0 a ≠ none -> mL B A a -> B a := fun b hb h => by
  rcases h with h | h
  ·exact h
  ·exact absurd (by rw [h]; exact hA) hb
 -- what is known at a turn
 refine ⟨fun i k H' => i <= ds.length /\ k = ds.length - i /\ ∃ φ1 S1 us acc rest, GInv K (mL B A) φ1 S1 H' /\ Ext φ0 S0 H0 φ1 S1 H' /\ RepE K (mL B A) φ1 S1 H' (wipeE ρ vs) (wipe σ vs) /\ H' A = some (.lst us) /\ us.length <= i /\ RepL K (lI (mL B A) φ1 S1) H' acc us /\ mI t mt me (wipeE ρ vs) (ds.drop i) S1 = .ok rest Sz /\ acc ++ rest = es0,
  ⟨_, vL _, rfl, φ0, S0, [], [], es0, IA, Ext.new I0 hA, (E0.wipes vs).plus I0 hA, upd_same, bX _, rfl, q0, rfl⟩, ?_⟩
 rintro i k H' ⟨hi, rfl, φ1, S1, us, acc, rs, I1, X1, E1, hA1, hul, l1, g1, ea⟩
 obtain ⟨hgo, hstop, hyld⟩ := r φ1 S1 H' (mL B A) I1 (X1.kpB (fun _ h => .inl h) b2 I0)
 by_cases hlt : i < ds.length
 ·refine .inr ⟨hgo i hlt, fun H2 => i + 1 <= ds.length /\ ∃ φ1 S1 us acc rest, GInv K (mL B A) φ1 S1 H2 /\ Ext φ0 S0 H0 φ1 S1 H2 /\ RepE K (mL B A) φ1 S1 H2 (wipeE ρ vs) (wipe σ vs) /\ H2 A = some (.lst us) /\ us.length <= i + 1 /\ RepL K (lI (mL B A) φ1 S1) H2 acc us /\ mI t mt me (wipeE ρ vs) (ds.drop (i + 1)) S1 = .ok rest Sz /\ acc ++ rest = es0, fun H2 ⟨h1, h2⟩ => ⟨ds.length - (i + 1), by omega, h1, rfl, h2⟩, fun x H2 y => ?_⟩
  have hd : ds[i]? = some ds[i] := by simp [hlt]
  obtain ⟨I2, X2, r2⟩ := hyld i x H2 ds[i] hd y;rw [DE hlt] at g1;unfold mI at g1;split at g1
  case h_1 => cases g1
  rename_i ρ2 q2;have hA2 := (X2.old A _ hA1 fun q => I1.blk A q (.inr rfl)).1
  refine CD (E1.ext X2 I1) (d := .dat ds[i]) r2 q2 fun ws E3 => ⟨by rw [BR ht, BQ], mL B A, φ1, S1, ρ2, I2, E3, ?_⟩
  split at g1
  case h_2 => cases g1
  rename_i b S3 q3;rw [q3];intro φ3 b' H3 I3 X3 rb;have rb : b' = b := rb;subst rb;have hA3 := (X3.old A _ hA2 fun q => I2.blk A q (.inr rfl)).1
  have Xa := X1.trans (X2.trans X3);cases b' with
  | false =>
   exact ⟨hlt, φ3, S3, us, acc, rs, I3, Xa, (E1.ext X2 I1).ext X3 I2, hA3, Nat.le_succ_of_le hul, X3.repL I2 (X2.repL I1 l1), g1, ea⟩
  | true =>
   rw [if_pos rfl];rw [if_pos rfl] at g1;refine ⟨mL B A, φ3, S3, ρ2, I3, E3.ext X3 I2, ?_⟩
   split at g1
   case h_2 => cases g1
   rename_i e S4 q4;rw [q4];intro φ4 v4 H4 I4 X4 r4;have hA4 := (X4.old A _ hA3 fun q => I3.blk A q (.inr rfl)).1
   split at g1
   case h_2 => cases g1
   rename_i es S5 q5;cases g1;have l4 : RepL K (lI (mL B A) φ4 S4) H4 (acc ++ [e]) (us ++ [v4]) := (X4.repL I3 (X3.repL I2 (X2.repL I1 l1))).snoc r4;refine ⟨us, hA4, by omega, hlt, φ4, S4, us ++ [v4], acc ++ [e], es, I4.plusPut hA4, ?_, (((E1.ext X2 I1).ext X3 I2).ext X4 I3).plusPut hA4, upd_same, by simp; omega, RepL.kp (Kp.plusPut hA4) _ _ l4, q5, by rw [<- ea]; simp⟩
   exact ⟨fun b o h nb => by
    obtain ⟨h1, h2⟩ := (Xa.trans X4).old b o h nb;exact ⟨by rw [upd_ne (fun e => by subst e; rw [hA] at h; cases h)]; exact h1, h2⟩, (Xa.trans X4).ids⟩
 ·have e : i = ds.length := by omega
  subst e;rw [List.drop_length] at g1;cases g1;rw [bJ] at ea;subst ea;exact .inl ⟨hstop, Fin.done f0 I1 X1 hA nB hA1 l1⟩
theorem Cw {cl : Bool} {me : FE} {elt tg iter : Expr} {ifs : List Expr} {scope : Scope} {own : List (Str × Nat)} (hc : X.calm = true) (hN : X.N.Nodup) (hi : PI X tg iter (LB X.K W mi)) (ok : BlkOk X.N X.env.scope scope own)
  (hg : ∀ (s : Shared) (H : Hp) (C : Addr) (cl : List (Str × Addr)) (fp : List Addr), PG (X.blk s H scope (compEnvC scope cl C X.env) fp) tg (L8 X.K t)) (ht : ∀ (s : Shared) (H : Hp) (C : Addr) (cl : List (Str × Addr)) (fp : List Addr), PTs (X.blk s H scope (compEnvC scope cl C X.env) fp) ifs (xR X.K LH mt))
  (he : ∀ (s : Shared) (H : Hp) (C : Addr) (cl : List (Str × Addr)) (fp : List Addr), PE (X.blk s H scope (compEnvC scope cl C X.env) fp) elt (cC X.K LH me)) (hs : ∀ x, foldedSetIterable iter X.env x = pure x := by intro _; rfl) (hv : ∀ i ∈ ON t, i ∈ own.map (·.2) := by decide) :
  PE X (.ListComp elt [⟨tg, iter, ifs, 0⟩] scope pos) (cC X.K W (BH cl mi t mt me (own.map (·.2)))) := cP (pe_lc hc hN hi ok hg ht he hs) fun σ H Q h => Ig hv h
theorem KI {i : Nat} {y : Str} {py : Pos} {cl : Bool} {me : FE} {elt tg iter : Expr} {ifs : List Expr} {scope : Scope} {own : List (Str × Nat)} {spos : Pos} (hc : X.calm = true) (hN : X.N.Nodup) (hy : X.N[i]? = some y) (hyl : X.env.scope.names.lookup y = some .local)
  (hsw : swapsWith (.ListComp elt [⟨tg, iter, ifs, 0⟩] scope pos) (some (.Name y py)) spos.line X.env = pure true) (hi : PI X tg iter (LB X.K W mi)) (ok : BlkOk X.N X.env.scope scope own)
  (hg : ∀ (s : Shared) (H : Hp) (C : Addr) (cl : List (Str × Addr)) (fp : List Addr), PG (X.blk s H scope (compEnvC scope cl C X.env) fp) tg (L8 X.K t)) (ht : ∀ (s : Shared) (H : Hp) (C : Addr) (cl : List (Str × Addr)) (fp : List Addr), PTs (X.blk s H scope (compEnvC scope cl C X.env) fp) ifs (xR X.K LH mt))
  (he : ∀ (s : Shared) (H : Hp) (C : Addr) (cl : List (Str × Addr)) (fp : List Addr), PE (X.blk s H scope (compEnvC scope cl C X.env) fp) elt (cC X.K LH me)) (hs : ∀ x, foldedSetIterable iter X.env x = pure x := by intro _; rfl) (hv : ∀ i ∈ ON t, i ∈ own.map (·.2) := by decide) :
  PS X (.Assign [.Name y py] (.ListComp elt [⟨tg, iter, ifs, 0⟩] scope pos) spos) (jL X.K W (cF (BH cl mi t mt me (own.map (·.2))) (.nm i))) := fD (ps_setLc hc hN hy hyl hsw hi ok hg ht he hs) fun D σ H h => by
 obtain ⟨B, φ, S, ρ, I, E, f⟩ := h;refine Ig hv (bT I E f fun φ' S' d v H1 I1 X1 E1 r f1 => ?_)
 exact f1 φ' _ H1 I1 Ext.refl (E1.set r i)
end
section
variable {X : Cx} {W : WX} {e a b c o i : Expr} {es rest : List Expr} {pos p q p2 tpos apos cpos : Pos} {x y z : Str} {K : aA} {ma mb mc mo mx : FE} {mt mt1 mu : FT} {mas : FA} {mi mj : FI} {B : Addr -> Prop} {φ φ' : List Addr} {S S' : aJ} {H H' : Hp} {σ : L2.St} {Q : VK} {m n : FS} {st : Stmt} {BD : List Stmt} {D : Ends} {t t1 : Tg}
def Dk (t : Tg) (mt : FT) (mj : FI) (t1 : Tg) (mt1 : FT) (me : FE) (vs1 : List Nat) (ρ : Ev) : List PH.D -> aJ -> Res (List PH.D)
 | [], S => .ok [] S
 | d :: r, S => match rV t (.dat d) ρ with
  | none => .stuck
  | some ρ1 => match mt ρ1 S with
   | .ok b S1 => if b = true then (match mj ρ1 S1 with
     | .ok ds1 S2 => (match mI t1 mt1 me (wipeE ρ1 vs1) ds1 S2 with
      | .ok xs S3 => (match Dk t mt mj t1 mt1 me vs1 ρ r S3 with
       | .ok ys S4 => .ok (xs ++ ys) S4
       | _ => .stuck)
      | _ => .stuck)
     | _ => .stuck) else Dk t mt mj t1 mt1 me vs1 ρ r S1
   | _ => .stuck
def Ol (cl : Bool) (mi : FI) (t : Tg) (mt : FT) (mj : FI) (t1 : Tg) (mt1 : FT) (me : FE) (vs vs1 : List Nat) : FE := fun ρ S => (mi ρ S).bind fun ds S1 => match Dk t mt mj t1 mt1 me vs1 (wipeE ρ vs) ds S1 with
 | .ok es S2 => if es.length <= sizeLine then newL cl es S2 else .stuck
 | _ => .stuck
def EE (x y : Vl) (S : aJ) : Res Vl := match x, y with
 | .cel n, .dat d => (match S[n]? with
  | some (.lst ds) => if ds.length < sizeLine then .ok (.dat .non) (S.set n (.lst (ds ++ [d]))) else .stuck
  | _ => .stuck)
 | _, _ => .stuck
theorem EL {n : Nat} {ds ds' : List PH.D} {v v' : L2.V} {d' : Vl} {vs vs' : List L2.V} {a : Addr} (I : GInv K B φ S H) (hn : S[n]? = some (.lst ds)) (ha : φ[n]? = some a) (l : RepL K (lI B φ S) H ds' vs') (r : RepV K B φ S H d' v')
  (f : Fin K W σ (RepV K) B φ S H (.ok d' (S.set n (.lst ds'))) Q) : Q v' (upd H a (.lst vs')) := by
 have X1 := Ext.put (H := H) (o := .lst vs') (x := .lst ds') hn (by simp) ha (by simp)
 have I1 : GInv K B φ (S.set n (.lst ds')) (upd H a (.lst vs')) := I.put hn (by simp) ha (by simp) ⟨vs', upd_same, X1.repL I l⟩
 exact f φ v' _ I1 X1 (r.ext X1 I)
theorem Oh : ∀ {x : L2.V} {y : L2.V} {d e : Vl}, GInv K B φ S H -> RepV K B φ S H d x -> RepV K B φ S H e y -> Fin K W σ (RepV K) B φ S H (EE d e S) Q -> Gb x [y] H Q := fun {x y d e} I r1 r2 f => by
 unfold EE at f;split at f
 ·rename_i n d
  obtain ⟨a, rfl, h1⟩ := r1;split at f
  ·rename_i ds q
   obtain ⟨vs, h2, l⟩ := I.ok n _ a q h1;split at f
   ·rename_i hl
    exact ⟨vs, h2, by rw [l.len]; exact hl, EL (v := .non) (v' := .non) (d' := .dat .non) (vs := vs) I q h1 (l.snoc r2) rfl f⟩
   ·exact f.elim
  ·exact f.elim
 ·exact f.elim
theorem QF {d e : Vl} {v : L2.V} (I : GInv K B φ S H) (r : RepV K B φ S H d v) (h : ∃ ds, nJ S d = some ds) : tyV K "list" v H := by
 obtain ⟨ds, q⟩ := h;obtain ⟨a, vs, rfl, h1, l⟩ := mR I q r;exact .inl ⟨rfl, vs, SqL.of h1⟩
def jN (a b : FE) : FE := fun ρ S => (a ρ S).bind fun x S1 => match nJ S1 x with
 | some _ => (b ρ S1).bind fun y S2 => EE x y S2
 | none => .stuck
theorem kB (ha : PE X a (cC X.K W ma)) (hb : PE X b (cC X.K W mb)) (hs : starEach [b] X.env = (false, eval b X.env) :: starEach [] X.env := by rfl) (hbase : attributeBase a "append" X.env (eval a X.env) = eval a X.env := by rfl) (hline : (apos.endLine == cpos.line) = true := by rfl)
  (hfew : ((backTo cpos (starEach [b] X.env)).all (fun x => !x.1) && (backToKw cpos (keywordEach [] X.env)).all (fun x => x.1.isSome)
   && decide ([b].length + ([] : List Keyword).length + (if ([] : List Keyword).isEmpty then 0 else 1) < 30)) = true := by rfl)
  (hpl : (backTo cpos (starEach ([] : List Expr) X.env)).any (·.1) = false := by rfl) : PE X (.Call (.Attribute a "append" apos) [b] [] cpos) (cC X.K W (jN ma mb)) :=
 cP (pe_bm PySem.F.plainAttrs_list PySem.F.slot_list_append PySem.F.type_list_append F4 ha (pa_cons hb pa_nil hs) hbase hfew hline hs hpl) fun σ H Q h =>
  bP (k := fun x ρ S1 => match nJ S1 x with | some _ => (mb ρ S1).bind fun y S2 => EE x y S2 | none => .stuck) h fun B φ S ρ d v H1 I E r f => by
   split at f
   ·rename_i ds q
    exact ⟨QF (e := d) I r ⟨ds, q⟩, gY I E f fun φ' S' d2 v2 H2 I2 X2 E2 r2 f2 => Oh I2 (r.ext X2 I) r2 f2⟩
   ·exact f.elim
def tD (x : Vl) (S : aJ) : Res Vl := match x with
 | .cel n => (match S[n]? with
  | some (.lst ds) => (match ds[ds.length - 1]? with
   | some d => .ok (.dat d) (S.set n (.lst ds.dropLast))
   | none => .stuck)
  | _ => .stuck)
 | _ => .stuck
theorem RepL.dropLast {Bk : Addr -> Prop} {ds : List PH.D} {vs : List L2.V} (h : RepL K Bk H ds vs) : RepL K Bk H ds.dropLast vs.dropLast := by
 rw [Gi, Gi, h.len];exact h.take _
theorem ED (ha : PE X a (cC X.K W ma)) (hbase : attributeBase a "pop" X.env (eval a X.env) = eval a X.env := by rfl) (hline : (apos.endLine == cpos.line) = true := by rfl) : PE X (.Call (.Attribute a "pop" apos) [] [] cpos) (cC X.K W (m1 tD ma)) :=
 cP (pe_bm0 PySem.F.plainAttrs_list PySem.F.slot_list_pop PySem.F.type_list_pop Lv ha hbase hline) fun σ H Q h =>
  bP (k := fun x ρ S1 => tD x S1) h fun B φ S ρ d v H1 I E r f => by
   unfold tD at f;split at f
   ·rename_i n
    obtain ⟨a, rfl, h1⟩ := r;split at f
    ·rename_i ds q
     obtain ⟨vs, h2, l⟩ := I.ok n _ a q h1;split at f
     ·rename_i d qd
      obtain ⟨v', h3, h4⟩ := l.get qd;exact ⟨.inl ⟨rfl, vs, SqL.of h2⟩, vs, v', h2, by rw [l.len]; exact h3, EL (v := .non) (d' := .dat d) (vs := vs) I q h1 l.dropLast h4 f⟩
     ·exact f.elim
    ·exact f.elim
   ·exact f.elim
def setC (x : Vl) (k : Int) (d : PH.D) (S : aJ) : Option aJ := match x with
 | .cel n => (match S[n]? with
  | some (.lst ds) => if 0 <= k /\ k.toNat < ds.length then some (S.set n (.lst (ds.set k.toNat d))) else none
  | _ => none)
 | _ => none
theorem Fz {x : Vl} {k : Int} {d : PH.D} {v u : L2.V} {Qh : Hp -> Prop} (I : GInv K B φ S H) (r : RepV K B φ S H x v) (rd' : Rep K (lI B φ S) H d u) (h : setC x k d S = some S') (q : ∀ H', GInv K B φ S' H' -> Ext φ S H φ S' H' -> Qh H') : GZ v (.int k) u H Qh := by
 unfold setC at h;split at h
 ·rename_i n
  obtain ⟨a, rfl, h1⟩ := r;split at h
  ·rename_i ds q1
   split at h
   ·rename_i hk
    cases h;obtain ⟨vs, h2, l⟩ := I.ok n _ a q1 h1;have X1 := Ext.put (H := H) (o := .lst (vs.set k.toNat u)) (x := .lst (ds.set k.toNat d)) q1 (by simp) h1 (by simp)
    exact ⟨vs, h2, hk.1, by rw [l.len]; exact hk.2, q _ (I.put q1 (by simp) h1 (by simp) ⟨_, upd_same, X1.repL I (l.set rd' _)⟩) X1⟩
   ·cases h
  ·cases h
 ·cases h
def GB (a o i : FE) : FS := fun ρ S => (a ρ S).toS ρ fun v S1 => (o ρ S1).toS ρ fun x S2 => (i ρ S2).toS ρ fun k S3 => match v, k with
 | .dat d, .dat (.int k) => (match setC x k d S3 with
  | some S4 => .next ρ S4
  | none => .stuck)
 | _, _ => .stuck
theorem Mz (ha : PE X a (cC X.K W ma)) (ho : PE X o (cC X.K W mo)) (hi : PE X i (cC X.K W mx)) (hs : swapsWithSole [.Subscript o i tpos] a pos.line X.env = pure false := by rfl) (hw : swappedStores [.Subscript o i tpos] a X.env = pure none := by rfl)
  (h1 : (assignEach [.Subscript o i tpos] X.env).map (·.2) = [assign (.Subscript o i tpos) X.env] := by rfl)
  (hz : ∀ v, assign (.Subscript o i tpos) X.env v = (do
   let ov <- holding [v] (eval o X.env)
   let iv <- holding [v, ov] (eval i X.env)
   standAt tpos
   holding [v, ov, iv] (setItem ov iv v)
   release [v, ov, iv] []) := by intro _; rfl) : PS X (.Assign [.Subscript o i tpos] a pos) (jL X.K W (GB ma mo mx)) := fD (ps_asg ha (pg_sub ho hi BW hz) hs hw h1) fun D σ H h => by
 obtain ⟨B, φ, S, ρ, I, E, f⟩ := h;refine bT I E f fun φ1 S1 d1 v1 H1 I1 X1 E1 r1 f1 => bT I1 E1 f1 fun φ2 S2 d2 v2 H2 I2 X2 E2 r2 f2 => bT I2 E2 f2 fun φ3 S3 d3 v3 H3 I3 X3 E3 r3 f3 => ?_
 split at f3
 ·rename_i d k
  cases r3;split at f3
  ·rename_i S4 q
   exact Fz I3 (r2.ext X3 I2) ((r1.ext X2 I1).ext X3 I2) q fun H' I' X' => f3 φ3 σ H' I' X' (E3.ext X' I3)
  ·exact f3.elim
 ·exact f3.elim
def Jo (x : Vl) (k : Int) (S : aJ) : Option PH.D := match x with
 | .cel n => (match S[n]? with
  | some (.lst ds) => if 0 <= k then ds[k.toNat]? else none
  | _ => none)
 | _ => none
theorem MN {x : Vl} {k : Int} {d : PH.D} {v : L2.V} {Q' : VK} (I : GInv K B φ S H) (r : RepV K B φ S H x v) (h : Jo x k S = some d) (q : ∀ u, Rep K (lI B φ S) H d u -> Q' u H) : Ga v (.int k) H Q' := by
 unfold Jo at h;split at h
 ·rename_i n
  obtain ⟨a, rfl, h1⟩ := r;split at h
  ·rename_i ds q1
   split at h
   ·rename_i hk
    obtain ⟨vs, h2, l⟩ := I.ok n _ a q1 h1;obtain ⟨u, h3, h4⟩ := l.get h;exact ⟨vs, u, h2, hk, h3, q u h4⟩
   ·cases h
  ·cases h
 ·cases h
def Be (g : Int -> Int -> Int) (o i e : FE) : FS := fun ρ S => (o ρ S).toS ρ fun x S1 => (i ρ S1).toS ρ fun k S2 => match k with
 | .dat (.int k) => (match Jo x k S2 with
  | some (.int u) => (e ρ S2).toS ρ fun w S3 => (match w with
   | .dat (.int w) => (match setC x k (.int (g u w)) S3 with
    | some S4 => .next ρ S4
    | none => .stuck)
   | _ => .stuck)
  | _ => .stuck)
 | _ => .stuck
theorem Ih {g : Int -> Int -> Int} {r : R2} {me : FE} (hr : ∀ i j H Q, Q (.int (g i j)) H -> r (.int i) (.int j) H Q) (h : jL K W (Be g mo mx me) D σ H) : tAugS (cC K W mo) (cC K W mx) (cC K W me) Ga (cIp r) GZ D σ H := by
 obtain ⟨B, φ, S, ρ, I, E, f⟩ := h;refine bT I E f fun φ1 S1 d1 v1 H1 I1 X1 E1 r1 f1 => bT I1 E1 f1 fun φ2 S2 d2 v2 H2 I2 X2 E2 r2 f2 => ?_
 split at f2
 ·rename_i k
  cases r2;split at f2
  ·rename_i u q
   refine MN I2 (r1.ext X2 I1) q fun u' ru => ?_
   cases ru;refine bT I2 E2 f2 fun φ3 S3 d3 v3 H3 I3 X3 E3 r3 f3 => ?_
   split at f3
   ·rename_i w
    cases r3;split at f3
    ·rename_i S4 q4
     refine hr _ _ _ _ ?_
     exact Fz I3 ((r1.ext X2 I1).ext X3 I2) (d := .int (g u w)) rfl q4 fun H' I' X' => f3 φ3 σ H' I' X' (E3.ext X' I3)
    ·exact f3.elim
   ·exact f3.elim
  ·exact f2.elim
 ·exact f2.elim
theorem FU {me : FE} (ho : PE X o (cC X.K W mo)) (hi : PE X i (cC X.K W mx)) (he : PE X e (cC X.K W me)) (ha : ∀ ov iv new, augStore i ov iv new = (do holding [new, ov, iv] (setItem ov iv new); release [new, ov, iv] []; pure .next) := by intros; rfl) : PS X (.AugAssign (.Subscript o i tpos) .Add e pos) (jL X.K W (Be (fun x y => x + y) mo mx me)) :=
 fD (OU ho hi he Cn ha) fun D σ H h => Ih (fun _ _ _ _ q => q) h
def HY (g : Int -> Int -> Int) (k : Nat) (e : FE) : FS := fun ρ S => match lk ρ k with
 | some (.dat (.int u)) => (e ρ S).toS ρ fun w S1 => (match w with
  | .dat (.int w) => .next (ρ.set k (some (.dat (.int (g u w))))) S1
  | _ => .stuck)
 | _ => .stuck
theorem LW {g : Int -> Int -> Int} {k : Nat} {r : R2} {me : FE} (hr : ∀ i j H Q, Q (.int (g i j)) H -> r (.int i) (.int j) H Q) (h : jL K W (HY g k me) D σ H) : tAug k (cC K W me) (cIp r) D σ H := by
 obtain ⟨B, φ, S, ρ, I, E, f⟩ := h;unfold HY at f;split at f
 ·rename_i u q
  obtain ⟨v, h1, h2⟩ := E.2 k _ (Dg q);cases h2;refine ⟨_, h1, bT I E f fun φ3 S3 d3 v3 H3 I3 X3 E3 r3 f3 => ?_⟩
  split at f3
  ·cases r3
   exact hr _ _ _ _ (f3 φ3 _ H3 I3 Ext.refl (E3.set (d := .dat (.int (g _ _))) (v := .int (g _ _)) rfl k))
  ·exact f3.elim
 ·exact f.elim
theorem Ht {k : Nat} {me : FE} {pos' : Pos} (hN : X.N.Nodup) (hi : X.N[k]? = some x) (hx : Loc X.env.scope x) (he : PE X e (cC X.K W me)) (hf : X.fn x = true \/ X.env.scope.names.lookup x = some .local := by first | exact .inl rfl | exact .inr rfl | assumption) : PS X (.AugAssign (.Name x pos') .Add e pos) (jL X.K W (HY (fun x y => x + y) k me)) :=
 fD (ps_aug hN hi hx he Cn hf) fun D σ H h => LW (fun _ _ _ _ q => q) h
def mPar (i j : Nat) (a b : FE) : FS := fun ρ S => (a ρ S).toS ρ fun x S1 => (b ρ S1).toS ρ fun y S2 => .next ((ρ.set i (some x)).set j (some y)) S2
end
abbrev FD := List Vl -> aJ -> Res Vl
def spF (K : aA) (m : FD) : Sp := fun vs H Q E => ∃ B φ S ds, GInv K B φ S H /\ RepVs K B φ S H ds vs /\ Fin K (fun c x _ H => E c x H) [] (RepV K) B φ S H (m ds S) Q
section
variable {X : Cx} {W : WX} {e a b c o i : Expr} {es rest : List Expr} {pos p q p2 tpos apos cpos : Pos} {x y z : Str} {K : aA} {ma mb mc mo mx : FE} {mt mt1 mu : FT} {mas : FA} {mi mj : FI} {B : Addr -> Prop} {φ φ' : List Addr} {S S' : aJ} {H H' : Hp} {σ : L2.St} {Q : VK} {m n : FS} {st : Stmt} {BD : List Stmt} {D : Ends} {t t1 : Tg} {ps : List Str} {md : FD} {j k : Nat}
theorem Fin.toE {r : Res Vl} (f : Fin K W σ (RepV K) B φ S H r Q) : Fin K (fun c x _ H => WE W σ c x H) [] (RepV K) B φ S H r Q := by
 cases r with
 | ok d S' => exact f
 | err e S' => exact f
 | stuck => exact f
def bB (md : FD) (as : FA) : FE := fun ρ S => (as ρ S).bind md
theorem bI (F : uL X.prog X.w X.K X.mg X.base j x ps (spF X.K md)) (hr : Room k X.A) (tk : Takes X W) (ha : PA X (e :: es) (DD X.K W mas)) (hjk : j <= k := by decide) (hg : Gl X x := by rfl) (hdb : (x == ("__debug__" : Str)) = false := by decide)
  (he : starEach (e :: es) X.env = (false, eval e X.env) :: starEach es X.env := by rfl) (hpl : (backTo pos (starEach es X.env)).any (·.1) = false := by rfl) : PE X (.Call (.Name x p) (e :: es) [] pos) (cC X.K W (bB md mas)) := by
 obtain ⟨fd, F, hm, hk, hb⟩ := F;refine cP (pe_callS (E := WE W) F (hr.mono hjk) hg hm hk hb (fun σ => passAt tk σ) ha hdb he hpl) fun σ H Q h => ?_
 exact bP (k := fun ds _ S => md ds S) h fun B φ S ρ d v H1 I E r f => ⟨B, φ, S, d, I, r, f.toE⟩
mutual
def PB (n : Nat) : TIt -> Bool
 | .inl _ => true
 | .inr m => decide (m < n)
 | .tup xs => FC n xs
def FC (n : Nat) : List TIt -> Bool
 | [] => true
 | x :: xs => PB n x && FC n xs
end
theorem Dr {n : Nat} : ∀ xs : List TIt, FC n xs = xs.all (PB n)
 | [] => by simp [FC]
 | x :: xs => by rw [FC, Dr xs, gE]
def Vl.below (n : Nat) : Vl -> Bool
 | .dat _ => true
 | .cel m => decide (m < n)
 | .cels ms => ms.all fun m => decide (m < n)
 | .scr _ => true
 | .tc xs => xs.all (PB n)
def Cell.below (n : Nat) : Cell -> Bool
 | .dead => true
 | .lst _ => true
 | .ins _ fs => fs.all fun f => f.2.below n
 | .dct fs => fs.all fun f => f.2.below n
 | .lv xs => xs.all fun x => x.below n
 | .dki _ xs => xs.all fun x => x.below n
 | .dkt _ xs => xs.all fun x => x.below n
 | .tbl _ _ => true
def trunc (n : Nat) (r : Res Vl) : Res Vl := match r with
 | .ok d S => if d.below n && ((S.take n).all fun c => c.below n) then .ok d (S.take n) else .stuck
 | .err e S => if (S.take n).all fun c => c.below n then .err e (S.take n) else .stuck
 | .stuck => .stuck
def bO : Out -> Res Vl
 | .ret d S => .ok d S
 | .next _ S => .ok (.dat .non) S
 | .err e _ S => .err e S
 | _ => .stuck
def envOf (n : Nat) (ds : List Vl) : Ev := ds.map some ++ bL (n - ds.length) none
def run (n np : Nat) (mb : FS) : FD := fun ds S => if ds.length = np then bO (mb (envOf n ds) S) else .stuck
def Eu (n np : Nat) (mb : FS) : FD := fun ds S => if ds.length = np then trunc S.length (bO (mb (envOf n ds) S)) else .stuck
theorem vP {α : Type} {n m : Nat} {l : List α} (h : m < n) : (l.take n)[m]? = l[m]? := by
 rw [dX, if_pos h]
theorem jF {n : Nat} {a : Addr} (h : iV (φ.take n) (S.take n) a) : iV φ S a := by
 obtain ⟨m, c, h1, h2, h3⟩ := h;rw [dX] at h1 h3
 by_cases hm : m < n
 ·rw [if_pos hm] at h1 h3; exact ⟨m, c, h1, h2, h3⟩
 ·rw [if_neg hm] at h1; cases h1
mutual
theorem RepI.takeN {n : Nat} {K : aA} {Bk Bk' : Addr -> Prop} {φ : List Addr} {H : Hp} (k : Kp Bk H Bk' H) : ∀ {x : TIt} {v : L2.V}, RepI K Bk φ H x v -> PB n x = true -> RepI K Bk' (φ.take n) H x v
 | .inl d, v, r, _ => Rep.kp k d v r
 | .inr m, v, ⟨b, q1, q2⟩, h => ⟨b, q1, by rw [PB] at h; rw [vP (of_decide_eq_true h)]; exact q2⟩
 | .tup xs, v, ⟨a, vs, h1, h2, h3⟩, h => ⟨a, vs, h1, SqT.kp k.tup h2, RepIs.takeM k h3 (by rw [PB] at h; exact h)⟩
theorem RepIs.takeM {n : Nat} {K : aA} {Bk Bk' : Addr -> Prop} {φ : List Addr} {H : Hp} (k : Kp Bk H Bk' H) : ∀ {xs : List TIt} {vs : List L2.V}, RepIs K Bk φ H xs vs -> FC n xs = true -> RepIs K Bk' (φ.take n) H xs vs
 | [], vs, r, _ => r
 | x :: xs, vs, ⟨v, ws, e, h1, h2⟩, h => by
  rw [FC, bV] at h;exact ⟨v, ws, e, RepI.takeN k h1 h.1, RepIs.takeM k h2 h.2⟩
end
theorem RepIs.takeN {n : Nat} {K : aA} {Bk Bk' : Addr -> Prop} {φ : List Addr} {H : Hp} (k : Kp Bk H Bk' H) {xs : List TIt} {vs : List L2.V} (r : RepIs K Bk φ H xs vs) (h : xs.all (PB n) = true) : RepIs K Bk' (φ.take n) H xs vs := RepIs.takeM k r (by rw [Dr]; exact h)
theorem RepV.take {n : Nat} {d : Vl} {v : L2.V} (r : RepV K B φ S H d v) (h : d.below n = true) : RepV K B (φ.take n) (S.take n) H d v := by
 have k : Kp (lI B φ S) H (lI B (φ.take n) (S.take n)) H := ⟨fun b o h nb => ⟨h, fun q => nb (by
  rcases q with q | q
  ·exact .inl q
  ·exact .inr (jF q))⟩, fun _ _ h => h⟩
 cases d with
 | dat d => exact Rep.kp k d v r
 | cel m =>
  obtain ⟨a, e, h1⟩ := r;exact ⟨a, e, by rw [vP (of_decide_eq_true h)]; exact h1⟩
 | cels ms =>
  obtain ⟨a, as, e1, e2, e3, e4⟩ := r;refine ⟨a, as, e1, (k.old _ _ e3 e2).2, e3, ?_⟩
  rw [<- e4]
  apply eO
  intro m hm;exact vP (of_decide_eq_true (bD.mp h m hm))
 | scr ns => exact r
 | tc xs => obtain ⟨a, vs, e1, e2, e3⟩ := r; exact ⟨a, vs, e1, SqT.kp k.tup e2, RepIs.takeN k e3 h⟩
theorem RepF.take {n : Nat} : ∀ {fs : List (Str × Vl)} {vs : List (Str × L2.V)}, RepF K B φ S H fs vs -> (fs.all fun f => f.2.below n) = true -> RepF K B (φ.take n) (S.take n) H fs vs
 | [], vs, r, _ => r
 | f :: fs, vs, ⟨v, ws, e, h1, h2⟩, h => by
  simp only [gE, bV] at h;exact ⟨v, ws, e, h1.take h.1, RepF.take h2 h.2⟩
theorem RepVs.take {n : Nat} : ∀ {fs : List Vl} {vs : List L2.V}, RepVs K B φ S H fs vs -> (fs.all fun f => f.below n) = true -> RepVs K B (φ.take n) (S.take n) H fs vs
 | [], vs, r, _ => r
 | f :: fs, vs, ⟨v, ws, e, h1, h2⟩, h => by
  simp only [gE, bV] at h;exact ⟨v, ws, e, h1.take h.1, RepVs.take h2 h.2⟩
theorem GInv.take {n : Nat} (I : GInv K B φ S H) (h : ((S.take n).all fun c => c.below n) = true) : GInv K B (φ.take n) (S.take n) H where
 len := by rw [iW, iW, I.len]
 ok := fun m c a h1 h2 => by
  have hc := bD.mp h c (aZ h1);rw [dX] at h1 h2
  by_cases hm : m < n
  ·rw [if_pos hm] at h1 h2
   have q := I.ok m c a h1 h2;have k : Kp (lI B φ S) H (lI B (φ.take n) (S.take n)) H := ⟨fun b o h nb => ⟨h, fun q => nb (by
    rcases q with q | q
    ·exact .inl q
    ·exact .inr (jF q))⟩, fun _ _ h => h⟩
   cases c with
   | dead => trivial
   | lst ds => obtain ⟨vs, e, r⟩ := q; exact ⟨vs, e, RepL.kp k ds vs r⟩
   | ins C fs => obtain ⟨dx, vs, e, r⟩ := q; exact ⟨dx, vs, e, r.take hc⟩
   | dct fs => obtain ⟨vs, e, r⟩ := q; exact ⟨vs, e, r.take hc⟩
   | lv xs => obtain ⟨vs, e, r⟩ := q; exact ⟨vs, e, r.take hc⟩
   | dki ks xs => obtain ⟨vs, e, r⟩ := q; exact ⟨vs, e, r.take hc⟩
   | dkt ks xs => obtain ⟨vs, e, r⟩ := q; exact ⟨vs, e, r.take hc⟩
   | tbl d q0 => exact q
  ·rw [if_neg hm] at h1; cases h1
 inj := fun i j d d' b h1 h2 h3 h4 h5 h6 => by
  rw [dX] at h1 h3 h5 h6
  by_cases hi : i < n
  ·by_cases hj : j < n
   ·rw [if_pos hi] at h1 h5
    rw [if_pos hj] at h3 h6;exact I.inj i j d d' b h1 h2 h3 h4 h5 h6
   ·rw [if_neg hj] at h3; cases h3
  ·rw [if_neg hi] at h1; cases h1
 blk := fun b h => I.blk b (jF h)
 btr := I.btr
theorem Ext.take {n : Nat} {φ0 : List Addr} {S0 : aJ} {H0 : Hp} (x : Ext φ0 S0 H0 φ S H) (hn : φ0.length <= n) : Ext φ0 S0 H0 (φ.take n) (S.take n) H :=
 ⟨fun b o h nb => ⟨(x.old b o h nb).1, fun q => (x.old b o h nb).2 (jF q)⟩, fun m a h => by
  have := (aH.mp h).1;rw [vP (by omega)]
  exact x.ids m a h⟩
theorem Fin.trunc {r : Res Vl} {n : Nat} (f : Fin K W σ (RepV K) B φ S H (PH.trunc n r) Q) (I : GInv K B φ S H) (hn : n = S.length) : Fin K W σ (RepV K) B φ S H r Q := by
 have hl : φ.length <= n := by rw [hn, I.len]; exact bX _
 cases r with
 | ok d S' =>
  unfold PH.trunc at f;dsimp only at f;split at f
  ·rename_i h
   obtain ⟨h1, h2⟩ := Bool.and_eq_true_iff.mp h;exact fun φ' v H' I' X' r' => f (φ'.take n) v H' (I'.take h2) (X'.take hl) (r'.take h1)
  ·exact f.elim
 | err e S' =>
  unfold PH.trunc at f;dsimp only at f;split at f
  ·rename_i h
   refine fun φ' c x H' I' X' r' => f (φ'.take n) c x H' (I'.take h) (X'.take hl) (r'.imp (fun z => ⟨z.1, ?_⟩) id)
   have r' := z.2;refine ⟨r'.1, ?_⟩
   rcases r'.2 with h0 | ⟨d, vs, e1, e2, e3⟩
   ·exact .inl h0
   ·refine .inr ⟨d, vs, e1, e2, RepL.kp ⟨fun b o h nb => ⟨h, fun q => nb (by
     rcases q with q | q
     ·exact .inl q
     ·exact .inr (jF q))⟩, fun _ _ h => h⟩ _ _ e3⟩
  ·exact f.elim
 | stuck => exact f
theorem Kb {ds : List Vl} {vs : List L2.V} {N : List Str} (r : RepVs K B φ S H ds vs) : RepE K B φ S H (envOf N.length ds) (start N vs) := by
 have hl := r.len;have hg : ∀ {ds : List Vl} {vs : List L2.V}, RepVs K B φ S H ds vs -> ∀ (i : Nat) (d : Vl), ds[i]? = some d -> ∃ v, vs[i]? = some v /\ RepV K B φ S H d v := fun {ds} => by
  induction ds with
  | nil => intro vs r i d h; simp at h
  | cons d ds ih =>
   rintro vs ⟨v, ws, e, h1, h2⟩ i d' h
   subst e;cases i with
   | zero => simp at h; subst h; exact ⟨v, rfl, h1⟩
   | succ i =>
    obtain ⟨v', h3, h4⟩ := ih h2 i d' (by simpa using h)
    exact ⟨v', by simpa using h3, h4⟩
 unfold envOf L2.start;refine ⟨by simp [hl], fun i d h => ?_⟩
 by_cases hi : i < ds.length
 ·rw [aK (by simpa using hi)] at h
  rw [aK (by simp [hl, hi])]
  rw [bG] at h ⊢;cases q : ds[i]? with
  | none => rw [q] at h; cases h
  | some d' =>
   rw [q] at h;have : d' = d := by simpa using h
   subst this;obtain ⟨v, h1, h2⟩ := hg r i d' q;exact ⟨v, by rw [h1]; rfl, h2⟩
 ·rw [aW (by simpa using sC hi)] at h
  rw [List.getElem?_replicate] at h
  split at h <;> cases h
theorem EC {mb : FS} {E : XK} {ds : List Vl} {vs : List L2.V} {N : List Str} (I : GInv K B φ S H) (r : RepVs K B φ S H ds vs) (f : Fin K (fun c x _ H => E c x H) [] (RepV K) B φ S H (bO (mb (envOf N.length ds) S)) Q) : jL K (fun c x _ H => E c x H) mb { nx := fun _ H' => Q .non H', rt := Q } (start N vs) H := by
 refine ⟨B, φ, S, envOf N.length ds, I, Kb r, ?_⟩
 unfold bO at f;cases q : mb (envOf N.length ds) S with
 | next ρ' S' => rw [q] at f; exact fun φ' σ' H' I' X' _ => f φ' _ H' I' X' rfl
 | ret d S' => rw [q] at f; exact f
 | brk ρ' S' => rw [q] at f; exact f.elim
 | cnt ρ' S' => rw [q] at f; exact f.elim
 | err e ρ' S' => rw [q] at f; exact fun φ' σ' c x H' I' X' _ r' => f φ' c x H' I' X' r'
 | stuck => rw [q] at f; exact f
end
section
variable {P : Program} {w : World} {K : aA} {mg : Str -> Option Value} {base : Heap}
structure Runs (md : FD) (n np : Nat) (mb : FS) : Prop where
 ok : ∀ ds S, ds.length = np -> md ds S = bO (mb (envOf n ds) S) \/ md ds S = trunc S.length (bO (mb (envOf n ds) S))
 no : ∀ ds S, ds.length ≠ np -> md ds S = .stuck
theorem Runs.plain {n np : Nat} {mb : FS} : Runs (run n np mb) n np mb := ⟨fun ds S h => .inl (by unfold run; rw [if_pos h]), fun ds S h => by unfold run; rw [if_neg h]⟩
theorem Runs.cut {n np : Nat} {mb : FS} : Runs (Eu n np mb) n np mb := ⟨fun ds S h => .inr (by unfold Eu; rw [if_pos h]), fun ds S h => by unfold Eu; rw [if_neg h]⟩
theorem qK {md : FD} {n np : Nat} {mb : FS} (R : Runs md n np mb) : ∀ vs H Q E, spF K md vs H Q E -> vs.length = np := fun vs H Q E ⟨B, φ, S, ds, I, r, f⟩ => by
 rw [r.len]
 by_cases h : ds.length = np
 ·exact h
 ·rw [R.no ds S h] at f; exact f.elim
theorem nI {md : FD} {np : Nat} {mb : FS} {N : List Str} (R : Runs md N.length np mb) {vs : List L2.V} {H : Hp} {Q : VK} {E : XK} (h : spF K md vs H Q E) : jL K (fun c x _ H => E c x H) mb { nx := fun _ H' => Q .non H', rt := Q } (start N vs) H := by
 obtain ⟨B, φ, S, ds, I, r, f⟩ := h
 by_cases hl : ds.length = np
 ·rcases R.ok ds S hl with e | e
  ·rw [e] at f; exact EC I r f
  ·rw [e] at f; exact EC I r (Fin.trunc f I rfl)
 ·rw [R.no ds S hl] at f; exact f.elim
theorem okF {x : Str} {st : Stmt} {N ps : List Str} {k : Nat} {md : FD} {mb : FS} (F : uM K x st) (g : mg x = some (.ref (He.ga K x))) (S : FnScope N ps (defScope st)) (R : Runs md N.length ps.length mb)
  (bnd : ∀ (kV doc pm : Value) (an : Option Addr) (cdv ct : Value) (us : List Value), us.length = ps.length -> bindArgs (cD x x (defArgs st) (defBody st) (defScope st) .none kV doc pm an cdv ct) ⟨us, []⟩ = pure (ps.zip us))
  (hbody : ∀ (cdv : Value) (A : Around) (outer : List Env) (s : Shared) (H : Hp) (E : XK), Room k (A.deeper (envOfC x (defScope st) s.heap.objs.size (He.ga K x) cdv)) ->
   PSs (cxOf (L2.CX P w) P w K mg base N x (defScope st) (He.ga K x) cdv A outer s H E) (defBody st) (jL K (fun c x _ H => E c x H) mb)) : uL P w K mg base (k + 1) x ps (spF K md) :=
 JH F g S (qK R) bnd fun cdv A outer s H vs Q E hr h => ⟨_, hbody cdv A outer s H E hr, nI R h⟩
theorem okFM {C m q : Str} {st : Stmt} {N ps : List Str} {k : Nat} {md : FD} {mb : FS} (F : B5 K C m q st) (g : Meth K (He.ga K C) m (He.ma K (He.ga K C) m)) (S : FnScope N ps (defScope st)) (R : Runs md N.length ps.length mb)
  (bnd : ∀ (kV doc pm : Value) (an : Option Addr) (cdv ct : Value) (us : List Value), us.length = ps.length -> bindArgs (cD m q (defArgs st) (defBody st) (defScope st) .none kV doc pm an cdv ct) ⟨us, []⟩ = pure (ps.zip us))
  (hbody : ∀ (cdv : Value) (A : Around) (outer : List Env) (s : Shared) (H : Hp) (E : XK), Room k (A.deeper (envOfC q (defScope st) s.heap.objs.size (He.ma K (He.ga K C) m) cdv)) ->
   PSs (cxOf (L2.CX P w) P w K mg base N q (defScope st) (He.ma K (He.ga K C) m) cdv A outer s H E) (defBody st) (jL K (fun c x _ H => E c x H) mb)) : OkMX P w K mg base (k + 1) C m ps (spF K md) :=
 Lq F g S (qK R) bnd fun cdv A outer s H vs Q E hr h => ⟨_, hbody cdv A outer s H E hr, nI R h⟩
end
section
variable {X : Cx} {W : WX} {e a b c o i : Expr} {es rest : List Expr} {pos p q p2 tpos apos cpos pos' : Pos} {x y z f C mn : Str} {K : aA} {ma mb mc mo mx : FE} {mt mt1 mu : FT} {mas : FA} {B : Addr -> Prop} {φ φ' : List Addr} {S S' : aJ} {H H' : Hp} {σ : L2.St} {Q : VK} {m n : FS} {D : Ends} {ps : List Str} {md : FD} {j k : Nat}
def fR (S : aJ) (C mn : Str) : Vl -> Bool
 | .cel n => match S[n]? with
  | some (.ins C' fs) => decide (C' = C) && fs.all fun f => decide (f.1 ≠ mn)
  | _ => false
 | .dat (.ins C' ns _) => decide (C' = C) && ns.all fun f => decide (f ≠ mn)
 | _ => false
theorem RepF.miss : ∀ {fs : List (Str × Vl)} {vs : List (Str × L2.V)}, RepF K B φ S H fs vs -> (fs.all fun f => decide (f.1 ≠ mn)) = true -> vs.lookup mn = none
 | [], vs, r, _ => by cases r; rfl
 | d :: ds, vs, ⟨v, ws, e, h1, h2⟩, h => by
  subst e;simp only [gE, bV, decide_eq_true_eq] at h;rw [eZ, show (mn == d.1) = false by simpa using Ne.symm h.1]
  exact RepF.miss h2 h.2
theorem DG : ∀ {ns : List Str} {vs : List L2.V}, (ns.all fun f => decide (f ≠ mn)) = true -> (ns.zip vs).lookup mn = none
 | [], vs, _ => by simp
 | d :: ds, [], _ => by simp
 | d :: ds, v :: vs, h => by
  simp only [gE, bV, decide_eq_true_eq] at h;rw [pP, eZ, show (mn == d) = false by simpa using Ne.symm h.1]
  exact DG h.2
theorem qW {d : Vl} {v : L2.V} (I : GInv K B φ S H) (r : RepV K B φ S H d v) (h : fR S C mn d = true) : ∃ a dx fs, v = .ref a /\ H a = some (.ins (He.ga K C) dx fs) /\ fs.lookup mn = none := by
 cases d with
 | cel n =>
  obtain ⟨a, rfl, h1⟩ := r;have h : (match S[n]? with | some (.ins C' fs) => decide (C' = C) && fs.all fun f => decide (f.1 ≠ mn) | _ => false) = true := h
  split at h
  ·rename_i C' fs q
   obtain ⟨h2, h3⟩ := He.ba h;have e : C' = C := of_decide_eq_true h2;subst e;obtain ⟨dx, vs, h4, h5⟩ := I.ok n _ a q h1;exact ⟨a, dx, vs, rfl, h4, h5.miss h3⟩
  ·cases h
 | dat d =>
  cases d with
  | ins C' ns xs =>
   obtain ⟨h2, h3⟩ := He.ba (show (decide (C' = C) && ns.all fun f => decide (f ≠ mn)) = true from h)
   have e : C' = C := of_decide_eq_true h2;subst e;obtain ⟨a, dx, vs, rfl, _, h4, _⟩ := r;exact ⟨a, dx, _, rfl, h4, DG h3⟩
  | _ => cases h
 | cels ns => cases h
 | scr ns => cases h
 | tc _ => cases h
def fM (C mn : Str) (md : FD) (o : FE) (as : FA) : FE := fun ρ S => (o ρ S).bind fun x S1 => if fR S1 C mn x = true then (as ρ S1).bind fun ds S2 => md (x :: ds) S2 else .stuck
theorem rD {pl : Sem Bool} (F : OkMX X.prog X.w X.K X.mg X.base j C mn ps (spF X.K md)) (hr : Room k X.A) (tk : Takes X W) (c : Cls X.K (He.ga X.K C)) (ho : PE X o (cC X.K W mo)) (ha : PA X (e :: es) (DD X.K W mas)) (hjk : j <= k := by decide)
  (hst : starEach (e :: es) X.env = (false, eval e X.env) :: starEach es X.env := by rfl) (hpl : (backTo pos (starEach es X.env)).any (·.1) = false := by rfl)
  (ht : eval (.Call (.Attribute o mn apos) (e :: es) [] pos) X.env = eval o X.env >>= fun ov => standAt apos.atName >>= fun _ => holding [ov] (getMethod ov mn pl) >>= fun q => callWith pos q.1 q.2 (backTo pos (starEach (e :: es) X.env)) (backToKw pos (keywordEach [] X.env)) := by rfl) :
  PE X (.Call (.Attribute o mn apos) (e :: es) [] pos) (cC X.K W (fM C mn md mo mas)) := by
 obtain ⟨⟨fd, F, hb⟩, mt⟩ := F;refine ⟨fun pins s σ H Q I h => ?_⟩
 have h' : cC X.K W mo σ H fun v H1 => ∃ a dx fs, v = .ref a /\ H1 a = some (.ins (He.ga X.K C) dx fs) /\ fs.lookup mn = none /\ DD X.K W mas σ H1 fun vs H2 => spF X.K md (.ref a :: vs) H2 Q (WE W σ) :=
  bP (k := fun x ρ S1 => if fR S1 C mn x = true then (mas ρ S1).bind fun ds S2 => md (x :: ds) S2 else .stuck) h fun B φ S ρ d v H1 I E r f => by
   split at f
   ·rename_i hi
    obtain ⟨a, dx, fs, rfl, h1, h2⟩ := qW I r hi;exact ⟨a, dx, fs, rfl, h1, h2, gY I E f fun φ' S' ds vs H2 I2 X2 E2 r2 f2 => ⟨B, φ', S', d :: ds, I2, ⟨_, _, rfl, r.ext X2 I, r2⟩, f2.toE⟩⟩
   ·exact f.elim
 refine sD (pl := pl) (thn (ho.run pins s σ H _ I h') fun u s1 hh => ?_) ht
 obtain ⟨x, H1, I1, rx, a, dx, fs, rfl, ea, l, q⟩ := hh;obtain rfl : u = Value.ref a := rx;refine getmeth_ok I1 ea c mt l (oD (first := [.ref a]) (h₀ := X.base) I.ok.mod.kin mt.kp (thn (ha.run pos pins s1 σ H1 _ I1 q) fun us s2 hh => ?_) hst hpl)
 obtain ⟨vs, H2, I2, r, q2⟩ := hh;exact ⟨I2.kIn, run_fnS (us := .ref a :: us) (vs := .ref a :: vs) (E := WE W) F (hr.mono hjk) hb (passAt tk σ) I2 (.cons rfl r) q2⟩
theorem AA {pl : Sem Bool} (F : OkMX X.prog X.w X.K X.mg X.base j C mn ps (spF X.K md)) (hr : Room k X.A) (tk : Takes X W) (c : Cls X.K (He.ga X.K C)) (ho : PE X o (cC X.K W mo)) (hjk : j <= k := by decide)
  (ht : eval (.Call (.Attribute o mn apos) [] [] pos) X.env = eval o X.env >>= fun ov => standAt apos.atName >>= fun _ => holding [ov] (getMethod ov mn pl) >>= fun q => callWith pos q.1 q.2 (backTo pos (starEach [] X.env)) (backToKw pos (keywordEach [] X.env)) := by rfl) :
  PE X (.Call (.Attribute o mn apos) [] [] pos) (cC X.K W (fM C mn md mo aL)) := by
 obtain ⟨⟨fd, F, hb⟩, mt⟩ := F;refine ⟨fun pins s σ H Q I h => ?_⟩
 have h' : cC X.K W mo σ H fun v H1 => ∃ a dx fs, v = .ref a /\ H1 a = some (.ins (He.ga X.K C) dx fs) /\ fs.lookup mn = none /\ spF X.K md [.ref a] H1 Q (WE W σ) :=
  bP (k := fun x ρ S1 => if fR S1 C mn x = true then md [x] S1 else .stuck) h fun B φ S ρ d v H1 I E r f => by
   split at f
   ·rename_i hi
    obtain ⟨a, dx, fs, rfl, h1, h2⟩ := qW I r hi;exact ⟨a, dx, fs, rfl, h1, h2, B, φ, S, [d], I, ⟨_, _, rfl, r, rfl⟩, f.toE⟩
   ·exact f.elim
 refine sD (pl := pl) (thn (ho.run pins s σ H _ I h') fun u s1 hh => ?_) ht
 obtain ⟨x, H1, I1, rx, a, dx, fs, rfl, ea, l, q⟩ := hh;obtain rfl : u = Value.ref a := rx;exact getmeth_ok I1 ea c mt l (Fo (first := [.ref a]) I1.kIn mt.kp (run_fnS (us := [.ref a]) (vs := [.ref a]) (E := WE W) F (hr.mono hjk) hb (passAt tk σ) I1 (.cons rfl .nil) q))
def kR (S : aJ) (C f : Str) : Vl -> Option Vl
 | .cel n => match S[n]? with
  | some (.ins C' fs) => if C' = C then fs.lookup f else none
  | _ => none
 | .dat (.ins C' ns xs) => if C' = C then ((ns.zip xs).lookup f).map Vl.dat else none
 | _ => none
theorem RepF.look {d : Vl} : ∀ {fs : List (Str × Vl)} {vs : List (Str × L2.V)}, RepF K B φ S H fs vs -> fs.lookup f = some d -> ∃ v, vs.lookup f = some v /\ RepV K B φ S H d v
 | [], vs, r, h => by cases h
 | g :: fs, vs, ⟨v, ws, e, h1, h2⟩, h => by
  subst e;obtain ⟨g1, g2⟩ := g;rw [eZ] at h ⊢;cases q : f == g1 with
  | true => rw [q] at h; cases h; exact ⟨v, rfl, h1⟩
  | false => rw [q] at h; exact RepF.look h2 h
theorem zip_look {Bk : Addr -> Prop} {d : PH.D} : ∀ {ns : List Str} {ds : List PH.D} {vs : List L2.V}, RepL K Bk H ds vs -> (ns.zip ds).lookup f = some d -> ∃ v, (ns.zip vs).lookup f = some v /\ Rep K Bk H d v
 | [], ds, vs, r, h => by simp at h
 | n :: ns, [], vs, r, h => by simp at h
 | n :: ns, d' :: ds, vs, ⟨v, ws, e, h1, h2⟩, h => by
  subst e;rw [pP, eZ] at h ⊢;cases q : f == n with
  | true => rw [q] at h; cases h; exact ⟨v, rfl, h1⟩
  | false => rw [q] at h; exact zip_look h2 h
def dG (C f : Str) (o : FE) : FE := fun ρ S => (o ρ S).bind fun x S1 => match kR S1 C f x with
 | some d => .ok d S1
 | none => .stuck
theorem wN {x d : Vl} {v : L2.V} (I : GInv K B φ S H) (r : RepV K B φ S H x v) (h : kR S C f x = some d) : ∃ a dx fs u, v = .ref a /\ H a = some (.ins (He.ga K C) dx fs) /\ fs.lookup f = some u /\ RepV K B φ S H d u := by
 cases x with
 | cel n =>
  obtain ⟨a, rfl, h1⟩ := r
  replace h : (match S[n]? with | some (.ins C' fs) => if C' = C then fs.lookup f else none | _ => none) = some d := h
  split at h
  ·rename_i C' fs q
   split at h
   ·rename_i e
    subst e;obtain ⟨dx, vs, h4, h5⟩ := I.ok n _ a q h1;obtain ⟨u, h6, h7⟩ := h5.look h;exact ⟨a, dx, vs, u, rfl, h4, h6, h7⟩
   ·cases h
  ·cases h
 | dat d' =>
  cases d' with
  | ins C' ns xs =>
   replace h : (if C' = C then ((ns.zip xs).lookup f).map Vl.dat else none) = some d := h
   split at h
   ·rename_i e
    subst e;obtain ⟨a, dx, vs, rfl, _, h4, l⟩ := r;cases q : (ns.zip xs).lookup f with
    | none => rw [q] at h; cases h
    | some d0 =>
     rw [q] at h;cases h;obtain ⟨u, h6, h7⟩ := zip_look l q;exact ⟨a, dx, _, u, rfl, h4, h6, h7⟩
   ·cases h
  | _ => cases h
 | cels ns => cases h
 | scr ns => cases h
 | tc _ => cases h
theorem dC (c : Cls X.K (He.ga X.K C)) (n : NoAttr X.K (He.ga X.K C) f) (ho : PE X o (cC X.K W mo)) (hb : attributeBase o f X.env (eval o X.env) = eval o X.env := by rfl) : PE X (.Attribute o f pos) (cC X.K W (dG C f mo)) := cP (Kd c n ho hb) fun σ H Q h =>
 bP (k := fun x _ S1 => match kR S1 C f x with | some d => .ok d S1 | none => .stuck) h fun B φ S ρ d v H1 I E r f' => by
  split at f'
  ·rename_i d' q
   obtain ⟨a, dx, fs, u, rfl, h1, h2, h3⟩ := wN I r q;exact ⟨dx, fs, u, h1, h2, Fin.now f' I h3⟩
  ·exact f'.elim
def gG (f : Str) (v : Vl) : List (Str × Vl) -> List (Str × Vl)
 | [] => [(f, v)]
 | (g, x) :: r => if g = f then (g, v) :: r else (g, x) :: gG f v r
theorem RepF.put {d : Vl} {v : L2.V} (r : RepV K B φ S H d v) : ∀ {fs : List (Str × Vl)} {vs : List (Str × L2.V)}, RepF K B φ S H fs vs -> RepF K B φ S H (gG f d fs) (putF f v vs)
 | [], vs, h => by cases h; exact ⟨v, [], rfl, r, rfl⟩
 | (g, x) :: fs, vs, ⟨u, ws, e, h1, h2⟩ => by
  subst e;unfold gG putF;split
  ·exact ⟨v, ws, rfl, r, h2⟩
  ·exact ⟨u, _, rfl, h1, RepF.put r h2⟩
theorem RepF.len : ∀ {fs : List (Str × Vl)} {vs : List (Str × L2.V)}, RepF K B φ S H fs vs -> vs.length = fs.length
 | [], vs, h => by cases h; rfl
 | d :: ds, vs, ⟨v, ws, e, _, h2⟩ => by subst e; simp [RepF.len h2]
def tY (S : aJ) (C f : Str) (x d : Vl) : Option aJ := match x with
 | .cel n => (match S[n]? with
  | some (.ins C' fs) => if C' = C /\ fs.length < 1000 then some (S.set n (.ins C (gG f d fs))) else none
  | _ => none)
 | _ => none
def kO (C f : Str) (o v : FE) : FS := fun ρ S => (v ρ S).toS ρ fun d S1 => (o ρ S1).toS ρ fun x S2 => match tY S2 C f x d with
 | some S3 => .next ρ S3
 | none => .stuck
theorem fU {value : Expr} {mv : FE} (c : Cls X.K (He.ga X.K C)) (na : NoAttr X.K (He.ga X.K C) f) (ho : PE X o (cC X.K W mo)) (hv : PE X value (cC X.K W mv)) (hs : swapsWith value (some (.Attribute o f pos')) pos.line X.env = pure false := by rfl) : PS X (.Assign [.Attribute o f pos'] value pos) (jL X.K W (kO C f mo mv)) := fD (Eo c na ho hv hs) fun D σ H h => by
 obtain ⟨B, φ, S, ρ, I, E, f'⟩ := h;refine bT I E f' fun φ1 S1 d1 v1 H1 I1 X1 E1 r1 f1 => bT I1 E1 f1 fun φ2 S2 d2 v2 H2 I2 X2 E2 r2 f2 => ?_
 split at f2
 ·rename_i S3 q
  unfold tY at q;split at q
  ·rename_i n
   obtain ⟨a, rfl, h1⟩ := r2;split at q
   ·rename_i C' fs q1
    split at q
    ·rename_i hc
     obtain ⟨e, hl⟩ := hc;subst e;cases q;obtain ⟨dx, vs, h4, h5⟩ := I2.ok n _ a q1 h1;have X3 := Ext.put (H := H2) (o := .ins (He.ga X.K C') dx (putF f v1 vs)) (x := .ins C' (gG f d1 fs)) q1 (by simp) h1 (by simp)
     have r1' := r1.ext X2 I1;refine ⟨dx, vs, h4, by rw [h5.len]; exact hl, f2 φ2 σ _ (I2.put q1 (by simp) h1 (by simp) ⟨dx, _, upd_same, (h5.put r1').ext X3 I2⟩) X3 (E2.ext X3 I2)⟩
    ·cases q
   ·cases q
  ·cases q
 ·exact f2.elim
end
section
variable {X : Cx} {W : WX} {e a b c o i : Expr} {es rest : List Expr} {pos p q p2 tpos apos cpos pos' : Pos} {x y z f mn : Str} {K : aA} {ma mb mc mo mx : FE} {mas : FA} {B : Addr -> Prop} {φ φ' : List Addr} {S S' : aJ} {H H' : Hp} {σ : L2.St} {Q : VK} {m n : FS} {D : Ends} {ps : List Str} {md : FD} {j k : Nat}
theorem HG {C fA : Addr} {fd : FuncData} {sp : Sp} {CX : CXT} {E : L2.St -> XK} {pins : List (Addr × Obj)} {s : Shared} {us : List Value} {vs : List L2.V} (M : Mk X.K C fA) (F : FnOk X.prog X.w X.K X.mg X.base CX k fA fd ps sp) (hr : Room (k + 1) X.A) (hb : Binds X.K fd ps [])
  (hx : PassesAt CX X σ (E σ)) (I : Inv X pins σ H s) (r : Vals vs us)
  (h : ∀ x dx, H x = none -> H dx = none -> dx ≠ x -> sp (.ref x :: vs) (upd (upd H dx (.own x)) x (.ins C dx [])) (fun v H2 => v = .non /\ Q (.ref x) H2) (E σ)) :
  wpAny (model X.prog X.w) X.A (call (.ref C) us) (EP X pins σ Q) X.xe s := by
 have hq := h (s.heap.objs.size + 1) s.heap.objs.size (I.hok.fresh (Nat.le_succ _)) (I.hok.fresh (bX _)) (Gj (BB _));have I2 := Inv.made (C := C) I;have r2 : Vals (V.ref (s.heap.objs.size + 1) :: vs) (Value.ref (s.heap.objs.size + 1) :: us) := .cons rfl r;have hl : (Value.ref (s.heap.objs.size + 1) :: us ++ []).length = ps.length := by
  have e := r2.length;rw [F.len _ _ _ _ hq] at e;rw [bJ];exact e.symm
 have b := hb _ (Value.ref (s.heap.objs.size + 1) :: us) I2.kIn hl;rw [bJ] at b;refine wpAny_call (make_map (f := fA) I.kIn M.makes M.init (beq_iff_eq.mp M.fn) (codeAny_mono (F.run _ X.stack _ _ ⟨Value.ref (s.heap.objs.size + 1) :: us, []⟩ (Value.ref (s.heap.objs.size + 1) :: us) _ _ (E σ) (hr.make C us [])
  (I2.env0.make C us []) b r2 hq) fun r s' hq' => ?_))
 cases r with
 | error e => exact hx pins _ _ e s' I2 hq'
 | ok fl =>
  cases fl with
  | ret u =>
   obtain ⟨v, H', I3, rv, ev, q3⟩ := I2.after hq';subst ev;exact ⟨rv, ⟨V.ref (s.heap.objs.size + 1), H', I3, rfl, q3⟩⟩
  | next => exact False.elim hq'
  | brk => exact False.elim hq'
  | cont => exact False.elim hq'
def C9 : List (Str × Vl) -> Option (List PH.D)
 | [] => some []
 | (_, .dat d) :: r => match C9 r with
  | some ds => some (d :: ds)
  | none => none
 | _ :: _ => none
theorem ET : ∀ {fs : List (Str × Vl)} {vs : List (Str × L2.V)} {ds : List PH.D}, C9 fs = some ds -> RepF K B φ S H fs vs -> ∃ ws, vs = (fs.map (·.1)).zip ws /\ RepL K (lI B φ S) H ds ws
 | [], vs, ds, h, r => by cases h; cases r; exact ⟨[], rfl, rfl⟩
 | (g, .dat d) :: fs, vs, ds, h, ⟨v, ws, e, h1, h2⟩ => by
  unfold C9 at h;cases q : C9 fs with
  | none => rw [q] at h; cases h
  | some es =>
   rw [q] at h;cases h;obtain ⟨us, e2, l⟩ := ET q h2;subst e e2;exact ⟨v :: us, rfl, v, us, rfl, h1, l⟩
 | (_, .cel _) :: fs, vs, ds, h, _ => by cases h
 | (_, .cels _) :: fs, vs, ds, h, _ => by cases h
 | (_, .scr _) :: fs, vs, ds, h, _ => by cases h
 | (_, .tc _) :: fs, vs, ds, h, _ => by cases h
def made (kp : Bool) (n : Nat) (r : Res Vl) : Res Vl := match r with
 | .ok (.dat .non) S => if kp then .ok (.cel n) S else (match S[n]? with
  | some (.ins C fs) => (match C9 fs with
   | some ds => if ((S.take n).all fun c => c.below n) then .ok (.dat (.ins C (fs.map (·.1)) ds)) (S.take n) else .stuck
   | none => .stuck)
  | _ => .stuck)
 | .err e S => if ((S.take n).all fun c => c.below n) then .err e (S.take n) else .stuck
 | _ => .stuck
def Ad (kp : Bool) (C : Str) (md : FD) (as : FA) : FE := fun ρ S => (as ρ S).bind fun ds S1 => made kp S1.length (md (.cel S1.length :: ds) (S1 ++ [.ins C []]))
theorem EV {n : Nat} {c : Cell} {a : Addr} (I : GInv K B φ S H) (hn : S[n]? = some c) (hc : c ≠ .dead) (ha : φ[n]? = some a) : ¬ lI B (φ.take n) (S.take n) a := fun q => by
 rcases q with q | ⟨m, c', h1, h2, h3⟩
 ·exact I.blk a ⟨n, c, hn, hc, ha⟩ q
 ·rw [dX] at h1 h3
  by_cases hm : m < n
  ·rw [if_pos hm] at h1 h3
   have := I.inj n m c c' a hn hc h1 h2 ha h3;omega
  ·rw [if_neg hm] at h1; cases h1
theorem EB {kp : Bool} {C : Str} {ds : List Vl} {vs : List L2.V} (I : GInv K B φ S H) (r : RepVs K B φ S H ds vs) (f : Fin K W σ (RepV K) B φ S H (made kp S.length (md (.cel S.length :: ds) (S ++ [.ins C []]))) Q) :
  ∀ x dx, H x = none -> H dx = none -> dx ≠ x -> spF K md (.ref x :: vs) (upd (upd H dx (.own x)) x (.ins (He.ga K C) dx [])) (fun v H2 => v = .non /\ Q (.ref x) H2) (WE W σ) := fun x dx nx ndx ne => by
 have I1 := I.new (o := .own x) ndx;have X1 := Ext.new (o := .own x) I ndx;have nx1 : upd H dx (.own x) x = none := by rw [upd_ne (Ne.symm ne)]; exact nx
 have X2 := Ext.newC (o := .ins (He.ga K C) dx []) (x := .ins C []) I1 nx1;have I2 : GInv K B (φ ++ [x]) (S ++ [.ins C []]) (upd (upd H dx (.own x)) x (.ins (He.ga K C) dx [])) := I1.newC nx1 fun _ => ⟨dx, [], upd_same, rfl⟩
 have X12 := X1.trans X2;refine ⟨B, φ ++ [x], S ++ [.ins C []], .cel S.length :: ds, I2, ⟨_, _, rfl, ⟨x, rfl, by rw [<- I.len]; exact lT⟩, RepVs.ext X2 I1 (RepVs.ext X1 I r)⟩, ?_⟩
 have hφ : φ.length <= S.length := by rw [I.len]; exact bX _
 cases q : md (.cel S.length :: ds) (S ++ [.ins C []]) with
 | stuck => rw [q] at f; exact f
 | err e S' =>
  rw [q] at f;unfold made at f;dsimp only at f;split at f
  ·rename_i h
   intro φ' c y H' I' X' r';refine f (φ'.take S.length) c y H' (I'.take h) ((X12.trans X').take hφ) (r'.imp (fun z => ⟨z.1, ?_⟩) id)
   have r' := z.2;refine ⟨r'.1, ?_⟩
   rcases r'.2 with h0 | ⟨d, us, e1, e2, e3⟩
   ·exact .inl h0
   ·refine .inr ⟨d, us, e1, e2, RepL.kp ⟨fun b o h nb => ⟨h, fun q => nb (by
     rcases q with q | q
     ·exact .inl q
     ·exact .inr (jF q))⟩, fun _ _ h => h⟩ _ _ e3⟩
  ·exact f.elim
 | ok d S' =>
  rw [q] at f;intro φ' v H' I' X' r';unfold made at f;split at f
  ·rename_i S0 e
   cases e;cases r';refine ⟨rfl, ?_⟩
   have hx' : φ'[S.length]? = some x := X'.ids _ _ (by rw [<- I.len]; exact lT)
   split at f
   ·exact f φ' _ H' I' (X12.trans X') ⟨x, rfl, hx'⟩
   ·split at f
    ·rename_i C' fs q1
     split at f
     ·rename_i ds' q2
      split at f
      ·rename_i h
       obtain ⟨dx', vs', h4, h5⟩ := I'.ok _ _ _ q1 hx';obtain ⟨ws, e2, l⟩ := ET q2 h5;subst e2;refine f (φ'.take S.length) _ H' (I'.take h) ((X12.trans X').take hφ) ⟨x, dx', ws, rfl, EV I' q1 (by simp) hx', h4, RepL.kp ⟨fun b o h nb => ⟨h, fun q => nb (by
        rcases q with q | q
        ·exact .inl q
        ·exact .inr (jF q))⟩, fun _ _ h => h⟩ _ _ l⟩
      ·exact f.elim
     ·exact f.elim
    ·exact f.elim
  ·rename_i e; cases e
  ·exact f.elim
theorem KU {kp : Bool} {C : Str} (T : ClF X.K X.mg C) (F : OkMX X.prog X.w X.K X.mg X.base j C "__init__" ps (spF X.K md)) (hr : Room k X.A) (tk : Takes X W) (ha : PA X (e :: es) (DD X.K W mas)) (hjk : j + 1 <= k := by decide) (hg : Gl X C := by rfl) (hdb : (C == ("__debug__" : Str)) = false := by decide)
  (he : starEach (e :: es) X.env = (false, eval e X.env) :: starEach es X.env := by rfl) (hpl : (backTo pos (starEach es X.env)).any (·.1) = false := by rfl) : PE X (.Call (.Name C p) (e :: es) [] pos) (cC X.K W (Ad kp C md mas)) := by
 obtain ⟨⟨fd, F, hb⟩, mt⟩ := F;refine ⟨fun pins s σ H Q I h => ?_⟩
 refine wpAny_Call_Name_kw (ld_glob I hg T.glo ?_ hdb)
 have h' : DD X.K W mas σ H fun vs H1 => ∀ x dx, H1 x = none -> H1 dx = none -> dx ≠ x -> spF X.K md (.ref x :: vs) (upd (upd H1 dx (.own x)) x (.ins (He.ga X.K C) dx [])) (fun v H2 => v = .non /\ Q (.ref x) H2) (WE W σ) :=
  bP (k := fun ds _ S1 => made kp S1.length (md (.cel S1.length :: ds) (S1 ++ [.ins C []]))) h fun B φ S ρ d v H1 I E r f => EB I r f
 refine oD (h₀ := X.base) I.ok.mod.kin T.mak.kp (thn (ha.run pos pins s σ H _ I h') fun us s1 ⟨vs, H1, I1, r, q⟩ => ⟨I1.kIn, ?_⟩) he hpl
 exact HG (E := WE W) T.mak F (hr.mono hjk) hb (passAt tk σ) I1 r q
def nR (cls : Str) : FS := fun ρ S => .err ⟨cls, [], []⟩ ρ S
theorem nV (F : XcF X.K X.mg x) (tk : Takes X W) (hc : X.calm = true := by rfl) (hg : Gl X x := by rfl) (hdb : (x == ("__debug__" : Str)) = false := by decide) (hnb : LD x = none := by rfl) : PS X (.Raise (some (.Call (.Name x p) [] [] pos)) none pos') (jL X.K W (nR x)) := fD (Ll F tk hc hg hdb) fun D σ H h => by
 obtain ⟨B, φ, S, ρ, I, E, f⟩ := h;exact f φ σ _ _ H I Ext.refl E (.inl ⟨hnb, rfl, .inl ⟨rfl, rfl⟩⟩)
end
def OR (C : Addr) (f : Str) : Sp := fun vs H Q _ => ∃ a y, vs = [.ref a, y] /\ H a = some (exo a C none) /\ ∀ dx, H dx = none -> dx ≠ a -> Q .non (upd (upd H dx (exd dx [(f, y)])) a (exo a C (some dx)))
def OQ (C : Addr) (f g : Str) : Sp := fun vs H Q _ => ∃ a y z, vs = [.ref a, y, z] /\ H a = some (exo a C none) /\ ∀ dx, H dx = none -> dx ≠ a -> Q .non (upd (upd (upd H dx (exd dx [(f, y)])) a (exo a C (some dx))) dx (exd dx [(g, z), (f, y)]))
structure XcA (P : Program) (w : World) (K : aA) (mg : Str -> Option Value) (base : Heap) (k : Nat) (x : Str) (ps : List Str) (sp : Sp) : Prop where
 cls : OexC K (He.ga K x)
 ini : eX K (.ref (He.ga K x)) "__init__" = some (some (.ref (He.ma K (He.ga K x) "__init__")))
 ty : kI K (.ref (He.ma K (He.ga K x) "__init__")) = some (.type "function")
 fn : ∃ fd, FnOk P w K mg base CX0 k (He.ma K (He.ga K x) "__init__") fd ps sp /\ Binds K fd ps []
 glo : mg x = some (.ref (He.ga K x))
section
variable {X : Cx} {W : WX} {e : Expr} {es : List Expr} {pos p pos' : Pos} {x f g : Str} {K : aA} {mas : FA} {B : Addr -> Prop} {φ φ' : List Addr} {S S' : aJ} {H H' : Hp} {σ : L2.St} {ps : List Str} {j k : Nat}
def jT (cls : Str) (ns : List Str) (as : FA) : FS := fun ρ S => (as ρ S).toS ρ fun xs S1 => match vI xs with
 | some ds => if ds.length = ns.length then .err ⟨cls, ns, ds.reverse⟩ ρ S1 else .stuck
 | none => .stuck
theorem pX (F : XcA X.prog X.w X.K X.mg X.base j x ps (OR (He.ga X.K x) f)) (hr : Room k X.A) (tk : Takes X W) (ha : PA X (e :: es) (DD X.K W mas)) (hjk : j + 1 <= k := by decide) (hc : X.calm = true := by rfl) (hg : Gl X x := by rfl) (hdb : (x == ("__debug__" : Str)) = false := by decide)
  (he : starEach (e :: es) X.env = (false, eval e X.env) :: starEach es X.env := by rfl) (hpl : (backTo pos (starEach es X.env)).any (·.1) = false := by rfl) (hnb : LD x = none := by rfl) : PS X (.Raise (some (.Call (.Name x p) (e :: es) [] pos)) none pos') (jL X.K W (jT x [f] mas)) := by
 obtain ⟨fd, F1, hb⟩ := F.fn;refine fD (ps_raise hc tk (pmk_oex F.cls F.ini F.ty F1 (hr.mono hjk) hb .nil (fun _ _ _ _ _ _ _ h => h.elim) hg F.glo ha hdb he hpl)) fun D σ H h => ?_
 obtain ⟨B, φ, S, ρ, I, E, f'⟩ := h;refine bT I E f' fun φ1 S1 ds vs H1 I1 X1 E1 r f1 => ?_
 split at f1
 ·rename_i xs q
  have l := xJ q r;split at f1
  ·rename_i hl
   match xs, hl with
   | [d], _ =>
    obtain ⟨v, ws, rfl, h1, h2⟩ := l;cases h2;refine ⟨by simp, fun a na => ⟨a, v, rfl, upd_same, fun dx ndx ne => ⟨rfl, dx, [(f, v)], upd_same, ?_, ?_, ?_⟩⟩⟩
    ·rw [upd_ne ne, upd_same]
    ·rw [upd_ne ne] at ndx; exact ndx
    ·have n1 : H1 dx = none := by rw [upd_ne ne] at ndx; exact ndx
     have eH : (upd (del (upd (upd (upd H1 a (exo a (He.ga X.K x) none)) dx (exd dx [(f, v)])) a (exo a (He.ga X.K x) (some dx))) a) dx (.xd [(f, v)])) = upd H1 dx (.xd [(f, v)]) := by
      funext b
      unfold upd del
      by_cases hb : b = dx
      ·rw [if_pos hb, if_pos hb]
      ·rw [if_neg hb, if_neg hb]
       by_cases hba : b = a
       ·rw [if_pos hba, hba]; exact na.symm
       ·rw [if_neg hba]; simp only [if_neg hba, if_neg hb]
     rw [eH];have X2 := Ext.new (o := .xd [(f, v)]) I1 n1;exact f1 φ1 σ _ _ _ (I1.new n1) X2 (E1.ext X2 I1) (.inl ⟨hnb, rfl, .inr ⟨dx, [v], rfl, upd_same, v, [], rfl, Rep.kp (X2.kp I1) _ _ h1, rfl⟩⟩)
  ·exact f1.elim
 ·exact f1.elim
theorem yI (F : XcA X.prog X.w X.K X.mg X.base j x ps (OQ (He.ga X.K x) f g)) (hr : Room k X.A) (tk : Takes X W) (ha : PA X (e :: es) (DD X.K W mas)) (hjk : j + 1 <= k := by decide) (hc : X.calm = true := by rfl) (hg : Gl X x := by rfl) (hdb : (x == ("__debug__" : Str)) = false := by decide)
  (he : starEach (e :: es) X.env = (false, eval e X.env) :: starEach es X.env := by rfl) (hpl : (backTo pos (starEach es X.env)).any (·.1) = false := by rfl) (hnb : LD x = none := by rfl) : PS X (.Raise (some (.Call (.Name x p) (e :: es) [] pos)) none pos') (jL X.K W (jT x [g, f] mas)) := by
 obtain ⟨fd, F1, hb⟩ := F.fn;refine fD (ps_raise hc tk (pmk_oex F.cls F.ini F.ty F1 (hr.mono hjk) hb .nil (fun _ _ _ _ _ _ _ h => h.elim) hg F.glo ha hdb he hpl)) fun D σ H h => ?_
 obtain ⟨B, φ, S, ρ, I, E, f'⟩ := h;refine bT I E f' fun φ1 S1 ds vs H1 I1 X1 E1 r f1 => ?_
 split at f1
 ·rename_i xs q
  have l := xJ q r;split at f1
  ·rename_i hl
   match xs, hl with
   | [d, d2], _ =>
    obtain ⟨v, ws, rfl, h1, u, ws', rfl, h2, h3⟩ := l;cases h3;refine ⟨by simp, fun a na => ⟨a, v, u, rfl, upd_same, fun dx ndx ne => ⟨rfl, dx, [(g, u), (f, v)], ?_, upd_same, ?_, ?_⟩⟩⟩
    ·rw [upd_ne (Ne.symm ne), upd_same]
    ·rw [upd_ne ne] at ndx; exact ndx
    ·have n1 : H1 dx = none := by rw [upd_ne ne] at ndx; exact ndx
     have eH : (upd (del (upd (upd (upd (upd H1 a (exo a (He.ga X.K x) none)) dx (exd dx [(f, v)])) a (exo a (He.ga X.K x) (some dx))) dx (exd dx [(g, u), (f, v)])) a) dx (.xd [(g, u), (f, v)])) = upd H1 dx (.xd [(g, u), (f, v)]) := by
      funext b
      unfold upd del
      by_cases hb : b = dx
      ·rw [if_pos hb, if_pos hb]
      ·rw [if_neg hb, if_neg hb]
       by_cases hba : b = a
       ·rw [if_pos hba, hba]; exact na.symm
       ·rw [if_neg hba]; simp only [if_neg hba, if_neg hb]
     rw [eH];have X2 := Ext.new (o := .xd [(g, u), (f, v)]) I1 n1;exact f1 φ1 σ _ _ _ (I1.new n1) X2 (E1.ext X2 I1) (.inl ⟨hnb, rfl, .inr ⟨dx, [u, v], rfl, upd_same, u, [v], rfl, Rep.kp (X2.kp I1) _ _ h2, v, [], rfl, Rep.kp (X2.kp I1) _ _ h1, rfl⟩⟩)
  ·exact f1.elim
 ·exact f1.elim
end
section
variable {X : Cx} {W : WX} {e a b c o i : Expr} {es rest : List Expr} {pos p q p2 tpos apos cpos pos' np : Pos} {x y z f mn : Str} {K : aA} {ma mb mc mo mx : FE} {mas : FA} {B : Addr -> Prop} {φ φ' : List Addr} {S S' : aJ} {H H' : Hp} {σ : L2.St} {Q : VK} {m n : FS} {D : Ends} {cs : List Str}
def handle (cs : List Str) : List (Str × FS) -> Er -> Ev -> aJ -> Out
 | [], e, ρ, S => .err e ρ S
 | (c, m) :: r, e, ρ, S => if e.cls = c then (match m ρ S with
   | .err _ _ _ => .stuck
   | o => o) else handle cs r e ρ S
inductive XIt where
 | c (v : L2.V) (d : PH.D) | f (n : Str)
def itR (a : Addr) (cls : Value) (d : Option Addr) (C : Addr) (i : Nat) : List XIt -> TA
 | [] => tNil
 | .c v _ :: r => tCons (tC v) (itR a cls d C i r)
 | .f n :: r => tCons (tXf a cls d C n (yQ i)) (itR a cls d C i r)
def itF (e : Er) : List XIt -> Option (List PH.D)
 | [] => some []
 | .c _ d :: r => match itF e r with
  | some ds => some (d :: ds)
  | none => none
 | .f n :: r => match (e.ns.zip e.xs).lookup n, itF e r with
  | some d, some ds => some (d :: ds)
  | _, _ => none
def Nk (cs : List Str) (m : FS) (c : Str) (k : Nat) (its : List XIt) : FS := fun ρ S => match m ρ S with
 | .err e ρ' S' => if (e.cls ∈ cs /\ c ∈ cs) /\ k < ρ'.length then (if e.cls = c then (match itF e its with
   | some ds => if ds.length <= sizeLine then .ret (.dat (.tup ds)) S' else .stuck
   | none => .stuck) else .err e ρ' S') else .stuck
 | o => o
theorem NV : ∀ {σ : L2.St} {i : Nat} {v : L2.V}, σ[i]? = some (some v) -> sl σ i = some v
 | [], _, _, h => by simp at h
 | x :: _, 0, v, h => by simp at h; exact h
 | _ :: r, n + 1, v, h => NV (σ := r) (i := n) (by simpa using h)
end
structure Lim (K : aA) : Prop where
 pos : ∀ z m lo hi, limits.lookup z = some (m, lo, hi) -> iQ K (He.ga K "LIMITS") z = some (some (.ref (Dh K z))) /\ ∀ H, SqT K H (Dh K z) [.int (m : Nat), .int lo, .int hi]
 neg : ∀ z, limits.lookup z = none -> iQ K (He.ga K "LIMITS") z = some none
section
variable {X : Cx} {W : WX} {e a b c o i : Expr} {es rest : List Expr} {pos p q p2 tpos apos cpos pos' np : Pos} {x y z f mn C : Str} {K : aA} {ma mb mc mo mx : FE} {mas : FA} {B : Addr -> Prop} {φ φ' : List Addr} {S S' : aJ} {H H' : Hp} {σ : L2.St} {Q : VK} {m n : FS} {D : Ends} {ps : List Str} {md : FD} {j k : Nat}
def eC (neg : Bool) (x : Vl) (S : aJ) : Res Vl := match x with
 | .dat (.str z) => .ok (.dat (.bl (if neg then (limits.lookup z).isNone else (limits.lookup z).isSome))) S
 | _ => .stuck
def vE (x : Vl) (S : aJ) : Res Vl := match x with
 | .dat (.str z) => (match limits.lookup z with
  | some (m, lo, hi) => .ok (.dat (.tup [.int (m : Nat), .int lo, .int hi])) S
  | none => .stuck)
 | _ => .stuck
theorem Iu (L : Lim K) {x : L2.V} {d : Vl} (I : GInv K B φ S H) (r : RepV K B φ S H d x) (f : Fin K W σ (RepV K) B φ S H (eC true d S) Q) : OF K (He.ga K "LIMITS") true x (.ref (He.ga K "LIMITS")) H Q := by
 unfold eC at f;split at f
 ·rename_i z
  cases r;cases q : limits.lookup z with
  | none =>
   refine ⟨rfl, none, L.neg z q, ?_⟩
   rw [q] at f;exact Fin.now f I rfl
  | some t =>
   obtain ⟨m, lo, hi⟩ := t;refine ⟨rfl, _, (L.pos z m lo hi q).1, ?_⟩
   rw [q] at f;exact Fin.now f I rfl
 ·exact f.elim
theorem Hs {py : Pos} (L : Lim X.K) (D : ∃ es n, KDict X.K X.w (He.ga X.K "LIMITS") es n) (g : X.mg "LIMITS" = some (.ref (He.ga X.K "LIMITS"))) (ha : PE X a (cC X.K W ma)) (hg : Gl X "LIMITS" := by rfl) (hm : behindInMarks .NotIn (.Name "LIMITS" py) = false := by rfl) : PT X (.Compare a [.NotIn] [.Name "LIMITS" py] pos) (xR X.K W (mB (m1 (eC true) ma))) :=
 B3 (NT (CT D) ha (pe_glob (v := .ref (He.ga X.K "LIMITS")) hg g rfl) hm) fun σ H Q h => bP (k := fun x _ S => eC true x S) (Ij h) fun B φ S ρ d v H1 I E r f => Iu L I r f
theorem f_lim {py : Pos} (L : Lim X.K) (D : ∃ es n, KDict X.K X.w (He.ga X.K "LIMITS") es n) (g : X.mg "LIMITS" = some (.ref (He.ga X.K "LIMITS"))) (ha : PE X a (cC X.K W ma)) (hg : Gl X "LIMITS" := by rfl) (hs : PlainIx a := by intro _ _; rfl) : PE X (.Subscript (.Name "LIMITS" py) a pos) (cC X.K W (m1 vE ma)) :=
 cP (pe_ix (P4 D) (pe_glob (v := .ref (He.ga X.K "LIMITS")) hg g rfl) ha hs) fun σ H Q h => bP (k := fun x _ S => vE x S) h fun B φ S ρ d v H1 I E r f => by
  unfold vE at f;split at f
  ·rename_i z
   cases r;split at f
   ·rename_i m lo hi q
    obtain ⟨h1, h2⟩ := L.pos z m lo hi q;exact ⟨rfl, _, .ref (Dh X.K z), h1, rfl, Fin.now f I ⟨_, _, rfl, h2 H1, _, _, rfl, rfl, _, _, rfl, rfl, _, _, rfl, rfl, rfl⟩⟩
   ·exact f.elim
  ·exact f.elim
theorem Hz {sp : Sp} (F : OkMX X.prog X.w X.K X.mg X.base j C "__len__" ps sp) (hr : Room (j + 1) X.A) : CallR X (.builtin "len") (c1 (rLenO (He.ga X.K C) sp E0)) := by
 intro pins s σ H xs us Q I r h;obtain ⟨⟨fd, F, hb⟩, mt⟩ := F
 match xs, h with
 | [x], h =>
  cases x with
  | ref a =>
   obtain ⟨dx, fs, ha, h⟩ := h;cases r with
   | cons r1 r2 =>
    cases r1;cases r2;obtain ⟨mA, J, _⟩ := ins_get I.hok ha;obtain ⟨od, J, _⟩ := J.look;obtain ⟨fm, hF⟩ := I.fr;refine PySem.W.len_K hF I.ok.mod.kin J mt.at_ mt.fn ?_
    have e := I.env0;have hl := F.len _ _ _ _ h;have b := hb s [.ref a] I.kIn (by simpa using hl)
    have run := F.run X.A.in1 X.stack s H ⟨[.ref a], []⟩ [.ref a] [.ref a] _ E0 hr.in1 ⟨e.frames, e.mod, e.bs, e.bsz, e.funs, e.frf, e.hok, e.bare⟩ (by simpa using b) (.cons rfl .nil) h
    refine wpAny_call (codeAny_mono run fun q s' hq => ?_)
    cases q with
    | error e => obtain ⟨_, _, _, _, _, _, _, _, _, _, _, _, z⟩ := hq; exact z.elim
    | ok fl =>
     cases fl with
     | ret w =>
      obtain ⟨z, H', I', rz, hz⟩ := I.after hq;cases z with
      | int n =>
       obtain ⟨tk, rfl⟩ := rz;exact ⟨⟨hz.1.1, by have := hz.1.2; omega⟩, .int n, H', I'.tok _, ⟨_, rfl⟩, hz.2⟩
      | _ => exact hz.elim
     | next => exact False.elim hq
     | brk => exact False.elim hq
     | cont => exact False.elim hq
  | _ => exact h.elim
def Os (r : Res Vl) : Res Vl := match r with
 | .ok (.dat (.int n)) S => if 0 <= n /\ n < 2 ^ 62 then .ok (.dat (.int n)) S else .stuck
 | _ => .stuck
def Bw (C : Str) (md : FD) (x : Vl) (S : aJ) : Res Vl := if fR S C "__len__" x = true then Os (md [x] S) else .stuck
theorem Q5 (hm : X.mg "len" = none) (F : OkMX X.prog X.w X.K X.mg X.base j C "__len__" ps (spF X.K md)) (hr : Room k X.A) (ha : PE X a (cC X.K W ma)) (hjk : j + 1 <= k := by decide) (hg : Gl X "len" := by rfl) (hs : starEach [a] X.env = [(false, eval a X.env)] := by rfl) : PE X (.Call (.Name "len" p) [a] [] pos) (cC X.K W (m1 (Bw C md) ma)) :=
 cP (pe_callB (Hz F (hr.mono hjk)) hg hm boot_len (pa_cons ha pa_nil hs) (he := hs)) fun σ H Q h => bP (k := fun x _ S => Bw C md x S) h fun B φ S ρ d v H1 I E r f => by
  unfold Bw at f;split at f
  ·rename_i hi
   obtain ⟨a, dx, fs, rfl, h1, h2⟩ := qW I r hi;refine ⟨dx, fs, h1, B, φ, S, [d], I, ⟨_, _, rfl, r, rfl⟩, ?_⟩
   unfold Os at f;split at f
   ·rename_i n S' q
    rw [q];split at f
    ·rename_i hn
     intro φ' v H' I' X' r';cases r';exact ⟨hn, f φ' _ H' I' X' rfl⟩
    ·exact f.elim
   ·exact f.elim
  ·exact f.elim
def Kq (r : Res Vl) : Res Vl := match r with
 | .ok (.dat (.bl n)) S => .ok (.dat (.bl n)) S
 | _ => .stuck
theorem Cz {n : Int} {x : Str} (h : ∃ t, X.mg x = some (.int n t)) (hg : Gl X x := by rfl) (hd : (x == ("__debug__" : Str)) = false := by decide) : PE X (.Name x pos) (cC X.K W (mC (.int n))) := KR (Q9 h hg hd) fun _ _ => rfl
end
section
variable {P : Program} {w : World} {K : aA} {mg : Str -> Option Value} {base : Heap}
def sH : FD := fun _ _ => .stuck
theorem wF {x : Str} {st : Stmt} {N ps : List Str} {k : Nat} (F : uM K x st) (g : mg x = some (.ref (He.ga K x))) (S : FnScope N ps (defScope st))
  (bnd : ∀ (kV doc pm : Value) (an : Option Addr) (cdv ct : Value) (us : List Value), us.length = ps.length -> bindArgs (cD x x (defArgs st) (defBody st) (defScope st) .none kV doc pm an cdv ct) ⟨us, []⟩ = pure (ps.zip us)) : uL P w K mg base (k + 1) x ps (spF K sH) :=
 JH F g S (fun vs H Q E ⟨_, _, _, _, _, _, f⟩ => f.elim) bnd fun cdv A outer s H vs Q E hr ⟨_, _, _, _, _, _, f⟩ => f.elim
end
theorem Gq {K : aA} {a : Addr} {vs : List V} (h : Ej K a vs = true) (H : Hp) : SqT K H a vs := by
 unfold Ej at h;cases q : K.lookup a with
 | none => rw [q] at h; cases h
 | some o =>
  obtain ⟨oc, od, dt, osl⟩ := o;rw [q] at h;cases oc with
  | type c =>
   cases dt with
   | seq its n =>
    obtain ⟨h1, h2⟩ := He.ba (show (decide (c = "tuple") && (decide (its.size <= sizeLine) && He.relAll vs its.toList)) = true from h)
    obtain ⟨h3, h4⟩ := He.ba h2;exact .inr ⟨_, its, n, q, congrArg Value.type (of_decide_eq_true h1), rfl, of_decide_eq_true h3, He.relAll_ok h4⟩
   | _ => cases h
  | _ => cases dt <;> cases h
theorem IC {fa : List He.Fa} {fn : List He.DefD} {ts : List He.Tab} {w : World} {K : aA} (c : He.SaysT fa fn ts w K) (i : Nat) {t : He.Tab} (h : ts[i]? = some t := by rfl) : He.dicW K (t.1 K) = some (He.keysIn w.params t.2) := by
 have e : ts.map (fun t => He.dicW K (t.1 K)) = ts.map fun t => some (He.keysIn w.params t.2) := congrArg (fun z : He.AlT => z.2) c
 have e2 : (ts.map fun t => He.dicW K (t.1 K))[i]? = (ts.map fun t => some (He.keysIn w.params t.2))[i]? := by rw [e]
 rw [bG, bG, h] at e2;exact Option.some.inj e2
theorem Bi {P : Params} {z : Str} : ∀ {l : List DictEntry} {ks : List Str}, l.map He.keyOf = He.keysIn P ks -> z ∉ ks -> (l.find? (·.key.isStr z) = none) /\ l.any (·.refKey) = false
 | [], _, _, _ => ⟨rfl, rfl⟩
 | e :: r, [], h, _ => by cases h
 | e :: r, k :: ks, h, hz => by
  have h1 : He.keyOf e :: r.map He.keyOf = some (k, PyData.keyHash P k) :: He.keysIn P ks := h
  injection h1 with h2 h3
  obtain ⟨i1, i2⟩ := Bi h3 (fun m => hz (aM _ m))
  unfold He.keyOf at h2;split at h2
  ·rename_i x t q
   obtain ⟨h5, h6⟩ := Prod.mk.inj (Option.some.inj h2);have nz : e.key.isStr z = false := by
    rw [q]
    show decide (x = z) = false
    exact decide_eq_false fun e => hz (by rw [<- e, h5]; exact aY ..)
   constructor
   ·rw [List.find?_cons, nz]; exact i1
   ·rw [List.any_cons, i2, Bool.or_false]
    show e.refKey = false
    unfold DictEntry.refKey;rw [q]
  ·cases h2
theorem HU {K : aA} {P : Params} {a : Addr} {ks : List Str} {z : Str} (h : He.dicW K a = some (He.keysIn P ks)) (hz : z ∉ ks) : iQ K a z = some none := by
 unfold He.dicW at h;cases q : K.lookup a with
 | none => rw [q] at h; cases h
 | some o =>
  obtain ⟨oc, od, dt, osl⟩ := o;rw [q] at h;cases oc with
  | type c =>
   cases od with
   | none =>
    cases dt with
    | dict es n =>
     have h1 : (match decide (c = "dict") && (osl.isEmpty && !(a == sysModules)) with
      | true => some (es.toList.map He.keyOf)
      | false => none) = some (He.keysIn P ks) := h
     cases y : decide (c = "dict") && (osl.isEmpty && !(a == sysModules)) with
     | false => rw [y] at h1; cases h1
     | true =>
      rw [y] at h1;obtain ⟨i1, i2⟩ := Bi (Option.some.inj h1) hz;unfold iQ;rw [q]
      show (match es.toList.find? (·.key.isStr z) with | some e => some (some e.val) | none => if es.toList.any (·.refKey) then none else some none) = some none
      rw [i1, i2];rfl
    | _ => cases h
   | some b => cases dt <;> cases h
  | _ => cases od <;> cases dt <;> cases h
theorem sU {κ β : Type} [BEq κ] [LawfulBEq κ] {z : κ} {v : β} : ∀ {l : List (κ × β)}, l.lookup z = some v -> (z, v) ∈ l
 | [], h => by cases h
 | (k, u) :: r, h => by
  rw [eZ] at h;cases e : z == k with
  | true =>
   rw [e] at h;have e2 : z = k := eq_of_beq e;have e3 : u = v := Option.some.inj h;rw [e2, e3];exact aY ..
  | false =>
   rw [e] at h;exact aM _ (sU h)
theorem lookup_none {κ β : Type} [BEq κ] [LawfulBEq κ] {z : κ} : ∀ {l : List (κ × β)}, l.lookup z = none -> z ∉ l.map (·.1)
 | [], _ => by simp
 | (k, u) :: r, h => by
  rw [eZ] at h;cases e : z == k with
  | true => rw [e] at h; cases h
  | false =>
   rw [e] at h;have ne : z ≠ k := by simpa using e
   intro m;rcases bN.mp m with m | m
   ·exact ne m
   ·exact lookup_none h m
theorem Oq {K : aA} {P : Params} (h : limB K = true) (d : He.dicW K (He.ga K "LIMITS") = some (He.keysIn P (limits.map (·.1)))) : Lim K where
 pos := fun z m lo hi e => by
  obtain ⟨h1, h2⟩ := He.ba (bD.mp h (z, m, lo, hi) (sU e));exact ⟨He.eqO_ok h1, Gq h2⟩
 neg := fun z e => HU d (lookup_none e)
theorem Lr {K : aA} {C : Addr} (q : Ob K C = true) : ∃ nm q N bs bm sn sub ab col dd k0 k1 k2 k3 k5, K.lookup C = some (excClassObj nm q C N bs bm true sn sub ab col dd k0 k1 k2 k3 k5 "ValueError.__new__") /\ PySem.HandSPX.refsVE bm = true := by
 unfold Ob at q;split at q
 ·rename_i dd cd sl ho
  split at q
  ·rename_i C' bm k0 k1 k2 k3 n k5 hm hs
   simp only [bV, beq_iff_eq, Bool.not_eq_true'] at q;obtain ⟨⟨⟨⟨rfl, rfl⟩, hdel⟩, hdi⟩, hbm⟩ := q;obtain ⟨nm, bs, mro, ns, qn, hd, sn, sub, ab, col, del⟩ := cd;dsimp only at hm hdel hdi;subst hm hdel hdi;have hsl : sl = #[k0, k1, k2, k3, some (.builtin "ValueError.__new__"), k5] := by
    obtain ⟨l⟩ := sl;simp only at hs;rw [hs]
   subst hsl;exact ⟨nm, qn, ns, bs, bm, sn, sub, ab, col, dd, k0, k1, k2, k3, k5, ho, hbm⟩
  ·cases q
 ·cases q
structure XaF (K : aA) (mg : Str -> Option Value) (x : Str) (fs : List Str) : Prop where
 cls : OexC K (He.ga K x)
 ini : eX K (.ref (He.ga K x)) "__init__" = some (some (.ref (He.ma K (He.ga K x) "__init__")))
 ty : kI K (.ref (He.ma K (He.ga K x) "__init__")) = some (.type "function")
 glo : mg x = some (.ref (He.ga K x))
 rd : XfC K (He.ga K x)
 no : ∀ f ∈ fs, eX K (.ref (He.ga K x)) f = some none
theorem IL {K : aA} {mg : Str -> Option Value} {x : Str} {fs : List Str} (h : xaB K x fs = true) (g : mg x = some (.ref (He.ga K x))) : XaF K mg x fs := by
 obtain ⟨h1, h⟩ := He.ba h;obtain ⟨h2, h⟩ := He.ba h;obtain ⟨h3, h⟩ := He.ba h;obtain ⟨h4, h⟩ := He.ba h;obtain ⟨h5, h⟩ := He.ba h;obtain ⟨h6, h⟩ := He.ba h;obtain ⟨h7, h⟩ := He.ba h;obtain ⟨h8, h9⟩ := He.ba h;exact ⟨⟨Lr h1, of_decide_eq_true h2, of_decide_eq_true h3, of_decide_eq_true h4, h5⟩, of_decide_eq_true h6, of_decide_eq_true h7, g, xfB_ok h8, fun f hf => of_decide_eq_true (bD.mp h9 f hf)⟩
section
variable {P : Program} {w : World} {K : aA} {mg : Str -> Option Value} {base : Heap}
theorem Ib {C : Addr} {f a b : Str} : ∀ vs H Q E, OR C f vs H Q E -> vs.length = [a, b].length := fun vs H Q E ⟨_, _, e, _⟩ => by rw [e]; rfl
theorem Ia {C : Addr} {f g a b c : Str} : ∀ vs H Q E, OQ C f g vs H Q E -> vs.length = [a, b, c].length := fun vs H Q E ⟨_, _, _, e, _⟩ => by rw [e]; rfl
theorem JJ {x m q : Str} {fs : List Str} {st : Stmt} {N ps : List Str} {k : Nat} {sp : Sp} (T : XaF K mg x fs) (F : B5 K x "__init__" q st) (S : FnScope N ps (defScope st)) (len : ∀ vs H Q E, sp vs H Q E -> vs.length = ps.length)
  (bnd : ∀ (kV doc pm : Value) (an : Option Addr) (cdv ct : Value) (us : List Value), us.length = ps.length -> bindArgs (cD "__init__" q (defArgs st) (defBody st) (defScope st) .none kV doc pm an cdv ct) ⟨us, []⟩ = pure (ps.zip us))
  (hbody : ∀ (cdv : Value) (A : Around) (outer : List Env) (s : Shared) (H : Hp) (vs : List V) (Q : VK) (E : XK), Room k (A.deeper (envOfC q (defScope st) s.heap.objs.size (He.ma K (He.ga K x) "__init__") cdv)) -> sp vs H Q E ->
   ∃ t, PSs (cxOf CX0 P w K mg base N q (defScope st) (He.ma K (He.ga K x) "__init__") cdv A outer s H E).nox (defBody st) t /\ t { nx := fun _ H' => Q .non H', rt := Q } (start N vs) H) : XcA P w K mg base (k + 1) x ps sp := by
 obtain ⟨fd, F⟩ := F;refine ⟨T.cls, T.ini, T.ty, ⟨fd, FunD.ok F S len fun cdv A outer s H vs Q E hr hsp => ?_, F.bindsN bnd⟩, T.glo⟩
 obtain ⟨t, h, q⟩ := hbody cdv A outer s H vs Q E hr hsp;exact ⟨t, h.nox, q⟩
end
section
variable {X : Cx} {W : WX} {e a b c o i : Expr} {es rest : List Expr} {pos p q p2 tpos apos cpos pos' np : Pos} {x y z f mn C : Str} {K : aA} {ma mb mc mo mx : FE} {mas : FA} {B : Addr -> Prop} {φ φ' : List Addr} {S S' : aJ} {H H' : Hp} {σ : L2.St} {Q : VK} {m n : FS} {D : Ends} {ps : List Str} {md : FD} {j k : Nat}
theorem Q2 {i j : Nat} {px py pt : Pos} {kt k2 pt2} (hc : X.calm = true) (hN : X.N.Nodup) (hi : X.N[i]? = some x) (hj : X.N[j]? = some y) (hij : i ≠ j)
  (hx : X.env.scope.names.lookup x = some .local) (hy : X.env.scope.names.lookup y = some .local) (ha : PE X a (cC X.K W ma)) (hb : PE X b (cC X.K W mb))
  (hw : swappedStores [.Tuple [.Name x px, .Name y py] kt pt] (.Tuple [a, b] k2 pt2) X.env = pure (some [x, y]))
  (hs : swapsWithSole [.Tuple [.Name x px, .Name y py] kt pt] (.Tuple [a, b] k2 pt2) pos.line X.env = pure false := by rfl) (h1 : starEach [a, b] X.env = (false, eval a X.env) :: starEach [b] X.env := by rfl) (h2 : starEach [b] X.env = (false, eval b X.env) :: starEach [] X.env := by rfl) :
  PS X (.Assign [.Tuple [.Name x px, .Name y py] kt pt] (.Tuple [a, b] k2 pt2) pos) (jL X.K W (mPar i j ma mb)) := fD (ps_par hc hN hi hj hij hx hy (pa_cons ha (pa_cons hb pa_nil h2) h1) hw hs) fun D σ H h => by
 obtain ⟨B, φ, S, ρ, I, E, f⟩ := h;exact bT I E f fun φ1 S1 d1 v1 H1 I1 X1 E1 r1 f1 => bT I1 E1 f1 fun φ2 S2 d2 v2 H2 I2 X2 E2 r2 f2 => ⟨_, _, rfl, f2 φ2 _ H2 I2 Ext.refl ((E2.set (r1.ext X2 I1) i).set r2 j)⟩
def NX (n : Nat) : List PH.D := (aO n).map fun (k : Nat) => PH.D.int (((n : Nat) : Int) - 1 - (k : Int))
def Oi (a : FE) : FI := fun ρ S => (a ρ S).bind fun x S1 => match x with
 | .dat (.int j) => if -(2 ^ 62) <= j /\ j < 2 ^ 62 then .ok (NX j.toNat) S1 else .stuck
 | _ => .stuck
end
theorem rd_X1 {K : aA} {mg : Str -> Option Value} {x f : Str} {fs : List Str} {a : Addr} {y : V} {H : Hp} {Q : VK} {D : Ends} (T : XaF K mg x fs) (hf : f ∈ fs) (ha : H a = some (exo a (He.ga K x) none)) (hD : ∀ σ H, D.nx σ H = Q .non H) (h : ∀ dx, H dx = none -> dx ≠ a -> Q .non (upd (upd H dx (exd dx [(f, y)])) a (exo a (He.ga K x) (some dx)))) :
  tOst K f (yQ 0) (yQ 1) D [some (.ref a), some y] H := ⟨a, He.ga K x, rfl, T.cls, T.no f hf, .inl ⟨ha, fun dx n ne => by rw [hD]; exact h dx n ne⟩⟩
theorem rd_X2 {K : aA} {mg : Str -> Option Value} {x f g : Str} {fs : List Str} {a : Addr} {y z : V} {H : Hp} {Q : VK} {D : Ends} (T : XaF K mg x fs) (hf : f ∈ fs) (hg : g ∈ fs) (ha : H a = some (exo a (He.ga K x) none)) (hD : ∀ σ H, D.nx σ H = Q .non H) (h : ∀ dx, H dx = none -> dx ≠ a -> Q .non (upd (upd (upd H dx (exd dx [(f, y)])) a (exo a (He.ga K x) (some dx))) dx (exd dx [(g, z), (f, y)]))) :
  tSeq (tOst K f (yQ 0) (yQ 1)) (tOst K g (yQ 0) (yQ 2)) D [some (.ref a), some y, some z] H :=
 ⟨a, He.ga K x, rfl, T.cls, T.no f hf, .inl ⟨ha, fun dx n ne => ⟨a, He.ga K x, rfl, T.cls, T.no g hg, .inr ⟨dx, [(f, y)], upd_same, by rw [upd_ne ne, upd_same], by simp, by rw [hD]; exact h dx n ne⟩⟩⟩⟩
section
variable {α β : Type} {a b c o i e : FE} {r : FA} {t u : FT} {m n : FS} {ρ : Ev} {S : aJ} {x y z : Vl} {f g : Vl -> Vl -> aJ -> Res Vl} {h : Vl -> aJ -> Res Vl} {md : FD}
theorem eN {d : α} {k : α -> aJ -> Res β} : (Res.ok d S).bind k = k d S := rfl
theorem An {x : Er} {k : α -> aJ -> Res β} : (Res.err x S : Res α).bind k = .err x S := rfl
theorem pW {d : α} {k : α -> aJ -> Out} : (Res.ok d S).toS ρ k = k d S := rfl
theorem Hi {x : Er} {k : α -> aJ -> Out} : (Res.err x S : Res α).toS ρ k = .err x ρ S := rfl
theorem O5 {k : Nat} : aB k ρ S = (match lk ρ k with | some d => .ok d S | none => .stuck) := rfl
theorem g_c {d : D} : mC d ρ S = .ok (.dat d) S := rfl
def kOp1 (f : Vl -> Vl -> aJ -> Res Vl) (b : FE) (ρ : Ev) (x : Vl) (S : aJ) : Res Vl := (b ρ S).bind (f x)
theorem g_op : aS f a b ρ S = (a ρ S).bind (kOp1 f b ρ) := rfl
theorem g_op1 : kOp1 f b ρ x S = (b ρ S).bind (f x) := rfl
theorem g_1 : m1 h a ρ S = (a ρ S).bind h := rfl
theorem g_B : mB a ρ S = (a ρ S).bind unB := rfl
theorem g_unB {k : Bool} : unB (.dat (.bl k)) S = .ok k S := rfl
theorem Jq : cY a ρ S = (a ρ S).bind AG := rfl
def P3 (u : FT) (ρ : Ev) (c : Bool) (S : aJ) : Res Bool := if c = true then u ρ S else .ok false S
def kOr (u : FT) (ρ : Ev) (c : Bool) (S : aJ) : Res Bool := if c = true then .ok true S else u ρ S
def kNot (c : Bool) (S : aJ) : Res Bool := .ok (!c) S
theorem g_and : M3 t u ρ S = (t ρ S).bind (P3 u ρ) := rfl
theorem g_or : Ac t u ρ S = (t ρ S).bind (kOr u ρ) := rfl
theorem O7 : iU t ρ S = (t ρ S).bind kNot := rfl
theorem Jv : P3 u ρ true S = u ρ S := rfl
theorem Jw : P3 u ρ false S = .ok false S := rfl
theorem MS : kOr u ρ true S = .ok true S := rfl
theorem MT : kOr u ρ false S = u ρ S := rfl
theorem Pm {c : Bool} : kNot c S = .ok (!c) S := rfl
def Je (b : FE) (ρ : Ev) (x : Vl) (S : aJ) : Res Vl := match x with
 | .dat (.bl c) => if c = true then b ρ S else .ok (.dat (.bl false)) S
 | _ => .stuck
def Ox (b : FE) (ρ : Ev) (x : Vl) (S : aJ) : Res Vl := match x with
 | .dat (.bl c) => if c = true then .ok (.dat (.bl true)) S else b ρ S
 | _ => .stuck
theorem Py : iO a b ρ S = (a ρ S).bind (Je b ρ) := rfl
theorem g_orV : mOrV a b ρ S = (a ρ S).bind (Ox b ρ) := rfl
theorem Hn : Je b ρ (.dat (.bl true)) S = b ρ S := rfl
theorem Ho : Je b ρ (.dat (.bl false)) S = .ok (.dat (.bl false)) S := rfl
theorem Jt : Ox b ρ (.dat (.bl true)) S = .ok (.dat (.bl true)) S := rfl
theorem Ju : Ox b ρ (.dat (.bl false)) S = b ρ S := rfl
def kNV (k : Bool) (S : aJ) : Res Vl := .ok (.dat (.bl (!k))) S
def Ny (x : Vl) (S : aJ) : Res Vl := (AG x S).bind kNV
theorem Pd : GD a ρ S = (a ρ S).bind Ny := rfl
theorem MZ : Ny x S = (AG x S).bind kNV := rfl
theorem g_kNV {k : Bool} : kNV k S = .ok (.dat (.bl (!k))) S := rfl
def GH (b : FE) (ρ : Ev) (x : Vl) (k : Bool) (S : aJ) : Res Vl := if k = true then .ok x S else b ρ S
def kOrT (b : FE) (ρ : Ev) (x : Vl) (S : aJ) : Res Vl := (AG x S).bind (GH b ρ x)
theorem g_orT : Oj a b ρ S = (a ρ S).bind (kOrT b ρ) := rfl
theorem Po : kOrT b ρ x S = (AG x S).bind (GH b ρ x) := rfl
theorem Jx : GH b ρ x true S = .ok x S := rfl
theorem Jy : GH b ρ x false S = b ρ S := rfl
theorem Jp {k : Bool} : AG (.dat (.bl k)) S = .ok k S := rfl
def MA (g : Vl -> Vl -> aJ -> Res Vl) (c : FE) (ρ : Ev) (y z : Vl) (S : aJ) : Res Vl := match z with
 | .dat (.bl k) => if k = true then (c ρ S).bind (g y) else .ok (.dat (.bl false)) S
 | _ => .stuck
def P0 (f g : Vl -> Vl -> aJ -> Res Vl) (c : FE) (ρ : Ev) (x y : Vl) (S : aJ) : Res Vl := (f x y S).bind (MA g c ρ y)
def kCh1 (f g : Vl -> Vl -> aJ -> Res Vl) (b c : FE) (ρ : Ev) (x : Vl) (S : aJ) : Res Vl := (b ρ S).bind (P0 f g c ρ x)
theorem Mi : iD f g a b c ρ S = (a ρ S).bind (kCh1 f g b c ρ) := rfl
theorem g_ch1 : kCh1 f g b c ρ x S = (b ρ S).bind (P0 f g c ρ x) := rfl
theorem g_ch2 : P0 f g c ρ x y S = (f x y S).bind (MA g c ρ y) := rfl
theorem Mj : MA g c ρ y (.dat (.bl true)) S = (c ρ S).bind (g y) := rfl
theorem Ml : MA g c ρ y (.dat (.bl false)) S = .ok (.dat (.bl false)) S := rfl
def kIf (a b : FE) (ρ : Ev) (c : Bool) (S : aJ) : Res Vl := if c = true then a ρ S else b ρ S
theorem g_if : mIf t a b ρ S = (t ρ S).bind (kIf a b ρ) := rfl
theorem MU : kIf a b ρ true S = a ρ S := rfl
theorem MV : kIf a b ρ false S = b ρ S := rfl
theorem Js : aL ρ S = .ok [] S := rfl
def FB (x : Vl) (xs : List Vl) (S : aJ) : Res (List Vl) := .ok (x :: xs) S
def Ja (r : FA) (ρ : Ev) (x : Vl) (S : aJ) : Res (List Vl) := (r ρ S).bind (FB x)
theorem FN : aD a r ρ S = (a ρ S).bind (Ja r ρ) := rfl
theorem Ct : Ja r ρ x S = (r ρ S).bind (FB x) := rfl
theorem Cs {xs : List Vl} : FB x xs S = .ok (x :: xs) S := rfl
def Hc (cl : Bool) (xs : List Vl) (S : aJ) : Res Vl := match vI xs with
 | some ds => if ds.length <= sizeLine then newL cl ds S else .stuck
 | none => .stuck
def kTup (xs : List Vl) (S : aJ) : Res Vl := match vI xs with
 | some ds => if ds.length <= sizeLine then .ok (.dat (.tup ds)) S else .stuck
 | none => .stuck
theorem g_lst {cl : Bool} : jM cl r ρ S = (r ρ S).bind (Hc cl) := rfl
theorem g_tup : cK r ρ S = (r ρ S).bind kTup := rfl
theorem FQ : vI [] = some [] := rfl
theorem E8 {d : D} {xs : List Vl} : vI (.dat d :: xs) = (match vI xs with | some ds => some (d :: ds) | none => none) := rfl
theorem kTup0 : kTup [] S = .ok (.dat (.tup [])) S := rfl
theorem kTup1 {d : D} : kTup [.dat d] S = .ok (.dat (.tup [d])) S := rfl
theorem kTup2 {d e : D} : kTup [.dat d, .dat e] S = .ok (.dat (.tup [d, e])) S := rfl
theorem kTup3 {d e f : D} : kTup [.dat d, .dat e, .dat f] S = .ok (.dat (.tup [d, e, f])) S := rfl
theorem kTup4 {d e f g : D} : kTup [.dat d, .dat e, .dat f, .dat g] S = .ok (.dat (.tup [d, e, f, g])) S := rfl
theorem kLst0 {cl : Bool} : Hc cl [] S = newL cl [] S := rfl
theorem kLst1 {cl : Bool} {d : D} : Hc cl [.dat d] S = newL cl [d] S := rfl
theorem kLst2 {cl : Bool} {d e : D} : Hc cl [.dat d, .dat e] S = newL cl [d, e] S := rfl
theorem kLst3 {cl : Bool} {d e f : D} : Hc cl [.dat d, .dat e, .dat f] S = newL cl [d, e, f] S := rfl
theorem Pf {ds : List D} : newL false ds S = .ok (.dat (.lst ds)) S := rfl
theorem Pe {ds : List D} : newL true ds S = .ok (.cel S.length) (S ++ [.lst ds]) := rfl
theorem FP : bB md r ρ S = (r ρ S).bind md := rfl
def Ov (cl : Bool) (x : Vl) (lo : Option Int) (hi : Option Int) (S : aJ) : Res Vl := BI cl x lo hi S
def Ow (cl : Bool) (h : FO) (ρ : Ev) (x : Vl) (lo : Option Int) (S : aJ) : Res Vl := (h ρ S).bind (Ov cl x lo)
def kSl0 (cl : Bool) (l h : FO) (ρ : Ev) (x : Vl) (S : aJ) : Res Vl := (l ρ S).bind (Ow cl h ρ x)
theorem g_sl {cl : Bool} {l h : FO} : Ca cl a l h ρ S = (a ρ S).bind (kSl0 cl l h ρ) := rfl
theorem g_sl0 {cl : Bool} {l h : FO} : kSl0 cl l h ρ x S = (l ρ S).bind (Ow cl h ρ x) := rfl
theorem g_sl1 {cl : Bool} {h : FO} {lo : Option Int} : Ow cl h ρ x lo S = (h ρ S).bind (Ov cl x lo) := rfl
theorem g_sl2 {cl : Bool} {lo hi : Option Int} : Ov cl x lo hi S = BI cl x lo hi S := rfl
theorem g_noP : zX ρ S = .ok none S := rfl
def Nx (x : Vl) (S : aJ) : Res (Option Int) := match x with
 | .dat (.int i) => .ok (some i) S
 | _ => .stuck
theorem Pc : gH a ρ S = (a ρ S).bind Nx := rfl
theorem MY {i : Int} : Nx (.dat (.int i)) S = .ok (some i) S := rfl
def Oz (x : Vl) (S : aJ) : Res Vl := match x with
 | .cel n => (match S[n]? with
  | some (.lst ds) => .ok (.dat (.lst ds)) (S.set n .dead)
  | _ => .stuck)
 | _ => .stuck
theorem g_frz : M0 a ρ S = (a ρ S).bind Oz := rfl
theorem K5 {n : Nat} {ds : List D} (h : S[n]? = some (.lst ds)) : Oz (.cel n) S = .ok (.dat (.lst ds)) (S.set n .dead) := by simp only [Oz, h]
def zY (b : FE) (ρ : Ev) (x : Vl) (S : aJ) : Res Vl := match nJ S x with
 | some _ => (b ρ S).bind (EE x)
 | none => .stuck
theorem g_app : jN a b ρ S = (a ρ S).bind (zY b ρ) := rfl
theorem rA {n : Nat} {ds : List D} (h : S[n]? = some (.lst ds)) : zY b ρ (.cel n) S = (b ρ S).bind (EE (.cel n)) := by simp only [zY, nJ, h]
theorem sX {n : Nat} {ds : List D} {d : D} (h : S[n]? = some (.lst ds)) (hl : ds.length < sizeLine) : EE (.cel n) (.dat d) S = .ok (.dat .non) (S.set n (.lst (ds ++ [d]))) := by simp only [EE, h, hl, if_true]
def Out.seq (o : Out) (n : FS) : Out := match o with
 | .next ρ S => n ρ S
 | o => o
theorem O6 : aR m n ρ S = (m ρ S).seq n := rfl
theorem FM : (Out.next ρ S).seq n = n ρ S := rfl
theorem Hj {d : Vl} : (Out.ret d S).seq n = .ret d S := rfl
theorem Hk {x : Er} : (Out.err x ρ S).seq n = .err x ρ S := rfl
theorem Hm : (Out.brk ρ S).seq n = .brk ρ S := rfl
theorem Hl : (Out.cnt ρ S).seq n = .cnt ρ S := rfl
theorem PX : bK ρ S = .next ρ S := rfl
def kRet (d : Vl) (S : aJ) : Out := .ret d S
theorem g_ret : bU a ρ S = (a ρ S).toS ρ kRet := rfl
theorem Pn {d : Vl} : kRet d S = .ret d S := rfl
def O1 (ρ : Ev) (d : Vl) (S : aJ) : Out := .next ρ S
theorem Px : cH a ρ S = (a ρ S).toS ρ (O1 ρ) := rfl
theorem Md {d : Vl} : O1 ρ d S = .next ρ S := rfl
def Oy (m n : FS) (ρ : Ev) (c : Bool) (S : aJ) : Out := if c = true then m ρ S else n ρ S
theorem O8 : bS t m n ρ S = (t ρ S).toS ρ (Oy m n ρ) := rfl
theorem K3 : Oy m n ρ true S = m ρ S := rfl
theorem K4 : Oy m n ρ false S = n ρ S := rfl
def Jd (t : Tg) (ρ : Ev) (d : Vl) (S : aJ) : Out := match rV t d ρ with
 | some ρ' => .next ρ' S
 | none => .stuck
theorem O9 {t : Tg} : cF a t ρ S = (a ρ S).toS ρ (Jd t ρ) := rfl
theorem Pq {k : Nat} {d : Vl} : Jd (.nm k) ρ d S = .next (ρ.set k (some d)) S := rfl
theorem Mf {i j : Nat} {d e : D} : Jd (.tp [i, j]) ρ (.dat (.tup [d, e])) S = .next ((ρ.set i (some (.dat d))).set j (some (.dat e))) S := rfl
theorem Me {i j k : Nat} {d e f : D} : Jd (.tp [i, j, k]) ρ (.dat (.tup [d, e, f])) S = .next (((ρ.set i (some (.dat d))).set j (some (.dat e))).set k (some (.dat f))) S := rfl
def kFor (t : Tg) (m : FS) (ρ : Ev) (ds : List D) (S : aJ) : Out := loop t m ds ρ S
theorem g_for {mi : FI} {t : Tg} : uB mi t m ρ S = (mi ρ S).toS ρ (kFor t m ρ) := rfl
theorem Pp {t : Tg} {ds : List D} : kFor t m ρ ds S = loop t m ds ρ S := rfl
def Cf (cl : Bool) (t : Tg) (u : FT) (e : FE) (ρ : Ev) (vs : List Nat) (ds : List D) (S : aJ) : Res Vl := if ds.length <= sizeLine then (match mI t u e (wipeE ρ vs) ds S with
 | .ok es S2 => newL cl es S2
 | _ => .stuck) else .stuck
theorem g_lc {cl : Bool} {mi : FI} {t : Tg} {vs : List Nat} : BH cl mi t u e vs ρ S = (mi ρ S).bind (Cf cl t u e ρ vs) := rfl
theorem PZ : pV a ρ S = (a ρ S).bind itemsOf := rfl
theorem KA {ds : List D} : itemsOf (.dat (.lst ds)) S = .ok ds S := rfl
theorem K9 {ds : List D} : itemsOf (.dat (.tup ds)) S = .ok ds S := rfl
def zG (x : Vl) (S : aJ) : Res (List D) := match x with
 | .dat (.int j) => if -(2 ^ 62) <= j /\ j < 2 ^ 62 then .ok (iB 0 j.toNat) S else .stuck
 | _ => .stuck
theorem Pa : jS a ρ S = (a ρ S).bind zG := rfl
theorem oR {j : Int} (h1 : -(2 ^ 62) <= j) (h2 : j < 2 ^ 62) : zG (.dat (.int j)) S = .ok (iB 0 j.toNat) S := by unfold zG; exact if_pos ⟨h1, h2⟩
def kRev1 (x : Vl) (S : aJ) : Res (List D) := match x with
 | .dat (.int j) => if -(2 ^ 62) <= j /\ j < 2 ^ 62 then .ok (NX j.toNat) S else .stuck
 | _ => .stuck
theorem MO : Oi a ρ S = (a ρ S).bind kRev1 := rfl
def O0 (x : Vl) (S : aJ) : Res (List D) := match x with
 | .dat (.lst ds) => .ok (dH 0 ds) S
 | _ => .stuck
theorem Pw : Bc a ρ S = (a ρ S).bind O0 := rfl
theorem Mb {ds : List D} : O0 (.dat (.lst ds)) S = .ok (dH 0 ds) S := rfl
def Out.wipe (o : Out) (is : List Nat) : Out := match o with
 | .next ρ S => .next (wipeE ρ is) S
 | .cnt ρ S => .cnt (wipeE ρ is) S
 | .brk ρ S => .brk (wipeE ρ is) S
 | o => o
theorem PP {is : List Nat} : jK is m ρ S = (m ρ S).wipe is := by unfold jK Out.wipe; cases m ρ S <;> rfl
theorem Dx {is : List Nat} : (Out.next ρ S).wipe is = .next (wipeE ρ is) S := rfl
theorem FJ {is : List Nat} {d : Vl} : (Out.ret d S).wipe is = .ret d S := rfl
theorem FK {is : List Nat} {x : Er} : (Out.err x ρ S).wipe is = .err x ρ S := rfl
theorem Pz {cl : Bool} {i j : Int} : eR cl (.dat (.int i)) (.dat (.int j)) S = .ok (.dat (.int (i + j))) S := rfl
theorem PV {i j : Int} : vC (.dat (.int i)) (.dat (.int j)) S = .ok (.dat (.int (i - j))) S := rfl
theorem qZ {i j : Int} (h : 0 < j) : Ap (.dat (.int i)) (.dat (.int j)) S = .ok (.dat (.int (i % j))) S := if_pos h
theorem nS {i j : Int} (h : IntMulOk i j) : mK (.dat (.int i)) (.dat (.int j)) S = .ok (.dat (.int (i * j))) S := if_pos h
theorem Cr {i j : Int} (h : CDiv i j) : Bx (.dat (.int i)) (.dat (.int j)) S = .ok (.dat (.int (i / j))) S := if_pos h
theorem g_ltI {i j : Int} : KZ (.dat (.int i)) (.dat (.int j)) S = .ok (.dat (.bl (decide (i < j)))) S := rfl
theorem g_leI {i j : Int} : Eh (.dat (.int i)) (.dat (.int j)) S = .ok (.dat (.bl (decide (i <= j)))) S := rfl
theorem g_gtI {i j : Int} : OB (.dat (.int i)) (.dat (.int j)) S = .ok (.dat (.bl (decide (j < i)))) S := rfl
theorem g_geI {i j : Int} : fGe (.dat (.int i)) (.dat (.int j)) S = .ok (.dat (.bl (decide (j <= i)))) S := rfl
theorem g_eqI {i j : Int} : hW (.dat (.int i)) (.dat (.int j)) S = .ok (.dat (.bl (decide (i = j)))) S := rfl
theorem g_neI {i j : Int} : GT (.dat (.int i)) (.dat (.int j)) S = .ok (.dat (.bl (!decide (i = j)))) S := rfl
theorem g_eqS {i j : Str} : hW (.dat (.str i)) (.dat (.str j)) S = .ok (.dat (.bl (decide (i = j)))) S := rfl
theorem g_neS {i j : Str} : GT (.dat (.str i)) (.dat (.str j)) S = .ok (.dat (.bl (!decide (i = j)))) S := rfl
theorem g_eqB {i j : Bool} : hW (.dat (.bl i)) (.dat (.bl j)) S = .ok (.dat (.bl (i == j))) S := by cases i <;> cases j <;> rfl
theorem g_neB {i j : Bool} : GT (.dat (.bl i)) (.dat (.bl j)) S = .ok (.dat (.bl (!(i == j)))) S := by cases i <;> cases j <;> rfl
theorem g_neg {i : Int} : D0 (.dat (.int i)) S = .ok (.dat (.int (-i))) S := rfl
theorem Pr {i : Int} : zZ (.dat (.int i)) S = .ok (.dat (.int i)) S := rfl
theorem Pt {k : Bool} : zZ (.dat (.bl k)) S = .ok (.dat (.int (if k then 1 else 0))) S := rfl
theorem Pj {xs : List D} : eY (.dat (.tup xs)) S = .ok (.dat (.int xs.length)) S := rfl
theorem Pk {xs : List D} : eY (.dat (.lst xs)) S = .ok (.dat (.int xs.length)) S := rfl
theorem Cq {n : Nat} {xs : List D} (h : S[n]? = some (.lst xs)) : eY (.cel n) S = .ok (.dat (.int xs.length)) S := by simp only [eY, nJ, h]
theorem Bt {xs : List D} {k : Int} {d : D} (h : atI xs k = some d) : bQ (.dat (.tup xs)) (.dat (.int k)) S = .ok (.dat d) S := by simp only [bQ, h]
theorem sW {xs : List D} {k : Int} {d : D} (h : atI xs k = some d) : bQ (.dat (.lst xs)) (.dat (.int k)) S = .ok (.dat d) S := by simp only [bQ, nJ, h]
theorem K8 {n : Nat} {xs : List D} {k : Int} {d : D} (h : S[n]? = some (.lst xs)) (h2 : atI xs k = some d) : bQ (.cel n) (.dat (.int k)) S = .ok (.dat d) S := by simp only [bQ, nJ, h, h2]
theorem KH {cl : Bool} {xs ys : List D} (h : xs.length + ys.length <= sizeLine) : eR cl (.dat (.tup xs)) (.dat (.tup ys)) S = .ok (.dat (.tup (xs ++ ys))) S := if_pos h
theorem sY {cl : Bool} {xs ys : List D} (h : xs.length + ys.length <= sizeLine) : eR cl (.dat (.lst xs)) (.dat (.lst ys)) S = newL cl (xs ++ ys) S := by simp only [eR, nJ, h, if_true]
theorem E7 {neg : Bool} : Aq neg x (.dat .non) S = .ok (.dat (.bl (if neg then !(isNon x) else isNon x))) S := rfl
theorem fQ {α : Type} {xs : List α} {k : Int} {n : Nat} (h : k = (n : Int)) : atI xs k = xs[n]? := by
 subst h;unfold atI ixN
 by_cases hl : n < xs.length
 ·rw [if_pos (by omega), if_pos (by omega)]; simp
 ·rw [if_pos (by omega), if_neg (by omega)]
  simp [sC hl]
theorem O4 : gX ρ S = .ok true S := rfl
theorem PR {xs : List D} : AG (.dat (.lst xs)) S = .ok (!xs.isEmpty) S := rfl
theorem PU {i : Int} : AG (.dat (.int i)) S = .ok (i != 0) S := rfl
theorem E5 {xs : List D} : isNon (.dat (.tup xs)) = false := rfl
theorem E6 : isNon (.dat .non) = true := rfl
theorem g_slT {cl : Bool} {xs : List D} {lo hi : Option Int} : BI cl (.dat (.tup xs)) lo hi S = .ok (.dat (.tup (cutD xs lo hi))) S := rfl
theorem g_slL {cl : Bool} {xs : List D} {lo hi : Option Int} : BI cl (.dat (.lst xs)) lo hi S = newL cl (cutD xs lo hi) S := rfl
theorem g_slS {cl : Bool} {ns : List Int} {lo hi : Option Int} : BI cl (.scr ns) lo hi S = newL cl (cutD (ns.map D.int) lo hi) S := rfl
theorem MR {cl : Bool} {xs : List D} : Ka cl (.dat (.lst xs)) S = newL cl xs S := rfl
theorem MQ {cl : Bool} {xs : List D} : Ka cl (.dat (.tup xs)) S = newL cl xs S := rfl
theorem Dy {xs : List D} : fTuple (.dat (.lst xs)) S = .ok (.dat (.tup xs)) S := rfl
end
section
variable {a b o : FE} {r : FA} {m n : FS} {ρ : Ev} {S : aJ} {x y : Vl} {md : FD} {C f : Str} {ns : List Str}
theorem MP : nR C ρ S = .err ⟨C, [], []⟩ ρ S := rfl
def Ce (C : Str) (ns : List Str) (ρ : Ev) (xs : List Vl) (S : aJ) : Out := match vI xs with
 | some ds => if ds.length = ns.length then .err ⟨C, ns, ds.reverse⟩ ρ S else .stuck
 | none => .stuck
theorem Jr : jT C ns r ρ S = (r ρ S).toS ρ (Ce C ns ρ) := rfl
theorem Hr {f : Str} {d : D} : Ce C [f] ρ [.dat d] S = .err ⟨C, [f], [d]⟩ ρ S := rfl
theorem Hq {f g : Str} {d e : D} : Ce C [f, g] ρ [.dat d, .dat e] S = .err ⟨C, [f, g], [e, d]⟩ ρ S := rfl
def gC (C f : Str) (ρ : Ev) (d x : Vl) (S : aJ) : Out := match tY S C f x d with
 | some S3 => .next ρ S3
 | none => .stuck
def Nw (C f : Str) (o : FE) (ρ : Ev) (d : Vl) (S : aJ) : Out := (o ρ S).toS ρ (gC C f ρ d)
theorem PY : kO C f o a ρ S = (a ρ S).toS ρ (Nw C f o ρ) := rfl
theorem MW {d : Vl} : Nw C f o ρ d S = (o ρ S).toS ρ (gC C f ρ d) := rfl
theorem eF {n : Nat} {d : Vl} {fs : List (Str × Vl)} (h : S[n]? = some (.ins C fs)) (hl : fs.length < 1000) : gC C f ρ d (.cel n) S = .next ρ (S.set n (.ins C (gG f d fs))) := by simp only [gC, tY, h, true_and, hl, if_true]
def Aj (kp : Bool) (C : Str) (md : FD) (ds : List Vl) (S : aJ) : Res Vl := made kp S.length (md (.cel S.length :: ds) (S ++ [.ins C []]))
theorem Pi {kp : Bool} : Ad kp C md r ρ S = (r ρ S).bind (Aj kp C md) := rfl
def F9 (md : FD) (x : Vl) (ds : List Vl) (S : aJ) : Res Vl := md (x :: ds) S
def Nz (C f : Str) (md : FD) (r : FA) (ρ : Ev) (x : Vl) (S : aJ) : Res Vl := if fR S C f x = true then (r ρ S).bind (F9 md x) else .stuck
theorem Ph : fM C f md o r ρ S = (o ρ S).bind (Nz C f md r ρ) := rfl
theorem eW (h : fR S C f x = true) : Nz C f md r ρ x S = (r ρ S).bind (F9 md x) := if_pos h
theorem Jz {ds : List Vl} : F9 md x ds S = md (x :: ds) S := rfl
def uC (C f : Str) (x : Vl) (S : aJ) : Res Vl := match kR S C f x with
 | some d => .ok d S
 | none => .stuck
theorem KC : dG C f o ρ S = (o ρ S).bind (uC C f) := rfl
theorem Ma {ns : List Str} {xs : List D} : uC C f (.dat (.ins C ns xs)) S = (match (ns.zip xs).lookup f with | some d => .ok (.dat d) S | none => .stuck) := by
 simp only [uC, kR, if_true];cases (ns.zip xs).lookup f <;> rfl
theorem jY {n : Nat} {fs : List (Str × Vl)} {d : Vl} (h : S[n]? = some (.ins C fs)) (h2 : fs.lookup f = some d) : uC C f (.cel n) S = .ok d S := by simp only [uC, kR, h, if_true, h2]
def Out.tryA (o : Out) (cs : List Str) (c : Str) (k : Nat) (its : List XIt) : Out := match o with
 | .err e ρ' S' => if (e.cls ∈ cs /\ c ∈ cs) /\ k < ρ'.length then (if e.cls = c then (match itF e its with
   | some ds => if ds.length <= sizeLine then .ret (.dat (.tup ds)) S' else .stuck
   | none => .stuck) else .err e ρ' S') else .stuck
 | o => o
theorem PQ {cs : List Str} {c : Str} {k : Nat} {its : List XIt} : Nk cs m c k its ρ S = (m ρ S).tryA cs c k its := by unfold Nk Out.tryA; cases m ρ S <;> rfl
theorem Dz {cs : List Str} {c : Str} {k : Nat} {its : List XIt} : (Out.next ρ S).tryA cs c k its = .next ρ S := rfl
theorem FL {cs : List Str} {c : Str} {k : Nat} {its : List XIt} {d : Vl} : (Out.ret d S).tryA cs c k its = .ret d S := rfl
end
theorem jZ : ((0 : Nat) : Int) = 0 := rfl
theorem wM : ((1 : Nat) : Int) = 1 := rfl
theorem Mv : ((2 : Nat) : Int) = 2 := rfl
theorem Mu : ((3 : Nat) : Int) = 3 := rfl
theorem Mr : ((4 : Nat) : Int) = 4 := rfl
theorem Mq : ((5 : Nat) : Int) = 5 := rfl
theorem Mp : ((6 : Nat) : Int) = 6 := rfl
theorem Mo : ((7 : Nat) : Int) = 7 := rfl
theorem Mn : ((8 : Nat) : Int) = 8 := rfl
theorem Mm : ((9 : Nat) : Int) = 9 := rfl
theorem KG : ((10 : Nat) : Int) = 10 := rfl
theorem KF : ((11 : Nat) : Int) = 11 := rfl
theorem KE : ((12 : Nat) : Int) = 12 := rfl
theorem KD : ((13 : Nat) : Int) = 13 := rfl
theorem str_inj {a b : String} (h : Str.ofString a = Str.ofString b) : a = b := by
 rw [Str.ofString_eq_toList, Str.ofString_eq_toList] at h
 injection h with h
 have h2 := congrArg Array.toList h;simp only at h2;have : ∀ {l m : List Char}, l.map Char.toNat = m.map Char.toNat -> l = m := fun {l} => by
  induction l with
  | nil => intro m h; cases m <;> simp at h ⊢
  | cons c l ih =>
   intro m h;cases m with
   | nil => simp at h
   | cons d m =>
    simp only [aQ, List.cons.injEq] at h;rw [ih h.2];have : c = d := by
     have := congrArg Char.ofNat h.1
     simpa using this
    rw [this]
 exact String.toList_inj.mp (this h2)
theorem pE {a b : String} : (Str.ofString a = Str.ofString b) = (a = b) := propext ⟨str_inj, fun h => by rw [h]⟩
section
variable {X : Cx} {W : WX} {C : Str} {md : FD} {o i a b : Expr} {mo mi ma mb : FE} {pos p : Pos} {j k : Nat} {ps : List Str} {K : aA}
theorem N1 {q m : Str} {st : Stmt} (F : B5 K C m q st) : DF K (He.ma K (He.ga K C) m) = true := by
 obtain ⟨fd, F⟩ := F;obtain ⟨oc, od, dV, kV, doc, pm, an, cdv, ct, osl, _, lk, _⟩ := F.ex;unfold DF;rw [lk]
def fGetO (C : Str) (md : FD) (x y : Vl) (S : aJ) : Res Vl := if fR S C "" x = true then md [x, y] S else .stuck
def fInO (C : Str) (md : FD) (y x : Vl) (S : aJ) : Res Vl := if fR S C "" x = true then Kq (md [x, y] S) else .stuck
def JX (x : Vl) (S : aJ) : Res (List PH.D) := match x with
 | .dat (.lst ds) => .ok ds.reverse S
 | _ => .stuck
def Nm (a : FE) : FI := fun ρ S => (a ρ S).bind JX
def fMin2 (x y : Vl) (S : aJ) : Res Vl := match x, y with
 | .dat (.int i), .dat (.int j) => .ok (.dat (.int (if j < i then j else i))) S
 | _, _ => .stuck
theorem Pb {ρ : Ev} {S : aJ} : Nm ma ρ S = (ma ρ S).bind JX := rfl
theorem MX {S : aJ} {ds : List PH.D} : JX (.dat (.lst ds)) S = .ok ds.reverse S := rfl
theorem Pg {S : aJ} {x y : Int} : fMin2 (.dat (.int x)) (.dat (.int y)) S = .ok (.dat (.int (if y < x then y else x))) S := rfl
theorem Pu {S : aJ} {x y : Vl} (h : fR S C "" x = true) : fGetO C md x y S = md [x, y] S := if_pos h
theorem g_inO {S : aJ} {x y : Vl} (h : fR S C "" x = true) : fInO C md y x S = Kq (md [x, y] S) := if_pos h
theorem Mx {S : aJ} {b : Bool} : Kq (.ok (.dat (.bl b)) S) = .ok (.dat (.bl b)) S := rfl
def Nn (k : Nat) : FS := fun ρ S => match lk ρ k with
 | some (.cel n) => (match S[n]? with
  | some (.lst ds) => .next (ρ.set k (some (.dat (.lst ds)))) (S.set n .dead)
  | _ => .stuck)
 | _ => .stuck
theorem Pv {k n : Nat} {ρ : Ev} {S : aJ} {ds : List PH.D} (h : lk ρ k = some (.cel n)) (h2 : S[n]? = some (.lst ds)) : Nn k ρ S = .next (ρ.set k (some (.dat (.lst ds)))) (S.set n .dead) := by simp only [Nn, h, h2]
end
open AutoSeq1 (wpAny_loadPart')
section
variable {X : Cx} {W : WX} {a : Expr} {ma : FE} {pos p : Pos}
def Om (a : FE) : FI := fun ρ S => (a ρ S).bind fun x S1 => match x with
 | .dat (.tup ds) => .ok (dH 0 ds) S1
 | _ => .stuck
def JZ (x : Vl) (S : aJ) : Res (List PH.D) := match x with
 | .dat (.tup ds) => .ok (dH 0 ds) S
 | _ => .stuck
theorem Mh {ρ : Ev} {S : aJ} : Om ma ρ S = (ma ρ S).bind JZ := rfl
theorem K6 {S : aJ} {ds : List PH.D} : JZ (.dat (.tup ds)) S = .ok (dH 0 ds) S := rfl
end
section
variable {X : Cx} {W : WX} {e a b c o : Expr} {es rest : List Expr} {pos p q p2 tpos apos cpos : Pos} {x y z C f : Str} {K : aA} {ma mb mc mo me : FE} {mt mu : FT} {mas : FA} {mi mj : FI} {B : Addr -> Prop} {φ φ' : List Addr} {S S' : aJ} {H H' : Hp} {σ : L2.St} {Q : VK} {m n : FS} {st : Stmt} {BD : List Stmt} {D : Ends} {t t1 : Tg}
def Lz (mi : FI) (t : Tg) (vs : List Nat) : FE := fun ρ S => (mi ρ S).bind fun ds S1 => if ds.length <= sizeLine /\ (∀ d ∈ ds, (rV t (.dat d) (wipeE ρ vs)).isSome = true) then .ok (.cels (dO S1.length ds.length)) (S1 ++ bL ds.length (.lst [])) else .stuck
theorem HH {n : Nat} {x : Cell} : bL (n + 1) x = bL n x ++ [x] := List.replicate_succ'
theorem Iy {s n : Nat} : dO s (n + 1) = dO s n ++ [s + n] := by rw [List.range'_concat]; simp
theorem LU {vs : List Nat} (ht : ∀ i ∈ ON t, i ∈ vs) (h : cC K W (Lz mi t vs) σ H Q) : tLc (LB K W mi) (L8 K t) (xR K LH gX) (cC K LH (jM true aL)) vs σ H Q := by
 refine bP (k := fun ds ρ S1 => if ds.length <= sizeLine /\ (∀ d ∈ ds, (rV t (.dat d) (wipeE ρ vs)).isSome = true) then Res.ok (Vl.cels (dO S1.length ds.length)) (S1 ++ bL ds.length (.lst [])) else .stuck) h fun B φ0 S0 ρ ds J H0 I0 E0 r f0 => ?_
 intro A hA;split at f0
 case isFalse => exact f0.elim
 rename_i hsz;obtain ⟨hsz, htg⟩ := hsz;have nB : ¬ B A := fun q => by obtain ⟨u, e⟩ := I0.btr A q; rw [hA] at e; cases e
 have IA : GInv K (mL B A) φ0 S0 (upd H0 A (.lst [])) := I0.plus hA;have b2 : ∀ a, H0 a ≠ none -> mL B A a -> B a := fun b hb h => by
  rcases h with h | h
  ·exact h
  ·exact absurd (by rw [h]; exact hA) hb
 refine ⟨fun i k H' => i <= ds.length /\ k = ds.length - i /\ ∃ (φ1 : List Addr) (as : List Addr), GInv K (mL B A) φ1 (S0 ++ bL i (.lst [])) H' /\ Ext φ0 S0 H0 φ1 (S0 ++ bL i (.lst [])) H' /\ RepE K (mL B A) φ1 (S0 ++ bL i (.lst [])) H' (wipeE ρ vs) (wipe σ vs) /\ H' A = some (.lst (as.map L2.V.ref)) /\ as.length = i /\ (dO S0.length i).map (fun n => φ1[n]?) = as.map some,
  ⟨_, vL _, rfl, φ0, [], by simpa using IA, by simpa using Ext.new I0 hA, by simpa using (E0.wipes vs).plus I0 hA, upd_same, rfl, rfl⟩, ?_⟩
 rintro i k H' ⟨hi, rfl, φ1, as, I1, X1, E1, hA1, hul, hφ⟩
 obtain ⟨hgo, hstop, hyld⟩ := r φ1 _ H' (mL B A) I1 (X1.kpB (fun _ h => .inl h) b2 I0)
 by_cases hlt : i < ds.length
 ·refine .inr ⟨hgo i hlt, fun H2 => i + 1 <= ds.length /\ ∃ (φ1 : List Addr) (as : List Addr), GInv K (mL B A) φ1 (S0 ++ bL (i + 1) (.lst [])) H2 /\ Ext φ0 S0 H0 φ1 (S0 ++ bL (i + 1) (.lst [])) H2 /\ RepE K (mL B A) φ1 (S0 ++ bL (i + 1) (.lst [])) H2 (wipeE ρ vs) (wipe σ vs) /\ H2 A = some (.lst (as.map L2.V.ref)) /\ as.length = i + 1 /\ (dO S0.length (i + 1)).map (fun n => φ1[n]?) = as.map some, fun H2 ⟨h1, h2⟩ => ⟨ds.length - (i + 1), by omega, h1, rfl, h2⟩, fun x H2 y => ?_⟩
  have hd : ds[i]? = some ds[i] := by simp [hlt]
  obtain ⟨I2, X2, r2⟩ := hyld i x H2 ds[i] hd y;obtain ⟨ρ2, q2⟩ := Option.isSome_iff_exists.mp (htg ds[i] (rX hlt));have hA2 := (X2.old A _ hA1 fun q => I1.blk A q (.inr rfl)).1
  refine CD (E1.ext X2 I1) (d := .dat ds[i]) r2 q2 fun ws E3 => ⟨by rw [BR ht, BQ], mL B A, φ1, _, ρ2, I2, E3, ?_⟩
  intro φ3 b' H3 I3 X3 rb;have rb : b' = true := rb;subst rb;have hA3 := (X3.old A _ hA2 fun q => I2.blk A q (.inr rfl)).1
  have Xa := X1.trans (X2.trans X3);rw [if_pos rfl];refine ⟨mL B A, φ3, S0 ++ bL i (.lst []), ρ2, I3, E3.ext X3 I2, ?_⟩
  intro φ4 v4 H4 I4 X4 r4;obtain ⟨a4, rfl, h4⟩ := r4;have hA4 := (X4.old A _ hA3 fun q => I3.blk A q (.inr rfl)).1
  have eS : (S0 ++ bL i (Cell.lst [])) ++ [Cell.lst []] = S0 ++ bL (i + 1) (.lst []) := by rw [HH, List.append_assoc]
  rw [eS] at I4 X4;have hn : (S0 ++ bL i (Cell.lst [])).length = S0.length + i := by simp
  rw [hn] at h4;refine ⟨as.map L2.V.ref, hA4, by rw [bA, hul]; omega, hlt, φ4, as ++ [a4], I4.plusPut hA4, ?_, (((E1.ext X2 I1).ext X3 I2).ext X4 I3).plusPut hA4, by rw [upd_same]; simp, by simp [hul], ?_⟩
  ·exact ⟨fun b o h nb => by
    obtain ⟨h1, h2⟩ := (Xa.trans X4).old b o h nb;exact ⟨by rw [upd_ne (fun e => by subst e; rw [hA] at h; cases h)]; exact h1, h2⟩, (Xa.trans X4).ids⟩
  ·rw [Iy, fT, fT, A8 (X2.trans (X3.trans X4)).ids _ _ hφ]
   simp [h4]
 ·have e : i = ds.length := by omega
  subst e;refine .inl ⟨hstop, ?_⟩
  refine f0 φ1 (.ref A) H' I1.less X1 ⟨A, as, rfl, fun q => ?_, hA1, hφ⟩
  rcases q with q | q
  ·exact nB q
  ·exact I1.blk A q (.inr rfl)
theorem f_lcC {tg iter : Expr} {scope : Scope} {own : List (Str × Nat)} {lpos : Pos} (hc : X.calm = true) (hN : X.N.Nodup) (hi : PI X tg iter (LB X.K W mi)) (ok : BlkOk X.N X.env.scope scope own)
  (hg : ∀ (s : Shared) (H : Hp) (C : Addr) (cl : List (Str × Addr)) (fp : List Addr), PG (X.blk s H scope (compEnvC scope cl C X.env) fp) tg (L8 X.K t)) (hs : ∀ x, foldedSetIterable iter X.env x = pure x := by intro _; rfl) (hv : ∀ i ∈ ON t, i ∈ own.map (·.2) := by decide) :
  PE X (.ListComp (.List [] lpos) [⟨tg, iter, [], 0⟩] scope pos) (cC X.K W (Lz mi t (own.map (·.2)))) := cP (pe_lc hc hN hi ok hg (fun _ _ _ _ _ => kA) (fun _ _ _ _ _ => pY aI) hs) fun σ H Q h => LU hv h
def kLcC (t : Tg) (ρ : Ev) (vs : List Nat) (ds : List PH.D) (S : aJ) : Res Vl := if ds.length <= sizeLine /\ (∀ d ∈ ds, (rV t (.dat d) (wipeE ρ vs)).isSome = true) then .ok (.cels (dO S.length ds.length)) (S ++ bL ds.length (.lst [])) else .stuck
theorem g_lcC {ρ : Ev} {S : aJ} {vs : List Nat} : Lz mi t vs ρ S = (mi ρ S).bind (kLcC t ρ vs) := rfl
theorem K0 {ρ : Ev} {S : aJ} {vs : List Nat} {k : Nat} {ds : List PH.D} (h : ds.length <= sizeLine) : kLcC (.nm k) ρ vs ds S = .ok (.cels (dO S.length ds.length)) (S ++ bL ds.length (.lst [])) := if_pos ⟨h, fun _ _ => rfl⟩
def Bf (g : Int -> Int -> Int) (C f : Str) (o e : FE) : FS := fun ρ S => (o ρ S).toS ρ fun x S1 => match kR S1 C f x with
 | some (.dat (.int u)) => (e ρ S1).toS ρ fun w S2 => (match w with
  | .dat (.int w) => (match tY S2 C f x (.dat (.int (g u w))) with
   | some S3 => .next ρ S3
   | none => .stuck)
  | _ => .stuck)
 | _ => .stuck
theorem Ii {g : Int -> Int -> Int} {r : R2} (c : Cls K (He.ga K C)) (na : NoAttr K (He.ga K C) f) (hr : ∀ i j H Q, Q (.int (g i j)) H -> r (.int i) (.int j) H Q) (h : jL K W (Bf g C f mo me) D σ H) : sFldAug K (cC K W mo) (cC K W me) (cIp r) f D σ H := by
 obtain ⟨B, φ, S, ρ, I, E, f'⟩ := h;refine bT I E f' fun φ1 S1 d1 v1 H1 I1 X1 E1 r1 f1 => ?_
 split at f1
 ·rename_i u q
  obtain ⟨a, dx, fs, u', rfl, h1, h2, h3⟩ := wN I1 r1 q;cases h3;refine ⟨a, _, dx, fs, _, rfl, h1, c, na, h2, bT I1 E1 f1 fun φ2 S2 d2 v2 H2 I2 X2 E2 r2 f2 => ?_⟩
  split at f2
  ·rename_i w
   cases r2;split at f2
   ·rename_i S3 q3
    unfold tY at q3;split at q3
    ·rename_i n
     obtain ⟨a', e', h4⟩ := r1.ext X2 I1;cases e';split at q3
     ·rename_i C' fs' q4
      split at q3
      ·rename_i hc
       obtain ⟨e, hl⟩ := hc;subst e;cases q3;obtain ⟨dx2, vs, h5, h6⟩ := I2.ok n _ a q4 h4;refine hr _ _ _ _ ⟨dx2, vs, h5, by rw [h6.len]; exact hl, ?_⟩
       have X3 := Ext.put (H := H2) (o := .ins (He.ga K C') dx2 (putF f (.int (g u w)) vs)) (x := .ins C' (gG f (.dat (.int (g u w))) fs')) q4 (by simp) h4 (by simp)
       have r' : RepV K B φ2 S2 H2 (.dat (.int (g u w))) (.int (g u w)) := rfl;have I3 := I2.put q4 (by simp) h4 (by simp) (x := .ins C' (gG f (.dat (.int (g u w))) fs')) (o := .ins (He.ga K C') dx2 (putF f (.int (g u w)) vs)) ⟨dx2, putF f (.int (g u w)) vs, upd_same, (RepF.put r' h6).ext X3 I2⟩
       exact f2 φ2 σ _ I3 X3 (E2.ext X3 I2)
      ·cases q3
     ·cases q3
    ·cases q3
   ·exact f2.elim
  ·exact f2.elim
 ·exact f1.elim
theorem FV (c : Cls X.K (He.ga X.K C)) (na : NoAttr X.K (He.ga X.K C) f) (ho : PE X o (cC X.K W mo)) (he : PE X e (cC X.K W me)) : PS X (.AugAssign (.Attribute o f tpos) .Add e pos) (jL X.K W (Bf (fun x y => x + y) C f mo me)) :=
 fD (ps_fldaug ho he Cn) fun D σ H h => Ii c na (fun _ _ _ _ q => q) h
theorem NN {g : Int -> Int -> Int} {ρ : Ev} {S : aJ} {n : Nat} {u w : Int} {fs : List (Str × Vl)} (ho : mo ρ S = .ok (.cel n) S) (he : me ρ S = .ok (.dat (.int w)) S) (hn : S[n]? = some (.ins C fs)) (hf : fs.lookup f = some (.dat (.int u))) (hl : fs.length < 1000) : Bf g C f mo me ρ S = .next ρ (S.set n (.ins C (gG f (.dat (.int (g u w))) fs))) := by
 simp only [Bf, ho, he, pW, kR, hn, if_true, hf, tY, true_and, hl]
def Az : PH.D := .tup [.int 0, .int 0, .int 1, .int 0, .int 0, .int 0]
def OkK (P : Program) (w : World) (K : aA) (mg : Str -> Option Value) (base : Heap) (k : Nat) (x : Str) (ps : List Str) (n : Nat) (kw : Str) (dv : L2.V) (sp : Sp) : Prop :=
 ∃ fd, FnOk P w K mg base (L2.CX P w) k (He.ga K x) fd ps sp /\ mg x = some (.ref (He.ga K x)) /\ kH K (.ref (He.ga K x)) = true /\ (∃ ds, Vals [dv] ds /\ Binds K fd ps ds) /\ KBn K fd ps n [kw] (fun us ws => us ++ ws) (fun vs zs => vs ++ zs)
def On (md : FD) (dd : PH.D) (as : FA) : FE := fun ρ S => (as ρ S).bind fun ds S1 => md (ds ++ [.dat dd]) S1
theorem RepVs.snoc {B : Addr -> Prop} {φ : List Addr} {S : aJ} {H : Hp} : ∀ {ds : List Vl} {vs : List L2.V} {d : Vl} {v : L2.V}, RepVs K B φ S H ds vs -> RepV K B φ S H d v -> RepVs K B φ S H (ds ++ [d]) (vs ++ [v])
 | [], vs, d, v, h, r => by cases h; exact ⟨v, [], rfl, r, rfl⟩
 | d' :: ds, vs, d, v, ⟨v', ws, e, h1, h2⟩, r => by subst e; exact ⟨v', ws ++ [v], rfl, h1, RepVs.snoc h2 r⟩
def Jc (md : FD) (dd : PH.D) (ds : List Vl) (S : aJ) : Res Vl := md (ds ++ [.dat dd]) S
theorem Mw {md : FD} {dd : PH.D} {ρ : Ev} {S : aJ} : On md dd mas ρ S = (mas ρ S).bind (Jc md dd) := rfl
theorem K7 {md : FD} {dd : PH.D} {ds : List Vl} {S : aJ} : Jc md dd ds S = md (ds ++ [.dat dd]) S := rfl
def F6 (n : Nat) (md : FD) (as : FA) (a : FE) : FE := fun ρ S => (as ρ S).bind fun ds S1 => if ds.length = n then (a ρ S1).bind fun d S2 => md (ds ++ [d]) S2 else .stuck
def Cj (md : FD) (ds : List Vl) (d : Vl) (S : aJ) : Res Vl := md (ds ++ [d]) S
def Jb (n : Nat) (md : FD) (a : FE) (ρ : Ev) (ds : List Vl) (S : aJ) : Res Vl := if ds.length = n then (a ρ S).bind (Cj md ds) else .stuck
theorem GP {md : FD} {n : Nat} {ρ : Ev} {S : aJ} : F6 n md mas ma ρ S = (mas ρ S).bind (Jb n md ma ρ) := rfl
theorem Br {md : FD} {ρ : Ev} {S : aJ} {x y z : Vl} : Jb 3 md ma ρ [x, y, z] S = (ma ρ S).bind (Cj md [x, y, z]) := rfl
theorem Bs {md : FD} {ds : List Vl} {d : Vl} {S : aJ} : Cj md ds d S = md (ds ++ [d]) S := rfl
theorem N7 {j k n : Nat} {ps : List Str} {md : FD} {kw : Str} {dv : L2.V} {kpos : Pos} (F : OkK X.prog X.w X.K X.mg X.base j x ps n kw dv (spF X.K md)) (hr : Room k X.A) (tk : Takes X W) (ha : PA X (e :: es) (DD X.K W mas)) (hv : PE X a (cC X.K W ma)) (hjk : j <= k := by decide) (hg : Gl X x := by rfl) (hdb : (x == ("__debug__" : Str)) = false := by decide)
  (hall : (backToKw pos (keywordEach [⟨some kw, a, kpos⟩] X.env)).all (·.1.isSome) = true := by rfl) (hks : (backToKw pos (keywordEach [⟨some kw, a, kpos⟩] X.env)).filterMap (·.1) = [kw] := by rfl)
  (he : starEach (e :: es) X.env = (false, eval e X.env) :: starEach es X.env := by rfl) (hpl : ((backTo pos (starEach (e :: es) X.env)).any (·.1) || (backToKw pos (keywordEach [⟨some kw, a, kpos⟩] X.env)).any (·.1.isNone)) = false := by rfl) : PE X (.Call (.Name x p) (e :: es) [⟨some kw, a, kpos⟩] pos) (cC X.K W (F6 n md mas ma)) := by
 obtain ⟨fd, F, hm, hk, _, hb⟩ := F;refine ⟨fun pins s σ H Q I h => ?_⟩
 have h' : DD X.K W mas σ H fun vs H1 => tCons (cC X.K W ma) tNil σ H1 fun zs H2 => vs.length = n /\ zs.length = 1 /\ spF X.K md (vs ++ zs) H2 Q (WE W σ) := by
  refine bP (k := fun ds ρ S1 => if ds.length = n then (ma ρ S1).bind fun d S2 => md (ds ++ [d]) S2 else .stuck) h fun B φ S ρ ds vs H1 I E r f => ?_
  split at f
  case isFalse => exact f.elim
  rename_i hl;exact gY I E f fun φ' S' d v H2 I2 X2 E2 r2 f2 => ⟨by rw [r.len]; exact hl, rfl, B, φ', S', ds ++ [d], I2, RepVs.snoc (r.ext X2 I) r2, f2.toE⟩
 refine wpAny_Call_Name_kw (ld_glob I hg hm ?_ hdb)
 refine PySem.W.callWith_KW (h₀ := X.base) I.ok.mod.kin hk hall (thn (ha.run pos pins s σ H _ I h') fun us s1 ⟨vs, H1, I1, r, q⟩ => ?_) hpl he
 refine thn ((pk_cons hv pk_nil : PK X [⟨some kw, a, kpos⟩] _).run pos pins s1 σ H1 _ I1 q) fun ws s2 ⟨zs, H2, I2, rz, l1, l2, q2⟩ => ⟨I2.kIn, ?_⟩
 rw [hks];have r2 := hb.rel r rz;refine wpAny_call (codeAny_mono (F.run X.A X.stack s2 H2 ⟨us, [kw].zip ws⟩ (us ++ ws) (vs ++ zs) Q (WE W σ) (hr.mono hjk) I2.env0 (hb.to s2 us ws I2.kIn (r.length.symm.trans l1) (rz.length.symm.trans l2)) r2 q2) fun r s' hq => ?_)
 cases r with
 | error e => exact passAt tk σ pins H2 s2 e s' I2 hq
 | ok fl =>
  cases fl with
  | ret u => exact I2.after hq
  | next => exact False.elim hq
  | brk => exact False.elim hq
  | cont => exact False.elim hq
end
section
variable {P : Program} {w : World} {K : aA} {mg : Str -> Option Value} {base : Heap}
abbrev FnK (K : aA) (x : Str) (st : Stmt) (kw : Str) (dv : L2.V) : Prop := ∃ fd, FunD K x x (defArgs st) (defBody st) (defScope st) [] [(kw, dv)] (He.ga K x) fd
theorem okK {x kw : Str} {dv : L2.V} {st : Stmt} {N ps : List Str} {k n : Nat} {md : FD} {mb : FS} (F : FnK K x st kw dv) (g : mg x = some (.ref (He.ga K x))) (S : FnScope N ps (defScope st)) (R : Runs md N.length ps.length mb) (hn : n + 1 = ps.length)
  (b0 : ∀ (D : Addr) (doc pm : Value) (an : Option Addr) (cdv ct : Value) (us ks : List Value), us.length = n -> ks.length = 1 -> KwChain D ([kw].zip ks) (bindArgs (cD x x (defArgs st) (defBody st) (defScope st) .none (.ref D) doc pm an cdv ct) ⟨us, []⟩) (ps.zip (us ++ ks)))
  (b1 : ∀ (kV doc pm : Value) (an : Option Addr) (cdv ct : Value) (us ws : List Value), us.length = n -> ws.length = 1 -> bindArgs (cD x x (defArgs st) (defBody st) (defScope st) .none kV doc pm an cdv ct) ⟨us, [kw].zip ws⟩ = pure (ps.zip (us ++ ws)))
  (hbody : ∀ (cdv : Value) (A : Around) (outer : List Env) (s : Shared) (H : Hp) (E : XK), Room k (A.deeper (envOfC x (defScope st) s.heap.objs.size (He.ga K x) cdv)) -> PSs (cxOf (L2.CX P w) P w K mg base N x (defScope st) (He.ga K x) cdv A outer s H E) (defBody st) (jL K (fun c x _ H => E c x H) mb)) : OkK P w K mg base (k + 1) x ps n kw dv (spF K md) := by
 obtain ⟨fd, F⟩ := F;refine ⟨fd, FunD.ok F S (qK R) fun cdv A outer s H vs Q E hr hsp => ⟨_, hbody cdv A outer s H E hr, nI R hsp⟩, g, F.kp, F.binds0 n (by simp) hn b0, ⟨fun s us ws _ l1 l2 => ?_, fun r1 r2 => r1.append r2⟩⟩
 obtain ⟨oc, od, dV, kV, doc, pm, an, cdv, ct, osl, rfl, lk, hcd, hD, hK⟩ := F.ex;rcases hD with ⟨_, rfl⟩ | ⟨e, _⟩
 ·exact .of_eq (b1 kV doc pm an cdv ct us ws l1 l2)
 ·exact absurd rfl e
end
def EV0 := aE @eN (aE @An (aE @pW (aE @Hi (aE @O5 (aE @g_c (aE @g_op (aE @g_op1 (aE @g_1 (aE @g_B (aE @g_unB (aE @Jq (aE @g_and (aE @g_or (aE @O7 (aE @Jv (aE @Jw (aE @MS (aE @MT (aE @Pm (aE @Py (aE @g_orV (aE @Hn (aE @Ho (aE @Jt (aE @Ju (aE @Pd (aE @MZ (aE @g_kNV (aE @g_orT (aE @Po (aE @Jx (aE @Jy (aE @Jp (aE @Mi (aE @g_ch1 (aE @g_ch2 (aE @Mj (aE @Ml (aE @g_if (aE @MU (aE @MV (aE @Js (aE @FN (aE @Ct (aE @Cs (aE @g_lst (aE @g_tup (aE @FQ (aE @E8 (aE @kTup0 (aE @kTup1 (aE @kTup2 (aE @kTup3 (aE @kTup4 (aE @kLst0 (aE @kLst1 (aE @kLst2 (aE @kLst3 (@Pf)))))))))))))))))))))))))))))))))))))))))))))))))))))))))))
def EV1 := aE @Pe (aE @FP (aE @g_sl (aE @g_sl0 (aE @g_sl1 (aE @g_sl2 (aE @g_noP (aE @Pc (aE @MY (aE @g_frz (aE @g_app (aE @O6 (aE @FM (aE @Hj (aE @Hk (aE @Hm (aE @Hl (aE @PX (aE @g_ret (aE @Pn (aE @Px (aE @Md (aE @O8 (aE @K3 (aE @K4 (aE @O9 (aE @Pq (aE @Mf (aE @Me (aE @g_for (aE @Pp (aE @g_lc (aE @PZ (aE @KA (aE @K9 (aE @Pa (aE @MO (aE @Pw (aE @Mb (aE @PP (aE @Dx (aE @FJ (aE @FK (aE @Pz (aE @PV (aE @g_ltI (aE @g_leI (aE @g_gtI (aE @g_geI (aE @g_eqI (aE @g_neI (aE @g_eqS (aE @g_neS (aE @g_eqB (aE @g_neB (aE @g_neg (aE @Pr (aE @Pt (aE @Pj (@Pk)))))))))))))))))))))))))))))))))))))))))))))))))))))))))))
def EV2 := aE @E7 (aE @O4 (aE @PR (aE @PU (aE @E5 (aE @E6 (aE @g_slT (aE @g_slL (aE @g_slS (aE @MR (aE @MQ (aE @Dy (aE @MP (aE @Jr (aE @Hr (aE @Hq (aE @PY (aE @MW (aE @Pi (aE @Ph (aE @Jz (aE @KC (aE @Ma (aE @PQ (aE @Dz (aE @FL (aE @jZ (aE @wM (aE @Mv (aE @Mu (aE @Mr (aE @Mq (aE @Mp (aE @Mo (aE @Mn (aE @Mm (aE @KG (aE @KF (aE @KE (aE @KD (aE @Pb (aE @MX (aE @Pg (aE @Pu (aE @g_inO (aE @Mx (aE @Pv (aE @Mh (aE @K6 (aE @g_lcC (aE @K0 (aE @Mw (aE @K7 (aE @GP (aE @Br (aE @Bs (@pE))))))))))))))))))))))))))))))))))))))))))))))))))))))))
end PH
local macro_rules
 | `(tactic| simp! [$xs,*] $[$l:location]?) => `(tactic| simp (config := { implicitDefEqProofs := false }) only [$xs,*, PH.EV0, PH.EV1, PH.EV2, dY, bZ, Bool.not_true, Bool.not_false, eq_self, if_true, if_false, Bool.true_or, Bool.false_or, Bool.or_true, Bool.or_false, rL, Ef, Bool.and_false, Bool.false_and, bW, aN, cM, beq_self_eq_true, Bool.false_eq_true, PH.lk, PH.isTy, PH.fIsi, PH.fIsi2, PH.kindOf, PH.wipeE, decide_true, decide_false, Int.reduceEq, Int.reduceLT, Int.reduceLE, Int.reduceSub, Int.reduceAdd, Int.reduceNeg, Int.reduceToNat, Int.reduceNe, Nat.reduceAdd, Nat.reduceLT, Nat.reduceLeDiff, String.reduceEq, String.reduceBEq] $[$l:location]?)
namespace PH
open PySem PySem.Spec PyProof.Rows L2
section
variable {X : Cx} {W : WX} {e a b c o i : Expr} {es rest : List Expr} {pos pos' p q p2 tpos apos cpos : Pos} {x y z C f : Str} {K : aA} {ma mb mc mo me mi mv : FE} {mt mu : FT} {mas : FA} {B : Addr -> Prop} {φ φ' : List Addr} {S S' : aJ} {H H' : Hp} {σ : L2.St} {Q : VK} {m n : FS} {st : Stmt} {BD : List Stmt} {D : Ends} {t t1 : Tg}
def lvL (S : aJ) : Vl -> Option (List Vl)
 | .cel n => match S[n]? with
  | some (.lv xs) => some xs
  | _ => none
 | _ => none
def Hv (x y : Vl) (S : aJ) : Res Vl := match lvL S x, y with
 | some xs, .dat (.int i) => (match atI xs i with
  | some d => .ok d S
  | none => .stuck)
 | _, _ => .stuck
def fLenV (x : Vl) (S : aJ) : Res Vl := match lvL S x with
 | some xs => .ok (.dat (.int xs.length)) S
 | none => .stuck
def fAppV (x y : Vl) (S : aJ) : Res Vl := match x with
 | .cel n => (match S[n]? with
  | some (.lv ds) => if ds.length < sizeLine then .ok (.dat .non) (S.set n (.lv (ds ++ [y]))) else .stuck
  | _ => .stuck)
 | _ => .stuck
def Np (a b : FE) : FE := fun ρ S => (a ρ S).bind fun x S1 => match lvL S1 x with
 | some _ => (b ρ S1).bind fun y S2 => fAppV x y S2
 | none => .stuck
end
def isNone {α : Type} : Option α -> Bool
 | none => true
 | some _ => false
section
variable {X : Cx} {C : Str} {md : FD} {j k : Nat} {ps : List Str} {K : aA} {mn : Str}
theorem FY {Q : Value -> Shared -> Prop} {z : L2.V} {u : Value} {s : Shared} (r : RelV z u) (q : Q u s) : PySem.W.CmpBack Q u s := by
 cases z with
 | non => cases r; exact q
 | bl b => cases r; exact q
 | int i => obtain ⟨t, rfl⟩ := r; exact q
 | str i => obtain ⟨t, rfl⟩ := r; exact q
 | byt i => obtain ⟨t, rfl⟩ := r; exact q
 | flt i => obtain ⟨t, rfl⟩ := r; exact q
 | ref a => cases r; exact q
 | ty n => cases r; exact q
def Ni (r : Res Vl) : Res Vl := match r with
 | .ok d S => .ok d S
 | _ => .stuck
end
section
variable {X : Cx} {W : WX} {e a b c o i f : Expr} {es rest : List Expr} {pos pos' p q p2 tpos apos cpos : Pos} {x y z C : Str} {K : aA} {ma mb mc mo me mi mv mf : FE} {mt mu : FT} {mas : FA} {B : Addr -> Prop} {φ φ' : List Addr} {S S' : aJ} {H H' : Hp} {σ : L2.St} {Q : VK} {m n : FS} {st : Stmt} {BD : List Stmt} {D : Ends} {t t1 : Tg}
def NH (S : aJ) : Vl -> Option (List Int × List Vl)
 | .cel n => match S[n]? with
  | some (.dki ks xs) => if ks.length = xs.length /\ ks.length < 1000000 then some (ks, xs) else none
  | _ => none
 | _ => none
theorem NG {d : Vl} {v : L2.V} {ks : List Int} {xs : List Vl} (I : GInv K B φ S H) (h : NH S d = some (ks, xs)) (r : RepV K B φ S H d v) : ∃ n a vs, d = .cel n /\ S[n]? = some (.dki ks xs) /\ φ[n]? = some a /\ v = .ref a /\ H a = some (.dK (kvI ks vs)) /\ RepVs K B φ S H xs vs /\ ks.length = xs.length /\ ks.length < 1000000 := by
 unfold NH at h;split at h
 ·rename_i n
  obtain ⟨a, e, h1⟩ := r;split at h
  ·rename_i ks' xs' q
   split at h
   ·rename_i hc
    cases h;obtain ⟨vs, h2, h3⟩ := I.ok n _ a q h1;exact ⟨n, a, vs, rfl, q, h1, e, h2, h3, hc.1, hc.2⟩
   ·cases h
  ·cases h
 ·cases h
def JM : FE := fun _ S => .ok (.cel S.length) (S ++ [.dki [] []])
theorem Q6 : PE X (.Dict [] [] pos) (cC X.K W JM) := cP pe_dnewK fun σ H Q h => by
 obtain ⟨B, φ, S, ρ, I, E, f⟩ := h;intro p hp;have X1 := Ext.newC (o := .dK []) (x := .dki [] []) I hp;refine f (φ ++ [p]) _ _ (I.newC hp fun _ => ⟨[], upd_same, rfl⟩) X1 ⟨p, rfl, ?_⟩
 rw [<- I.len];exact lT
end
section
variable {X : Cx} {W : WX} {e a b c o i f : Expr} {es rest : List Expr} {pos pos' p q p2 tpos apos cpos : Pos} {x y z C : Str} {K : aA} {ma mb mc mo me mi mv mf : FE} {mt mu : FT} {mas : FA} {B : Addr -> Prop} {φ φ' : List Addr} {S S' : aJ} {H H' : Hp} {σ : L2.St} {Q : VK} {m n : FS} {st : Stmt} {BD : List Stmt} {D : Ends} {t t1 : Tg}
def setV (x : Vl) (k : Int) (d : Vl) (S : aJ) : Option aJ := match x with
 | .cel n => (match S[n]? with
  | some (.lv ds) => if 0 <= k /\ k.toNat < ds.length then some (S.set n (.lv (ds.set k.toNat d))) else none
  | _ => none)
 | _ => none
def mSetIV (a o i : FE) : FS := fun ρ S => (a ρ S).toS ρ fun v S1 => (o ρ S1).toS ρ fun x S2 => (i ρ S2).toS ρ fun k S3 => match k with
 | .dat (.int k) => (match setV x k v S3 with
  | some S4 => .next ρ S4
  | none => .stuck)
 | _ => .stuck
def Nr : List (Int × Int) -> List Vl -> Int × Int -> Option Vl
 | k' :: ks, x :: xs, k => if k' = k then some x else Nr ks xs k
 | _, _, _ => none
def dktL (S : aJ) : Vl -> Option (List (Int × Int) × List Vl)
 | .cel n => match S[n]? with
  | some (.dkt ks xs) => if ks.length = xs.length /\ ks.length < 1000000 then some (ks, xs) else none
  | _ => none
 | _ => none
def fDGetT (x y : Vl) (S : aJ) : Res Vl := match dktL S x, y with
 | some (ks, xs), .dat (.tup [.int j, .int k]) => (match Nr ks xs (j, k) with
  | some d => .ok d S
  | none => .stuck)
 | _, _ => .stuck
def Ot (x y : Vl) (S : aJ) : Res (List PH.D) := match x, y with
 | .dat (.tup ds), .dat (.tup es) => .ok (Gk ds es) S
 | _, _ => .stuck
def Ou (b : FE) (ρ : Ev) (x : Vl) (S : aJ) : Res (List PH.D) := (b ρ S).bind (Ot x)
def mZipT (a b : FE) : FI := fun ρ S => (a ρ S).bind (Ou b ρ)
end
section
variable {K : aA} {B : Addr -> Prop} {φ φ' : List Addr} {S S' S2 : aJ} {H H' : Hp}
theorem FZ {φ₂ : List Addr} {S₂ : aJ} {H₂ : Hp} (ex : Ext φ S H φ₂ S₂ H₂) (I : GInv K B φ S H) {c : Cell} {a : Addr} (ha : c ≠ .dead -> ∀ o, H a = some o -> H₂ a = some o) (q : B7 K B φ S H c a) : B7 K B φ₂ S₂ H₂ c a := by
 cases c with
 | dead => trivial
 | lst ds => obtain ⟨vs, e, r⟩ := q; exact ⟨vs, ha (by simp) _ e, ex.repL I r⟩
 | ins C fs => obtain ⟨dx, vs, e, r⟩ := q; exact ⟨dx, vs, ha (by simp) _ e, r.ext ex I⟩
 | dct fs => obtain ⟨vs, e, r⟩ := q; exact ⟨vs, ha (by simp) _ e, r.ext ex I⟩
 | lv xs => obtain ⟨vs, e, r⟩ := q; exact ⟨vs, ha (by simp) _ e, r.ext ex I⟩
 | dki ks xs => obtain ⟨vs, e, r⟩ := q; exact ⟨vs, ha (by simp) _ e, r.ext ex I⟩
 | dkt ks xs => obtain ⟨vs, e, r⟩ := q; exact ⟨vs, ha (by simp) _ e, r.ext ex I⟩
 | tbl d q0 => obtain ⟨e0, ps, e1, r⟩ := q; exact ⟨e0, I.tab ex (by rw [ha (by simp) _ e1, e1]) ⟨ps, e1, r⟩⟩
end
abbrev L4 := Ev -> aJ -> Res (List PH.D)
abbrev FDG := List Vl -> aJ -> Res (List PH.D)
section
variable {X : Cx} {W : WX} {e a : Expr} {es : List Expr} {rest BD : List Stmt} {st : Stmt} {pos p yp : Pos} {x kw : Str} {K : aA} {ma me : FE} {mas : FA} {B : Addr -> Prop} {φ φ' : List Addr} {S S' : aJ} {H H' : Hp} {σ : L2.St} {Q : VK} {m : FS} {n : L4}
def kYf (x : Vl) (S : aJ) : Res (List PH.D) := match x with
 | .dat (.lst zs) => if zs.length <= 1000000 then .ok zs S else .stuck
 | _ => .stuck
def mYf (me : FE) : L4 := fun ρ S => (me ρ S).bind kYf
def runG (n np : Nat) (mb : L4) : FDG := fun ds S => if ds.length = np then mb (envOf n ds) S else .stuck
end
section
variable {ρ : Ev} {S : aJ} {m : FS} {n : L4} {me ma : FE} {mas : FA} {md : FDG}
theorem g_yf : mYf me ρ S = (me ρ S).bind kYf := rfl
end
end PH
namespace L2
open PySem PySem.Spec PyProof.Rows GenW
abbrev EndP := End -> Shared -> Prop
def GTurn (M : Model) (A : Around) (F : EndP) (c : Code) (t : Sem PySem.Fin) (fs : List Frame) (s : Shared) : Prop :=
 ∀ Γ p, Γ.code = c -> Γ.Woken A -> ∃ e s', Runs M Γ p t fs s e s' /\ F e s'
def KB (it : Addr) (s s' : Shared) : Prop := s'.os = s.os /\ s'.gens = s.gens /\ ∀ b o, b ≠ it -> s.heap.get? b = some o -> s'.heap.get? b = some o
def FR (M : Model) (A : Around) (it a : Addr) (its : Array Value) : Nat -> Shared -> EndP
 | 0, s => fun e s' => e = .ret (.ok (.ret .none)) /\ KB it s s'
 | r + 1, s => fun e s' => match e with
  | .ret _ => False
  | .susp v g l k c p fs => (End.susp v g l k c p fs).quiet = true /\ its[its.size - (r + 1)]? = some v /\ KB it s s' /\ s'.heap.get? it = some (GNX.itObj a (its.size - r)) /\
    ∀ s'' : Shared, s''.heap.get? it = some (GNX.itObj a (its.size - r)) -> s''.heap.IsList a its -> GTurn M A (FR M A it a its r s'') c (k (.send .none)) fs s''
abbrev TQ := Addr -> List V -> Hp -> Prop
end L2
namespace PH
open PySem PySem.Spec PyProof.Rows L2
section
variable {X : Cx} {W : WX} {e a : Expr} {es : List Expr} {rest BD : List Stmt} {st : Stmt} {pos p yp : Pos} {x kw : Str} {K : aA} {ma me : FE} {mas : FA} {B : Addr -> Prop} {φ φ' : List Addr} {S S' : aJ} {H H' : Hp} {σ : L2.St} {Q : TQ} {m : FS} {n : L4} {D : Ends} {EX : XK}
def JV (n : L4) (o : Out) : Res (List PH.D) := match o with
 | .next ρ' S' => n ρ' S'
 | .err e _ S' => .err e S'
 | _ => .stuck
def GA (m : FS) (n : L4) : L4 := fun ρ S => JV n (m ρ S)
end
section
variable {ρ : Ev} {S : aJ} {m : FS} {n : L4} {me ma : FE} {mas : FA} {md : FDG} {cs : List Str} {ix il nn : Nat}
theorem PN : GA m n ρ S = JV n (m ρ S) := rfl
end
end PH
namespace L2
open PySem PySem.Spec PyProof.Rows
abbrev Ee := Value × Option Nat × (Addr -> Value -> Option Addr -> TS)
def Ends.gone (D : Ends) (i : Nat) : Ends := { nx := fun σ H => D.nx (σ.set i none) H, rt := D.rt, bk := fun σ H => D.bk (σ.set i none) H, ct := fun σ H => D.ct (σ.set i none) H }
def wishA (ts : Addr -> Value -> Option Addr -> TS) (o : Option Nat) (D : Ends) (a : Addr) (cls : Value) (d : Option Addr) (σ : St) (H : Hp) : Prop := match o with
 | none => ts a cls d D σ H
 | some i => ts a cls d (D.gone i) (σ.set i (some (.ref a))) H
def xT (K : aA) (Wout : WX) (D : Ends) : List Ee -> WX
 | [] => Wout
 | z :: r => fun cls d σ H => ∃ b, BA K cls z.1 = some b /\ (b = true -> ∀ a, H a = none -> wishA z.2.2 z.2.1 D a cls d σ H) /\ (b = false -> xT K Wout D r cls d σ H)
inductive HdsA (X : Cx) : List ExceptHandler -> List Ee -> Prop
 | nil : HdsA X [] []
 | cons {x : Str} {c : Value} {ts : Addr -> Value -> Option Addr -> TS} {b₀ : Stmt} {suite : List Stmt} {np pos' : Pos} {hds : List ExceptHandler} {l : List Ee} (hc : Names X x c)
   (hsu : ∀ (a : Addr) (oe : Obj) (cls : Value) (d : Option Addr) (pn : List (Addr × Obj)), Zc cls d oe -> (∃ vs, oe.data = .fields vs) -> PSs (X.suite a ((a, oe) :: pn)) (b₀ :: suite) (ts a cls d)) (r : HdsA X hds l) :
   HdsA X (.ExceptHandler (some (.Name x np)) none (b₀ :: suite) pos' :: hds) ((c, none, ts) :: l)
 | consA {x n : Str} {i : Nat} {c : Value} {ts : Addr -> Value -> Option Addr -> TS} {b₀ : Stmt} {suite : List Stmt} {np pos' : Pos} {hds : List ExceptHandler} {l : List Ee} (hc : Names X x c) (hN : X.N.Nodup) (hi : X.N[i]? = some n) (hln : X.env.kindOf n = some .local)
   (hsu : ∀ (a : Addr) (oe : Obj) (cls : Value) (d : Option Addr) (pn : List (Addr × Obj)), Zc cls d oe -> (∃ vs, oe.data = .fields vs) -> PSs (X.suite a ((a, oe) :: pn)) (b₀ :: suite) (ts a cls d)) (r : HdsA X hds l) :
   HdsA X (.ExceptHandler (some (.Name x np)) (some n) (b₀ :: suite) pos' :: hds) ((c, some i, ts) :: l)
section
variable {X : Cx} {body : List Stmt} {h₀ : ExceptHandler} {hds : List ExceptHandler} {l : List Ee} {pos : Pos} {tb : WX -> TS} {Wout : WX}
theorem CQ (hs : X.stack = X.env :: X.outer) (hf : X.env.frame = some X.env.locals) (tk : Takes X Wout)
  (hb : ∀ (W : WX) (pn : List (Addr × Obj)) (xe : Value -> Shared -> Prop), Takes (X.tr pn xe) W -> PassesOwn (model X.prog X.w) X.A X.env xe -> PSs (X.tr pn xe) body (tb W))
  (hh : HdsA X (h₀ :: hds) l) : PS X (.Try body (h₀ :: hds) [] [] pos) (fun D σ H => tb (xT X.K Wout D l) D σ H) := by
 refine ⟨fun pins s σ H D I hq => ?_⟩
 have okX := I.ok;have frm : X.A.frames = some (X.env :: X.outer) := by rw [okX.frames, hs]
 refine wpAny_Try_except ?_
 refine wpAny_mono ((hb (xT X.K Wout D l) (X.pn ++ pins) (fun x s₁ => wpAny (model X.prog X.w) X.A (noteFrame x X.env) (fun _ s₂ => wpAny (model X.prog X.w) X.A (setFlight x none) (fun _ s₃ =>
  wpAny (model X.prog X.w) X.A (handleBy x X.env (h₀ :: hds)) (SP X pins D) X.xe s₃) X.xe s₂) X.xe s₁) (fun u s' xx => ?_) PassesOwn.looking).run [] s σ H D (I.toTry _) hq) (fun fl s1 hsp => ?_) (fun _ _ z => z)
 ·obtain ⟨ea, G, sI, pinT, σT, HT, cls, ed, rfl, JT, keepG, upT, skyT, noneA, osT, bareT, wish⟩ := xx
  have JI : Inv X pins σT HT sI := JT.ofTry okX;have skyE : Sky G (X.env :: X.outer) ea (Zc cls ed) X.env.locals s'.heap := by rw [<- hs]; exact skyT
  show wpAny (model X.prog X.w) X.A (noteFrame (.ref ea) X.env) _ _ _
  refine Sky.land Zc.steady frm hf skyE fun hA flA upA => ?_
  have JA : Inv X pins σT HT { s' with heap := hA } := JI.landed keepG flA.1 (upT.trans upA) osT bareT
  obtain ⟨oA, vA, atA, zA, dA⟩ := flA.there;have ea_fr : ea ∉ frs (X.env :: X.outer) := fun hm => by
   obtain ⟨_, o', e', hnf⟩ := flA.2.2.1.mem hm;rw [atA] at e'; cases e';exact hnf _ dA
  have ea_L : ea ≠ X.env.locals := fun z => ea_fr (yV.mpr ⟨X.env, aY, by rw [hf, z]⟩)
  have ea_F : ea ∉ X.fs := fun hm => by
   obtain ⟨e1, he1, q1⟩ := yV.mp hm;exact ea_fr (yV.mpr ⟨e1, aM _ he1, q1⟩)
  have SA := JA.suite atA dA noneA ea_L ea_F;have tested : ∀ {x : Str} {c : Value} {np : Pos} (hc : Names X x c) {Q : Value -> Shared -> Prop} {E : Value -> Shared -> Prop}, Q c { s' with heap := hA } -> wpAny (model X.prog X.w) (X.A.mark (some (.ref ea))) (eval (.Name x np) X.env) Q E { s' with heap := hA } := fun {x c np} hc {Q E} q => by
   obtain ⟨hg, hdbg, hm | ⟨hm, hv, hnn⟩⟩ := hc
   ·exact ld_glob (X := X.suite ea ((ea, oA) :: (X.pn ++ pins))) SA hg hm q hdbg
   ·exact ld_blt (X := X.suite ea ((ea, oA) :: (X.pn ++ pins))) SA hg hm hv q hnn hdbg
  have lookA : PySem.W.Looks (model X.prog X.w) hA (typeOf (.ref ea)) cls := fun A Q E s k q => wpAny_typeOf_ref (k _ _ atA) (by rw [zA.1]; exact q)
  have clauses : ∀ {hds' : List ExceptHandler} {l' : List Ee}, HdsA X hds' l' -> xT X.K Wout D l' cls ed σT HT -> wpAny (model X.prog X.w) X.A (handleBy (.ref ea) X.env hds') (SP X pins D) X.xe { s' with heap := hA } := by
   intro hds' l' hk
   induction hk with
   | nil =>
    intro w;refine wpAny_handleBy_nil ?_
    obtain ⟨_, _, _, oB, vB, T, oT, tB, atB, zB, dB, h1B, _⟩ := id flA;unfold PySem.passOn;refine wpAny_bind (wpAny_field atB dB h1B ?_)
    rw [if_neg (show ¬ ((Value.ref T == Value.none) = true) from by simp)]
    have on : wpAny (model X.prog X.w) X.A (setFlight (.ref ea) X.env.frame) (fun _ sB => wpAny (model X.prog X.w) X.A (throw (.ref ea) : Sem Flow) (SP X pins D) X.xe sB) X.xe { s' with heap := hA } := by
     rw [hf];refine HandSPX.setFlight_upZ flA fun hB landB upB => wpAny_throw (tk _ _ ?_)
     exact ⟨ea, G, sI, pins, σT, HT, cls, ed, rfl, JI, keepG, (upT.trans upA).trans upB, .inr (.inr (by rw [hs]; exact landB)), noneA, osT, bareT, w⟩
    first
     | exact wpAny_bind (wpAny_pure (wpAny_bind on))
     | exact wpAny_bind on
   | @cons x c ts b₀ suite np pos' hds2 l2 hc hsu r ih =>
    intro w;obtain ⟨b, hb1, hyes, hno⟩ := w;refine wpAny_handleBy_cons (codeAny_handlers_test (tested hc ((PySem.W.exm_one (M := model X.prog X.w) JA.kIn lookA hb1).here ?_))) (by intro q; cases q)
    cases b with
    | true =>
     refine codeAny_handlers_suite (HandSPX.lands_againZ flA fun hB flB upB => ?_)
     obtain ⟨oB, vB, atB, zB, dB⟩ := flB.there;have JB : Inv X pins σT HT { s' with heap := hB } := JI.landed keepG flB.1 ((upT.trans upA).trans upB) osT bareT
     have SB := JB.suite atB dB noneA ea_L ea_F;refine wpAny_mono ((hsu ea oB cls ed (X.pn ++ pins) zB ⟨_, dB⟩).run [] _ _ HT _ SB (hyes rfl ea noneA)) (fun fl s6 hsp => ?_) (fun _ _ z => False.elim z)
     cases fl with
     | next => obtain ⟨σ6, H6, S6, q6⟩ := hsp; exact ⟨_, _, S6.unsuite okX, q6⟩
     | brk => obtain ⟨σ6, H6, S6, q6⟩ := hsp; exact ⟨_, _, S6.unsuite okX, q6⟩
     | cont => obtain ⟨σ6, H6, S6, q6⟩ := hsp; exact ⟨_, _, S6.unsuite okX, q6⟩
     | ret u => obtain ⟨v6, σ6, H6, S6, r6, q6⟩ := hsp; exact ⟨_, _, _, S6.unsuite okX, r6, q6⟩
    | false => exact ih (hno rfl)
   | @consA x n i c ts b₀ suite np pos' hds2 l2 hc hN hi hln hsu r ih =>
    intro w;obtain ⟨b, hb1, hyes, hno⟩ := w;refine wpAny_handleBy_cons (codeAny_handlers_test (tested hc ((PySem.W.exm_one (M := model X.prog X.w) JA.kIn lookA hb1).here ?_))) (by intro q; cases q)
    cases b with
    | true =>
     refine codeAny_handlers_suite_as (HandSPX.lands_againZ flA fun hB flB upB => ?_)
     obtain ⟨oB, vB, atB, zB, dB⟩ := flB.there;have JB : Inv X pins σT HT { s' with heap := hB } := JI.landed keepG flB.1 ((upT.trans upA).trans upB) osT bareT
     have SB := JB.suite atB dB noneA ea_L ea_F;refine store_ok (X := X.suite ea ((ea, oB) :: (X.pn ++ pins))) (v := .ref ea) SB hN hi (.inl hln) rfl (fun s5 S5 => ?_) (.inr hln)
     refine wpAny_mono ((hsu ea oB cls ed (X.pn ++ pins) zB ⟨_, dB⟩).run [] s5 _ HT _ S5 (hyes rfl ea noneA)) (fun fl s6 hsp => ?_) (fun _ _ z => False.elim z)
     have unbound : ∀ {σ6 : St} {H6 : Hp} {Q : Shared -> Prop}, Inv (X.suite ea ((ea, oB) :: (X.pn ++ pins))) [] σ6 H6 s6 -> (∀ s7, Inv X pins (σ6.set i none) H6 s7 -> Q s7) ->
       wpAny (model X.prog X.w) X.A (do bindName X.env n .none; unbindBehindTheSuite X.env n pos') (fun _ s7 => Q s7) X.xe s6 := fun {σ6 H6 Q} S6 hq => gone_ok (S6.unsuite okX) hN hi hln hq
     cases fl with
     | next => obtain ⟨σ6, H6, S6, q6⟩ := hsp; exact unbound S6 fun s7 J7 => ⟨_, _, J7, q6⟩
     | brk => obtain ⟨σ6, H6, S6, q6⟩ := hsp; exact unbound S6 fun s7 J7 => ⟨_, _, J7, q6⟩
     | cont => obtain ⟨σ6, H6, S6, q6⟩ := hsp; exact unbound S6 fun s7 J7 => ⟨_, _, J7, q6⟩
     | ret u => obtain ⟨v6, σ6, H6, S6, r6, q6⟩ := hsp; exact unbound S6 fun s7 J7 => ⟨_, _, _, J7, r6, q6⟩
    | false => exact ih (hno rfl)
  exact clauses hh wish
 ·cases fl with
  | next => obtain ⟨σ1, H1, J1, q1⟩ := hsp; exact wpAny_execs_nil ⟨σ1, H1, J1.ofTry okX, q1⟩
  | brk => obtain ⟨σ1, H1, J1, q1⟩ := hsp; exact ⟨σ1, H1, J1.ofTry okX, q1⟩
  | cont => obtain ⟨σ1, H1, J1, q1⟩ := hsp; exact ⟨σ1, H1, J1.ofTry okX, q1⟩
  | ret u => obtain ⟨v1, σ1, H1, J1, r1, q1⟩ := hsp; exact ⟨v1, σ1, H1, J1.ofTry okX, r1, q1⟩
end
end L2
namespace PH
open PySem PySem.Spec PyProof.Rows L2
inductive XJ where
 | c (v : L2.V) (d : PH.D) | f (n : Str) | v (i : Nat) | fl (n : Str) (i : Nat)
section
variable {X : Cx} {W : WX} {e : Expr} {es : List Expr} {pos : Pos} {K : aA} {B : Addr -> Prop} {φ φ' : List Addr} {S S' : aJ} {H H' : Hp} {σ : L2.St} {m : FS} {D : Ends} {cs : List Str} {x : Str}
theorem rd_xf {er : Er} {cl : Value} {xd : Option Addr} {C : Str} {k : Nat} {a : Addr} {n : Str} {z : PH.D} {Q : L2.VK} (rx : Ge K B φ S H er cl xd) (hC : er.cls = C) (hσ : sl σ k = some (.ref a)) (q0 : (er.ns.zip er.xs).lookup n = some z)
  (q : ∀ v, Rep K (lI B φ S) H z v -> Q v H) : tXf a cl xd (He.ga K C) n (yQ k) σ H Q := by
 obtain ⟨ec, rest⟩ := rx;subst hC;rcases rest with ⟨e1, _⟩ | ⟨dd, us, e1, e2, l⟩
 ·rw [e1] at q0; simp at q0
 ·obtain ⟨v, h2, h3⟩ := zip_look l q0
  show (match sl σ k with | some v => _ | none => False)
  rw [hσ];exact ⟨rfl, ec, dd, _, v, e1, e2, h2, q v h3⟩
inductive HJ where
 | m (f : FS) | j (k : Nat) (its : List XJ)
theorem RepE.wipe1 {ρ : Ev} {v : L2.V} (E : RepE K B φ S H ρ σ) (k : Nat) : RepE K B φ S H (ρ.set k none) (σ.set k (some v)) := by
 refine ⟨by simp [E.1], fun i d h => ?_⟩
 by_cases e : k = i
 ·subst e
  rw [aP, if_pos rfl] at h;split at h
  ·cases h
  ·cases h
 ·rw [aP, if_neg e] at h ⊢
  exact E.2 i d h
end
end PH
namespace PH
open PySem PySem.Spec PyProof PyProof.Rows L2
section
variable {X : Cx} {W : WX}
theorem fI {i j pos} : PE X (.Constant (.int i) j pos) (cC X.K W (mC (.int i))) := KR pe_int fun _ _ => rfl
theorem fS {x j pos} : PE X (.Constant (.str x) j pos) (cC X.K W (mC (.str x))) := KR pe_str fun _ _ => rfl
theorem fB {b j pos} : PE X (.Constant (.bool b) j pos) (cC X.K W (mC (.bl b))) := KR pe_bl fun _ _ => rfl
theorem fN {j pos} : PE X (.Constant .none j pos) (cC X.K W (mC .non)) := KR pe_non fun _ _ => rfl
end
section
variable {P : Program} {w : World} {K : aA} {mg : Str -> Option Value} {base : Heap}
theorem nO {x : Str} {st : Stmt} {N ps : List Str} {k : Nat} {md : FD} {mb : FS} (F : uM K x st) (g : mg x = some (.ref (He.ga K x))) (S : FnScope N ps (defScope st)) (R : Runs md N.length ps.length mb)
  (bnd : ∀ (kV doc pm : Value) (an : Option Addr) (cdv ct : Value) (us : List Value), us.length = ps.length -> bindArgs (cD x x (defArgs st) (defBody st) (defScope st) .none kV doc pm an cdv ct) ⟨us, []⟩ = pure (ps.zip us))
  (hbody : ∀ (cdv : Value) (A : Around) (outer : List Env) (s : Shared) (H : Hp) (E : XK), Room k (A.deeper (envOfC x (defScope st) s.heap.objs.size (He.ga K x) cdv)) ->
   Takes (cxOf (L2.CX P w) P w K mg base N x (defScope st) (He.ga K x) cdv A outer s H E) (fun c x _ H => E c x H) -> N.Nodup ->
   PSs (cxOf (L2.CX P w) P w K mg base N x (defScope st) (He.ga K x) cdv A outer s H E) (defBody st) (jL K (fun c x _ H => E c x H) mb)) : uL P w K mg base (k + 1) x ps (spF K md) :=
 okF F g S R bnd fun cdv A outer s H E hr => hbody cdv A outer s H E hr (takes_of (X := cxOf (L2.CX P w) P w K mg base N x (defScope st) (He.ga K x) cdv A outer s H E) (E := E) rfl rfl rfl rfl) S.nd
theorem oO {C m q : Str} {st : Stmt} {N ps : List Str} {k : Nat} {md : FD} {mb : FS} (F : B5 K C m q st) (g : Meth K (He.ga K C) m (He.ma K (He.ga K C) m)) (S : FnScope N ps (defScope st)) (R : Runs md N.length ps.length mb)
  (bnd : ∀ (kV doc pm : Value) (an : Option Addr) (cdv ct : Value) (us : List Value), us.length = ps.length -> bindArgs (cD m q (defArgs st) (defBody st) (defScope st) .none kV doc pm an cdv ct) ⟨us, []⟩ = pure (ps.zip us))
  (hbody : ∀ (cdv : Value) (A : Around) (outer : List Env) (s : Shared) (H : Hp) (E : XK), Room k (A.deeper (envOfC q (defScope st) s.heap.objs.size (He.ma K (He.ga K C) m) cdv)) ->
   Takes (cxOf (L2.CX P w) P w K mg base N q (defScope st) (He.ma K (He.ga K C) m) cdv A outer s H E) (fun c x _ H => E c x H) -> N.Nodup ->
   PSs (cxOf (L2.CX P w) P w K mg base N q (defScope st) (He.ma K (He.ga K C) m) cdv A outer s H E) (defBody st) (jL K (fun c x _ H => E c x H) mb)) : OkMX P w K mg base (k + 1) C m ps (spF K md) :=
 okFM F g S R bnd fun cdv A outer s H E hr => hbody cdv A outer s H E hr (takes_of (X := cxOf (L2.CX P w) P w K mg base N q (defScope st) (He.ma K (He.ga K C) m) cdv A outer s H E) (E := E) rfl rfl rfl rfl) S.nd
end
end PH
namespace PH
open PySem PySem.Spec PyProof.Rows L2
section
variable {X : Cx} {W : WX} {e : Expr} {es : List Expr} {pos : Pos} {K : aA} {B : Addr -> Prop} {φ φ' : List Addr} {S S' : aJ} {H H' : Hp} {σ : L2.St} {m : FS} {D : Ends} {cs : List Str} {x : Str}
def IY (i : Nat) (te : TE) : TS := fun D σ H => te σ H fun x H1 => D.nx (σ.set i (some x)) H1
theorem RepE.unbind {ρ : Ev} (E : RepE K B φ S H ρ σ) (k : Nat) : RepE K B φ S H (ρ.set k none) (σ.set k none) := by
 refine ⟨by simp [E.1], fun i d h => ?_⟩
 by_cases e : k = i
 ·subst e
  rw [aP, if_pos rfl] at h;split at h
  ·cases h
  ·cases h
 ·rw [aP, if_neg e] at h ⊢
  exact E.2 i d h
end
section
variable {X : Cx} {W : WX} {C f mn : Str} {md : FD} {o i a b e : Expr} {es : List Expr} {mo mi ma mb : FE} {mas : FA} {pos p tpos : Pos} {j k : Nat} {ps : List Str} {K : aA} {B : Addr -> Prop} {φ φ' : List Addr} {S S' : aJ} {H H' : Hp} {σ : L2.St} {D : Ends} {x : Str}
theorem GQ {α β : Type} {R : Rl α β} {ρ : Ev} {r : Res α} {k : α -> aJ -> Out} {Q1 : β -> Hp -> Prop} (I : GInv K B φ S H) (E : RepE K B φ S H ρ σ) (f : FinS K W D B φ S H (r.toS ρ k))
  (hk : ∀ φ' S' d v H1, GInv K B φ' S' H1 -> Ext φ S H φ' S' H1 -> RepE K B φ' S' H1 ρ σ -> R B φ' S' H1 d v -> FinS K W D B φ' S' H1 (k d S') -> Q1 v H1) : Fin K W σ R B φ S H r Q1 := by
 cases r with
 | stuck => exact f
 | err x S' => exact fun φ' c d H' I' X r => f φ' σ c d H' I' X (E.ext X I) r
 | ok d S' => exact fun φ' v H' I' X r => hk φ' S' d v H' I' X (E.ext X I) r (FinS.ext f X)
structure OkPr (P : Program) (w : World) (K : aA) (mg : Str -> Option Value) (base : Heap) (k : Nat) (C f : Str) (sp : Sp) : Prop where
 ex : ∃ p g fd, PropOf K (He.ga K C) f p g /\ FnOk P w K mg base (L2.CX P w) k g fd ["self"] sp /\ Binds K fd ["self"] []
def zI (C : Str) (md : FD) (x : Vl) (S : aJ) : Res Vl := if fR S C "" x = true then Ni (md [x] S) else .stuck
theorem FW (F : OkPr X.prog X.w X.K X.mg X.base j C f (spF X.K md)) (hr : Room k X.A) (c : Cls X.K (He.ga X.K C)) (ho : PE X o (cC X.K W mo)) (hjk : j + 1 <= k := by decide)
  (hab : attributeBase o f X.env (eval o X.env) = eval o X.env := by rfl) : PE X (.Attribute o f pos) (cC X.K W (m1 (zI C md) mo)) := by
 obtain ⟨p, g, fd, hp, F, hb⟩ := F;refine ⟨fun pins s σ H Q I h => ?_⟩
 have h' : cC X.K W mo σ H fun x H1 => ∃ a dx fs, x = .ref a /\ H1 a = some (.ins (He.ga X.K C) dx fs) /\ spF X.K md [x] H1 Q E0 :=
  bP (k := fun x _ S => zI C md x S) h fun B φ S ρ d v H1 I E r f => by
   unfold zI at f;split at f
   ·rename_i hh
    obtain ⟨a, dx, fs, rfl, h1, h2⟩ := qW I r hh;refine ⟨a, dx, fs, rfl, h1, B, φ, S, [d], I, ⟨_, _, rfl, r, rfl⟩, ?_⟩
    unfold Ni at f;split at f
    ·rename_i q
     rw [q];exact fun φ' v H' I' X' r' => f φ' v H' I' X' r'
    ·exact f.elim
   ·exact f.elim
 refine attr_of hab (thn (ho.run pins s σ H _ I h') fun u s1 ⟨x, H1, I1, rx, a, dx, fs, ex, ea, q⟩ => ?_)
 subst ex;obtain rfl : u = Value.ref a := rx;obtain ⟨mA, O, _⟩ := ins_get I1.hok ea;obtain ⟨od, J, _⟩ := O.look;obtain ⟨rest, hrec⟩ := hp.rec_;have I2 := I1.tok (s1.toks + 1);have hr' : Room (j + 1) X.A := hr.mono hjk;have b1 := hb { s1 with toks := s1.toks + 1 } [.ref a] I2.kIn rfl
 have hc : (PySem.W.clsIn X.K (He.ga X.K C)).isSome = true := by
  obtain ⟨cd, hc, _⟩ := PySem.W.any_some c.hd;rw [hc];rfl
 refine PySem.W.get_bind I1.kIn J (Fp (c.get f)).1 (PySem.W.findObj_data hc hp.at_ hp.get hp.tak) (Fp (c.get f)).2 (wpAny_call (PySem.W.prop_get (s := { s1 with toks := s1.toks + 1 }) I1.kIn hrec ?_))
 refine codeAny_mono (F.run X.A.in1 X.stack { s1 with toks := s1.toks + 1 } H1 ⟨[.ref a], []⟩ [.ref a] [.ref a] Q E0 hr'.in1 I2.env0.in1 (by simpa using b1) (.cons rfl .nil) q) fun r s' hq => ?_
 cases r with
 | error er => obtain ⟨_, _, _, _, _, _, _, _, _, _, _, _, z⟩ := hq; exact z.elim
 | ok fl =>
  cases fl with
  | ret u =>
   obtain ⟨v, H', I3, rv, q3⟩ := I2.after hq
   show wpAny _ _ (handedOut u) _ _ _
   rw [PySem.W.handedOut_of (handed_of rv)];exact wpAny_pure ⟨v, H', I3, rv, q3⟩
  | next => exact False.elim hq
  | brk => exact False.elim hq
  | cont => exact False.elim hq
theorem setItem_K {M : Model} {A : Around} {E : Value -> Shared -> Prop} {s : Shared} {x C L f : Addr} {h₀ : Heap} {m : Str -> Option Value} {ox : Obj} {od : Option Obj} {v u : Value} {Q : Unit -> Shared -> Prop} (F : PyProof.Rows.Fr h₀ L s.heap m) (X₀ : K.In h₀) (I : PySem.W.InstAt s.heap x ox C od) (hq : pQ K C = true) (hs : eX K (.ref C) "__setitem__" = some (some (.ref f))) (hf : PySem.W.isFn K (.ref f) = true)
  (h : wpAny M A (call (.ref f) [.ref x, v, u]) (fun _ s' => Q () s') E s) : wpAny M A (setItem (.ref x) v u) Q E s := by
 have X := X₀.keeps F.keep;unfold setItem sequenceKey;refine wpAny_holding (wpAny_bind (wpAny_bind (I.type.here ?_)))
 refine wpAny_bind ((PySem.W.anyM_none X hq).here ?_)
 rw [if_pos (show (!false) = true from rfl)]
 exact wpAny_pure (wpAny_bind (PySem.W.special_fn X I hs (beq_iff_eq.mp hf) (wpAny_mono h (fun _ _ z => wpAny_pure z) fun _ _ z => z)))
def gSetO (W : WX) (K : aA) (C : Str) (md : FD) (to ti : TE) : TG := fun v σ H Q => to σ H fun x H1 => ti σ H1 fun y H2 => ∃ a dx fs, x = .ref a /\ H2 a = some (.ins (He.ga K C) dx fs) /\ spF K md [x, y, v] H2 (fun _ H3 => Q σ H3) (WE W σ)
theorem Lj {to ti : TE} (F : OkMX X.prog X.w X.K X.mg X.base j C "__setitem__" ps (spF X.K md)) (hr : Room k X.A) (tk : Takes X W) (nq : pQ X.K (He.ga X.K C) = true) (ho : PE X o to) (hi : PE X i ti) (hjk : j <= k := by decide)
  (hz : ∀ v, assign (.Subscript o i pos) X.env v = (do
   let ov <- holding [v] (eval o X.env)
   let iv <- holding [v, ov] (eval i X.env)
   standAt pos
   holding [v, ov, iv] (setItem ov iv v)
   release [v, ov, iv] []) := by intro _; rfl) : PG X (.Subscript o i pos) (gSetO W X.K C md to ti) := by
 obtain ⟨⟨fd, F, hb⟩, mt⟩ := F;refine ⟨fun pins s σ H v u Q I r h => ?_⟩
 rw [hz];refine wpAny_bind (wpAny_holding (thn (ho.run pins s σ H _ I h) fun ov s1 ⟨x, H1, I1, r1, q1⟩ => ?_))
 refine wpAny_bind (wpAny_holding (thn (hi.run pins s1 σ H1 _ I1 q1) fun iv s2 ⟨y, H2, I2, r2, q2⟩ => ?_))
 obtain ⟨a, dx, fs, rfl, ea, q⟩ := q2;cases r1;refine wpAny_bind (wpAny_standAt (wpAny_bind (wpAny_holding ?_)))
 obtain ⟨mA, O, _⟩ := ins_get I2.hok ea;obtain ⟨od, J, _⟩ := O.look;obtain ⟨fm, hF⟩ := I2.fr;have e := I2.env0;have hl := F.len _ _ _ _ q;have b1 := hb s2 [.ref a, iv, u] I2.kIn (by simpa using hl)
 have run := F.run X.A X.stack s2 H2 ⟨[.ref a, iv, u], []⟩ [.ref a, iv, u] [.ref a, y, v] _ (WE W σ) (hr.mono hjk) e (by simpa using b1) (.cons rfl (.cons r2 (.cons r .nil))) q
 refine setItem_K hF I2.ok.mod.kin J nq mt.at_ mt.fn (wpAny_call (codeAny_mono run fun rr s' hq => ?_))
 cases rr with
 | error er => exact passAt tk σ pins H2 s2 er s' I2 hq
 | ok fl =>
  cases fl with
  | ret w =>
   obtain ⟨z, H3, I3, rz, hz⟩ := I2.after hq;exact wpAny_release ⟨σ, H3, I3, hz⟩
  | next => exact False.elim hq
  | brk => exact False.elim hq
  | cont => exact False.elim hq
def mJ (C : Str) (md : FD) (ρ : Ev) (v x k : Vl) (S : aJ) : Out := if fR S C "" x = true then (md [x, k, v] S).toS ρ fun _ S4 => .next ρ S4 else .stuck
def lS (C : Str) (md : FD) (a o i : FE) : FS := fun ρ S => (a ρ S).toS ρ fun v S1 => (o ρ S1).toS ρ fun x S2 => (i ρ S2).toS ρ fun k S3 => mJ C md ρ v x k S3
theorem oS (F : OkMX X.prog X.w X.K X.mg X.base j C "__setitem__" ps (spF X.K md)) (hr : Room k X.A) (tk : Takes X W) (nq : pQ X.K (He.ga X.K C) = true) (ha : PE X a (cC X.K W ma)) (ho : PE X o (cC X.K W mo)) (hi : PE X i (cC X.K W mi)) (hjk : j <= k := by decide) (hs : swapsWithSole [.Subscript o i tpos] a pos.line X.env = pure false := by rfl) (hw : swappedStores [.Subscript o i tpos] a X.env = pure none := by rfl)
  (h1 : (assignEach [.Subscript o i tpos] X.env).map (·.2) = [assign (.Subscript o i tpos) X.env] := by rfl)
  (hz : ∀ v, assign (.Subscript o i tpos) X.env v = (do
   let ov <- holding [v] (eval o X.env)
   let iv <- holding [v, ov] (eval i X.env)
   standAt tpos
   holding [v, ov, iv] (setItem ov iv v)
   release [v, ov, iv] []) := by intro _; rfl) : PS X (.Assign [.Subscript o i tpos] a pos) (jL X.K W (lS C md ma mo mi)) := fD (ps_asg ha (Lj F hr tk nq ho hi hjk hz) hs hw h1) fun D σ H h => by
 obtain ⟨B, φ, S, ρ, I, E, f⟩ := h;refine bT I E f fun φ1 S1 d1 v1 H1 I1 X1 E1 r1 f1 => bT I1 E1 f1 fun φ2 S2 d2 v2 H2 I2 X2 E2 r2 f2 => bT I2 E2 f2 fun φ3 S3 d3 v3 H3 I3 X3 E3 r3 f3 => ?_
 unfold mJ at f3;split at f3
 ·rename_i hh
  have r2' := r2.ext X3 I2;have r1' := (r1.ext X2 I1).ext X3 I2;obtain ⟨a, dx, fs, rfl, e1, e2⟩ := qW I3 r2' hh;exact ⟨a, dx, fs, rfl, e1, B, φ3, S3, [d2, d3, d1], I3, ⟨_, _, rfl, r2', _, _, rfl, r3, _, _, rfl, r1', rfl⟩, Fin.toE (GQ (ρ := ρ) I3 E3 f3 fun φ4 S4 d4 v4 H4 I4 X4 E4 r4 f4 => f4 φ4 σ H4 I4 Ext.refl E4)⟩
 ·exact f3.elim
end
section
variable {M : Model} {A : Around} {E : Value -> Shared -> Prop} {s : Shared} {K : aA} {x C L f : Addr} {h₀ : Heap} {m : Str -> Option Value} {ox : Obj} {od : Option Obj}
open PySem.W in
theorem KM {h : Heap} {nm : String} {add : Bool} {cd : ClassData} {rest : List Value} (X : K.In h) (hc : clsIn K C = some cd) (hm : cd.mro = .ref C :: rest) (hs : findIn K (.ref C) (PySem.dunderI nm) = some (some (.ref f))) : Looks M h (fillsInplaceSlot (.ref C) nm add) true := by
 intro A Q E s k q;unfold fillsInplaceSlot;refine wpAny_bind ((looks_clsIn X hc).andThen (f := fun cd => pure cd.mro) .now A _ E s k ?_)
 rw [hm, List.anyM_cons];refine wpAny_bind ?_
 refine wpAny_bind (looks_findIn X hs A _ E s k ?_)
 dsimp only;rw [if_pos (show (!ownNameWrapper (.ref f) (PySem.dunderI nm)) = true from rfl)]
 refine wpAny_pure ?_
 rw [if_pos rfl];exact wpAny_pure q
open PySem.W in
theorem PD {prog : Program} {w : World} {b : Value} {Q : Value -> Shared -> Prop} (F : PyProof.Rows.Fr h₀ L s.heap m) (X₀ : K.In h₀) (I : InstAt s.heap x ox C od) (hc : selfFirst K C = true)
  (hs : findIn K (.ref C) "__iadd__" = some (some (.ref f))) (hf : isFn K (.ref f) = true)
  (h : wpAny (model prog w) A (call (.ref f) [.ref x, b]) (PySem.W.CmpBack Q) E s) : wpAny (model prog w) A (inplaceOp .Add (.ref x) b) Q E s := by
 have X := X₀.keeps F.keep;obtain ⟨cd, hcd, hm⟩ := any_some hc;obtain ⟨rest, hm⟩ : ∃ rest, cd.mro = .ref C :: rest := by
  cases q : cd.mro with
  | nil => rw [q] at hm; cases hm
  | cons a r => rw [q] at hm; exact ⟨r, by rw [List.head?_cons] at hm; cases (beq_iff_eq.mp hm); rfl⟩
 have hs' : findIn K (.ref C) (PySem.dunderI "add") = some (some (.ref f)) := hs;unfold inplaceOp;refine wpAny_holding (wpAny_bind (I.type.here (wpAny_bind ((KM X hcd hm hs').here ?_))))
 simp only [if_true];refine wpAny_bind (m := tryMethod (.ref x) _ b) ?_
 unfold tryMethod;refine wpAny_bind (special_fn X I hs (beq_iff_eq.mp hf) (wpAny_mono h (fun v s' hv => ?_) fun _ _ e => e))
 cases v <;> first | exact hv.elim | exact wpAny_pure (wpAny_bind (wpAny_rule (wpAny_pure hv)))
open PySem.W in
theorem D5 {pos : Pos} {first : List Value} {Q : Value -> Shared -> Prop} {args : List (Bool × Sem Value)} {keywords : List (Option Str × Sem Value)} (hplain : (args.any (·.1) || keywords.any (·.1.isNone)) = false)
  (h : wpAny M A (evalArgs (.ref x) true args keywords) (fun a s₁ => (∃ ox od, InstAt s₁.heap x ox C od /\ ox.data = .plain) /\ wpAny M A (call (.ref x) (first ++ a.pos) a.kw) Q E s₁) E s) : wpAny M A (callWith pos (.ref x) first args keywords) Q E s := by
 unfold callWith;refine wpAny_bind (wpAny_holding (wpAny_mono h (fun a s₁ h₁ => wpAny_bind (wpAny_standAt ?_)) fun _ _ y => y))
 obtain ⟨⟨ox, od, h1, hd⟩, h2⟩ := h₁;have L := kco_keeper (M := M) h1 hd;simp only [hplain];refine wpAny_bind (L.here ?_)
 have tail : ∀ {t : Sem Value}, wpAny M A t Q E s₁ -> wpAny M A (t >>= fun r => holding [r] point >>= fun _ => pure r) Q E s₁ :=
  fun ht => wpAny_bind (wpAny_mono ht (fun r s₂ hr => wpAny_bind (wpAny_holding (wpAny_point (wpAny_pure hr)))) fun _ _ y => y)
 exact tail (wpAny_operateT h2)
end
section
variable {X : Cx} {W : WX} {C f mn : Str} {md : FD} {o i a b e : Expr} {es : List Expr} {mo mi ma mb me : FE} {mas : FA} {pos p tpos pos' : Pos} {j k : Nat} {ps : List Str} {K : aA} {B : Addr -> Prop} {φ φ' : List Addr} {S S' : aJ} {H H' : Hp} {σ : L2.St} {D : Ends} {x : Str}
def Cg (C : Str) (md : FD) (k : Nat) (ρ : Ev) (x y : Vl) (S1 : aJ) : Out := if fR S1 C "" x = true then (md [x, y] S1).toS ρ fun z S2 => .next (ρ.set k (some z)) S2 else .stuck
def Cb (C : Str) (md : FD) (k : Nat) (e : FE) : FS := fun ρ S => match lk ρ k with
 | some x => (e ρ S).toS ρ (Cg C md k ρ x)
 | none => .stuck
theorem KJ {kk : Nat} (F : OkMX X.prog X.w X.K X.mg X.base j C "__iadd__" ps (spF X.K md)) (hr : Room k X.A) (tk : Takes X W) (sf : xS X.K (He.ga X.K C) = true) (hN : X.N.Nodup) (hi : X.N[kk]? = some x) (hx : Loc X.env.scope x) (he : PE X e (cC X.K W me)) (hjk : j <= k := by decide)
  (hf : X.fn x = true \/ X.env.scope.names.lookup x = some .local := by first | exact .inl rfl | exact .inr rfl | assumption) : PS X (.AugAssign (.Name x pos') .Add e pos) (jL X.K W (Cb C md kk me)) := by
 obtain ⟨⟨fd, F, hb⟩, mt⟩ := F;refine ⟨fun pins s σ H D I h => ?_⟩
 obtain ⟨B, φ, S, ρ, IG, ER, f⟩ := h;unfold Cb at f;cases ql : lk ρ kk with
 | none => rw [ql] at f; exact f.elim
 | some xv =>
  rw [ql] at f;dsimp only at f;obtain ⟨v, e1, rv⟩ := ER.2 kk _ (Dg ql);obtain ⟨m, hn, hl⟩ := I.loc;have vis : Vis X.env.scope x := by rcases hx with k | k; exact .inl k; exact .inr (.inl k)
  obtain ⟨u, r, l⟩ := hl kk x v hi e1 vis;refine wpAny_AugAssign_Name ?_
  have h' : cC X.K W me σ H fun y H1 => ∃ a dx fs, v = .ref a /\ H1 a = some (.ins (He.ga X.K C) dx fs) /\ spF X.K md [v, y] H1 (fun z H2 => D.nx (σ.set kk (some z)) H2) (WE W σ) :=
   bT IG ER f fun φ1 S1 d1 v1 H1 I1 X1 E1 r1 f1 => by
    unfold Cg at f1;split at f1
    ·rename_i hh
     have rv' := rv.ext X1 IG;obtain ⟨a, dx, fs, rfl, ea, _⟩ := qW I1 rv' hh;exact ⟨a, dx, fs, rfl, ea, B, φ1, S1, [xv, d1], I1, ⟨_, _, rfl, rv', _, _, rfl, r1, rfl⟩, Fin.toE (GQ (ρ := ρ) I1 E1 f1 fun φ4 S4 d4 v4 H4 I4 X4 E4 r4 f4 => f4 φ4 _ H4 I4 Ext.refl (E4.set (d := d4) (v := v4) r4 kk))⟩
    ·exact f1.elim
  have go : wpAny (model X.prog X.w) X.A (eval e X.env) (fun w s₂ => wpAny (model X.prog X.w) X.A (inplaceOp .Add u w) (fun r s₃ => wpAny (model X.prog X.w) X.A (storeName X.env x r) (fun _ => SP X pins D .next) X.xe s₃) X.xe s₂) X.xe s := by
   refine thn (he.run pins s σ H _ I h') fun w s1 ⟨y, H1, I1, r1, a, dx, fs, ev, ea, q⟩ => ?_
   subst ev;cases r;obtain ⟨mA, O, _⟩ := ins_get I1.hok ea;obtain ⟨od, J, _⟩ := O.look;obtain ⟨fm, hF⟩ := I1.fr;have e := I1.env0;have hl := F.len _ _ _ _ q;have b1 := hb s1 [.ref a, w] I1.kIn (by simpa using hl)
   have run := F.run X.A X.stack s1 H1 ⟨[.ref a, w], []⟩ [.ref a, w] [.ref a, y] _ (WE W σ) (hr.mono hjk) e (by simpa using b1) (.cons rfl (.cons r1 .nil)) q
   refine PD I1.fr.choose_spec I1.ok.mod.kin J sf mt.at_ mt.fn (wpAny_call (codeAny_mono run fun rr s' hq => ?_))
   cases rr with
   | error er => exact passAt tk σ pins H1 s1 er s' I1 hq
   | ok fl =>
    cases fl with
    | ret w2 =>
     obtain ⟨z, H3, I3, rz, hz⟩ := I1.after hq;exact FY (Q := fun r s₃ => wpAny (model X.prog X.w) X.A (storeName X.env x r) (fun _ => SP X pins D .next) X.xe s₃) rz (store_ok I3 hN hi hx rz (fun s3 I4 => ⟨_, H3, I4, hz⟩) hf)
    | next => exact False.elim hq
    | brk => exact False.elim hq
    | cont => exact False.elim hq
  rcases l with ⟨hk, hm⟩ | ⟨hk, c, hc, hcell⟩
  ·exact wpAny_loadName_local I.ok.kind hk hn hm go
  ·rcases hk with hk | hk
   ·exact wpAny_loadName_cell I.ok.kind hk hc hcell go
   ·rcases hx with k | k
    ·have : X.env.scope.names.lookup x = some .free := hk
     rw [k] at this; cases this
    ·have : X.env.scope.names.lookup x = some .free := hk
     rw [k] at this; cases this
def Ci (C : Str) (md : FD) (x : Vl) (ds : List Vl) (S1 : aJ) : Res Vl := if fR S1 C "" x = true then md (x :: ds) S1 else .stuck
def Cc (C : Str) (md : FD) (i : Nat) (as : FA) : FE := fun ρ S => match lk ρ i with
 | some x => if fR S C "" x = true then (as ρ S).bind (Ci C md x) else .stuck
 | none => .stuck
theorem N6 {ii : Nat} (F : OkMX X.prog X.w X.K X.mg X.base j C "__call__" ps (spF X.K md)) (hr : Room k X.A) (tk : Takes X W) (fi : DF X.K (He.ma X.K (He.ga X.K C) "__call__") = true) (hN : X.N[ii]? = some x) (hv : Vis X.env.scope x) (ha : PA X (e :: es) (DD X.K W mas)) (hjk : j <= k := by decide)
  (hdb : (x == ("__debug__" : Str)) = false := by decide) (hcd : (x == ("__classdict__" : Str)) = false := by decide)
  (he : starEach (e :: es) X.env = (false, eval e X.env) :: starEach es X.env := by rfl) (hpl : (backTo pos (starEach es X.env)).any (·.1) = false := by rfl) : PE X (.Call (.Name x p) (e :: es) [] pos) (cC X.K W (Cc C md ii mas)) := by
 obtain ⟨⟨fd, F, hb⟩, mt⟩ := F;refine ⟨fun pins s σ H Q I h => ?_⟩
 obtain ⟨B, φ, S, ρ, IG, ER, f⟩ := h;unfold Cc at f;cases ql : lk ρ ii with
 | none => rw [ql] at f; exact f.elim
 | some xv =>
  rw [ql] at f;dsimp only at f;split at f
  case isFalse => exact f.elim
  rename_i hh;obtain ⟨v, e1, rv⟩ := ER.2 ii _ (Dg ql);obtain ⟨a, dx, fs, rfl, ea, _⟩ := qW IG rv hh;have h' : DD X.K W mas σ H fun vs H1 => ∃ dx fs, H1 a = some (.ins (He.ga X.K C) dx fs) /\ spF X.K md (.ref a :: vs) H1 Q (WE W σ) :=
   gY IG ER f fun φ' S' ds vs H2 I2 X2 E2 r2 f2 => by
    unfold Ci at f2;split at f2
    ·rename_i hh2
     have rv' := rv.ext X2 IG;obtain ⟨a', dx', fs', ea', h1, _⟩ := qW I2 rv' hh2;cases ea';exact ⟨dx', fs', h1, B, φ', S', xv :: ds, I2, ⟨_, _, rfl, rv', r2⟩, f2.toE⟩
    ·exact f2.elim
  refine wpAny_Call_Name_kw (thn ((pe_var (pos := p) hN hv hdb hcd).run pins s σ H (fun v H1 => v = .ref a /\ H1 = H) I ⟨.ref a, e1, rfl, rfl⟩) fun u s1 ⟨v, H1, I1, r1, q1⟩ => ?_)
  obtain ⟨rfl, rfl⟩ := q1;cases r1;have hsp := ha.run pos pins s1 σ _ _ I1 h';rw [he] at hsp ⊢;refine D5 (C := He.ga X.K C) (by show ((false || (backTo pos (starEach es X.env)).any (·.1)) || false) = false; rw [hpl]; rfl) (PySem.Calls.evalArgs_plain (thn hsp fun us s2 ⟨vs, H2, I2, r, dx2, fs2, ea2, q⟩ => ?_))
  obtain ⟨mA, O, _⟩ := ins_get I2.hok ea2;obtain ⟨od, J, _⟩ := O.look;refine ⟨⟨_, _, J, rfl⟩, ?_⟩
  have e := I2.env0;have hl := F.len _ _ _ _ q;have b1 := hb s2 (.ref a :: us) I2.kIn (by
   have e1 := r.length;rw [bJ, <- hl, aN, aN, e1])
  rw [bJ] at b1;have run := F.run X.A X.stack s2 H2 ⟨.ref a :: us, []⟩ (.ref a :: us) (.ref a :: vs) _ (WE W σ) (hr.mono hjk) e b1 (.cons rfl r) q;refine wpAny_call (PySem.W.kco_code (a := ⟨us, []⟩) I2.kIn J rfl mt.at_ mt.fn fi (codeAny_mono run fun rr s' hq => ?_))
  cases rr with
  | error er => exact passAt tk σ pins H2 s2 er s' I2 hq
  | ok fl =>
   cases fl with
   | ret w2 => exact I2.after hq
   | next => exact False.elim hq
   | brk => exact False.elim hq
   | cont => exact False.elim hq
end
structure OkMK (P : Program) (w : World) (K : aA) (mg : Str -> Option Value) (base : Heap) (k : Nat) (C : Str) (ps : List Str) (n : Nat) (kw : Str) (dv : L2.V) (sp : Sp) : Prop where
 ex : ∃ fd, FnOk P w K mg base (L2.CX P w) k (He.ma K (He.ga K C) "__init__") fd ps sp /\ (∃ ds, Vals [dv] ds /\ Binds K fd ps ds) /\ KBn K fd ps n [kw] (fun us ws => us ++ ws) (fun vs zs => vs ++ zs)
section
variable {X : Cx} {W : WX} {C f mn : Str} {md : FD} {o i a b e : Expr} {es : List Expr} {mo mi ma mb me : FE} {mas : FA} {pos p tpos pos' kpos : Pos} {j k n : Nat} {ps : List Str} {K : aA} {B : Addr -> Prop} {φ φ' : List Addr} {S S' : aJ} {H H' : Hp} {σ : L2.St} {D : Ends} {x kw : Str} {dv : L2.V} {dd : PH.D} {Q : VK}
theorem Et {C fA : Addr} {fd : FuncData} {sp : Sp} {CX : CXT} {E : L2.St -> XK} {pins : List (Addr × Obj)} {s : Shared} {us ds : List Value} {vs dvs : List L2.V} (M : Mk X.K C fA) (F : FnOk X.prog X.w X.K X.mg X.base CX k fA fd ps sp) (hr : Room (k + 1) X.A) (hb : Binds X.K fd ps ds) (hd : Vals dvs ds)
  (hx : PassesAt CX X σ (E σ)) (I : Inv X pins σ H s) (r : Vals vs us)
  (h : ∀ x dx, H x = none -> H dx = none -> dx ≠ x -> sp (.ref x :: (vs ++ dvs)) (upd (upd H dx (.own x)) x (.ins C dx [])) (fun v H2 => v = .non /\ Q (.ref x) H2) (E σ)) :
  wpAny (model X.prog X.w) X.A (call (.ref C) us) (EP X pins σ Q) X.xe s := by
 have hq := h (s.heap.objs.size + 1) s.heap.objs.size (I.hok.fresh (Nat.le_succ _)) (I.hok.fresh (bX _)) (Gj (BB _));have I2 := Inv.made (C := C) I;have r2 : Vals (V.ref (s.heap.objs.size + 1) :: (vs ++ dvs)) ((Value.ref (s.heap.objs.size + 1) :: us) ++ ds) := .cons rfl (r.append hd);have hl : (Value.ref (s.heap.objs.size + 1) :: us ++ ds).length = ps.length := by
  have e := r2.length;rw [F.len _ _ _ _ hq] at e;exact e.symm
 have b := hb _ (Value.ref (s.heap.objs.size + 1) :: us) I2.kIn hl;refine wpAny_call (make_map (f := fA) I.kIn M.makes M.init (beq_iff_eq.mp M.fn) (codeAny_mono (F.run _ X.stack _ _ ⟨Value.ref (s.heap.objs.size + 1) :: us, []⟩ ((Value.ref (s.heap.objs.size + 1) :: us) ++ ds) _ _ (E σ) (hr.make C us [])
  (I2.env0.make C us []) b r2 hq) fun r s' hq' => ?_))
 cases r with
 | error e => exact hx pins _ _ e s' I2 hq'
 | ok fl =>
  cases fl with
  | ret u =>
   obtain ⟨v, H', I3, rv, ev, q3⟩ := I2.after hq';subst ev;exact ⟨rv, ⟨V.ref (s.heap.objs.size + 1), H', I3, rfl, q3⟩⟩
  | next => exact False.elim hq'
  | brk => exact False.elim hq'
  | cont => exact False.elim hq'
def wI (kp : Bool) (C : Str) (md : FD) (ds : List Vl) (d : Vl) (S2 : aJ) : Res Vl := made kp S2.length (md (.cel S2.length :: (ds ++ [d])) (S2 ++ [.ins C []]))
def JY (kp : Bool) (C : Str) (md : FD) (dd : PH.D) (ds : List Vl) (S1 : aJ) : Res Vl := made kp S1.length (md (.cel S1.length :: (ds ++ [.dat dd])) (S1 ++ [.ins C []]))
def yD (kp : Bool) (C : Str) (md : FD) (dd : PH.D) (as : FA) : FE := fun ρ S => (as ρ S).bind (JY kp C md dd)
theorem N3 {kp : Bool} (T : ClF X.K X.mg C) (F : OkMK X.prog X.w X.K X.mg X.base j C ps n kw dv (spF X.K md)) (hr : Room k X.A) (tk : Takes X W) (rd' : ∀ Bk H, Rep X.K Bk H dd dv) (ha : PA X (e :: es) (DD X.K W mas)) (hjk : j + 1 <= k := by decide) (hg : Gl X C := by rfl) (hdb : (C == ("__debug__" : Str)) = false := by decide)
  (he : starEach (e :: es) X.env = (false, eval e X.env) :: starEach es X.env := by rfl) (hpl : (backTo pos (starEach es X.env)).any (·.1) = false := by rfl) : PE X (.Call (.Name C p) (e :: es) [] pos) (cC X.K W (yD kp C md dd mas)) := by
 obtain ⟨fd, F, ⟨ds, hd, hb⟩, _⟩ := F;refine ⟨fun pins s σ H Q I h => ?_⟩
 refine wpAny_Call_Name_kw (ld_glob I hg T.glo ?_ hdb)
 have h' : DD X.K W mas σ H fun vs H1 => ∀ x dx, H1 x = none -> H1 dx = none -> dx ≠ x -> spF X.K md (.ref x :: (vs ++ [dv])) (upd (upd H1 dx (.own x)) x (.ins (He.ga X.K C) dx [])) (fun v H2 => v = .non /\ Q (.ref x) H2) (WE W σ) :=
  bP (k := fun ds _ S1 => JY kp C md dd ds S1) h fun B φ S ρ d v H1 I E r f => EB (md := md) (ds := d ++ [Vl.dat dd]) I (RepVs.snoc (d := .dat dd) r (rd' _ _)) f
 refine oD (h₀ := X.base) I.ok.mod.kin T.mak.kp (thn (ha.run pos pins s σ H _ I h') fun us s1 ⟨vs, H1, I1, r, q⟩ => ⟨I1.kIn, ?_⟩) he hpl
 exact Et (E := WE W) T.mak F (hr.mono hjk) hb hd (passAt tk σ) I1 r q
end
section
variable {P : Program} {w : World} {K : aA} {mg : Str -> Option Value} {base : Heap}
abbrev FnMK (K : aA) (C m q : Str) (st : Stmt) (kw : Str) (dv : L2.V) : Prop := ∃ fd, FunD K m q (defArgs st) (defBody st) (defScope st) [] [(kw, dv)] (He.ma K (He.ga K C) m) fd
theorem okMK {C q kw : Str} {dv : L2.V} {st : Stmt} {N ps : List Str} {k n : Nat} {md : FD} {mb : FS} (F : FnMK K C "__init__" q st kw dv) (S : FnScope N ps (defScope st)) (R : Runs md N.length ps.length mb) (hn : n + 1 = ps.length)
  (b0 : ∀ (D : Addr) (doc pm : Value) (an : Option Addr) (cdv ct : Value) (us ks : List Value), us.length = n -> ks.length = 1 -> KwChain D ([kw].zip ks) (bindArgs (cD "__init__" q (defArgs st) (defBody st) (defScope st) .none (.ref D) doc pm an cdv ct) ⟨us, []⟩) (ps.zip (us ++ ks)))
  (b1 : ∀ (kV doc pm : Value) (an : Option Addr) (cdv ct : Value) (us ws : List Value), us.length = n -> ws.length = 1 -> bindArgs (cD "__init__" q (defArgs st) (defBody st) (defScope st) .none kV doc pm an cdv ct) ⟨us, [kw].zip ws⟩ = pure (ps.zip (us ++ ws)))
  (hbody : ∀ (cdv : Value) (A : Around) (outer : List Env) (s : Shared) (H : Hp) (E : XK), Room k (A.deeper (envOfC q (defScope st) s.heap.objs.size (He.ma K (He.ga K C) "__init__") cdv)) -> PSs (cxOf (L2.CX P w) P w K mg base N q (defScope st) (He.ma K (He.ga K C) "__init__") cdv A outer s H E) (defBody st) (jL K (fun c x _ H => E c x H) mb)) : OkMK P w K mg base (k + 1) C ps n kw dv (spF K md) := by
 obtain ⟨fd, F⟩ := F;refine ⟨fd, FunD.ok F S (qK R) fun cdv A outer s H vs Q E hr hsp => ⟨_, hbody cdv A outer s H E hr, nI R hsp⟩, F.binds0 n (by simp) hn b0, ⟨fun s us ws _ l1 l2 => ?_, fun r1 r2 => r1.append r2⟩⟩
 obtain ⟨oc, od, dV, kV, doc, pm, an, cdv, ct, osl, rfl, lk, hcd, hD, hK⟩ := F.ex;rcases hD with ⟨_, rfl⟩ | ⟨e, _⟩
 ·exact .of_eq (b1 kV doc pm an cdv ct us ws l1 l2)
 ·exact absurd rfl e
abbrev OI (K : aA) (C m q : Str) (st : Stmt) : Prop := ∃ fd, FunD K m q (defArgs st) (defBody st) (defScope st) [] [] (MM K C m) fd
theorem okP {C m q : Str} {st : Stmt} {N : List Str} {k : Nat} {md : FD} {mb : FS} (F : OI K C m q st) (g : PropOf K (He.ga K C) m (He.ma K (He.ga K C) m) (MM K C m)) (S : FnScope N ["self"] (defScope st)) (R : Runs md N.length 1 mb)
  (bnd : ∀ (kV doc pm : Value) (an : Option Addr) (cdv ct : Value) (us : List Value), us.length = 1 -> bindArgs (cD m q (defArgs st) (defBody st) (defScope st) .none kV doc pm an cdv ct) ⟨us, []⟩ = pure ((["self"] : List Str).zip us))
  (hbody : ∀ (cdv : Value) (A : Around) (outer : List Env) (s : Shared) (H : Hp) (E : XK), Room k (A.deeper (envOfC q (defScope st) s.heap.objs.size (MM K C m) cdv)) -> PSs (cxOf (L2.CX P w) P w K mg base N q (defScope st) (MM K C m) cdv A outer s H E) (defBody st) (jL K (fun c x _ H => E c x H) mb)) : OkPr P w K mg base (k + 1) C m (spF K md) := by
 obtain ⟨fd, F⟩ := F;exact ⟨_, _, fd, g, FunD.ok F S (qK R) fun cdv A outer s H vs Q E hr hsp => ⟨_, hbody cdv A outer s H E hr, nI R hsp⟩, F.bindsN bnd⟩
end
inductive XH where
 | own (y : Str) | ty (T : String)
def xhB (c : Str) : XH -> Bool
 | .own y => decide (c = y)
 | .ty _ => true
def hV (K : aA) : XH -> V
 | .own y => .ref (He.ga K y)
 | .ty T => .ty T
end PH
namespace PH
open PySem PySem.Spec PyProof PyProof.Rows L2
theorem SaysG.def_ {gn : List He5.DefA} {K : aA} (c : SaysG gn K) (i : Nat) {d : He5.DefA} (h : gn[i]? = some d := by rfl) : ∃ fd, FunD K d.name d.qual d.params d.body d.scope (d.dvs K) (d.kws K) (d.at_ K) fd := by
 obtain ⟨c2, e⟩ := c;have e2 : (gn.map fun d => He5.fnA K (d.at_ K))[i]? = (gn.map He5.DefA.val)[i]? := by rw [e]
 rw [bG, bG, h] at e2;exact He5.DefA.funD (Option.some.inj e2) (bD.mp c2 d (aZ h))
theorem J6 {K : aA} {C f : Str} (h : Nd K C f = true) : PropOf K (He.ga K C) f (He.ma K (He.ga K C) f) (MM K C f) := by
 obtain ⟨h1, h⟩ := He.ba h;obtain ⟨h2, h⟩ := He.ba h;obtain ⟨h3, h4⟩ := He.ba h;refine ⟨of_decide_eq_true h1, of_decide_eq_true h2, of_decide_eq_true h3, ?_⟩
 unfold MM;split at h4
 ·rename_i g r q
  rw [q];exact ⟨r, rfl⟩
 ·cases h4
end PH
namespace PH
open PySem PySem.Spec PyProof.Rows L2
structure Lam1 (N : List Str) (sc scope : Scope) (p : Str) : Prop where
 kind : scope.kind = .function
 co : scope.isCoroutine = false
 gen : scope.isGenerator = false
 par : scope.names.lookup p = some .local
 one : ∀ y ∈ scope.names, y.2 = .local -> y.1 = p
 noc : ∀ y ∈ scope.names, y.2 ≠ .cell
 out : p ∉ N
 free : ∀ y ∈ scope.names, y.2 = .free -> sc.names.lookup y.1 = some .cell \/ sc.names.lookup y.1 = some .free
def Nu (N : List Str) (sc scope : Scope) (p : Str) : Bool :=
 decide (scope.kind = .function) && (!scope.isCoroutine && (!scope.isGenerator && (decide (scope.names.lookup p = some .local) && (decide (p ∉ N) && scope.names.all fun y =>
  (!decide (y.2 = .local) || decide (y.1 = p)) && (!decide (y.2 = .cell) && (!decide (y.2 = .free) || (decide (sc.names.lookup y.1 = some .cell) || decide (sc.names.lookup y.1 = some .free))))))))
theorem Cd {N : List Str} {sc scope : Scope} {p : Str} (h : Nu N sc scope p = true) : Lam1 N sc scope p := by
 unfold Nu at h;obtain ⟨h1, h⟩ := He.ba h;obtain ⟨h2, h⟩ := He.ba h;obtain ⟨h3, h⟩ := He.ba h;obtain ⟨h4, h⟩ := He.ba h;obtain ⟨h5, h⟩ := He.ba h;have hy : ∀ y ∈ scope.names, _ := fun y m => bD.mp h y m
 simp only [bV, Bool.or_eq_true, Bool.not_eq_true', decide_eq_true_eq, decide_eq_false_iff_not] at hy h1 h2 h3 h4 h5;exact ⟨h1, h2, h3, h4, fun y m e => ((hy y m).1).elim (fun z => absurd e z) id, fun y m => (hy y m).2.1, h5, fun y m e => ((hy y m).2.2).elim (fun z => absurd e z) id⟩
def Bh (X : Cx) (A : Around) (outer : List Env) (s : Shared) (H : Hp) (E : XK) (scope : Scope) (p : Str) (f c' : Addr) : Cx := { LamX.lamCx X A outer s H E scope f c' with N := X.N ++ [p] }
theorem xU {X : Cx} {A : Around} {outer : List Env} {s : Shared} {H : Hp} {E : XK} {scope : Scope} {p : Str} {f c' : Addr} : Takes (Bh X A outer s H E scope p f c') (fun c x _ H => E c x H) := takes_of (X := Bh X A outer s H E scope p f c') (E := E) rfl rfl rfl rfl
section
variable {X : Cx} {pins : List (Addr × Obj)} {σ : L2.St} {H HZ : Hp} {s s1 : Shared}
theorem Hb {A : Around} {outer : List Env} {E : XK} {scope : Scope} {p : Str} {f c' : Addr} {h₁ : Heap} {tk : Nat} {v : V} {u : Value} (I : Inv X pins σ H s) (L : Lam1 X.N X.env.scope scope p) (e0 : Env0 X.prog X.w X.K X.mg X.base A outer s1 HZ) (hd : A.handled = none)
  (un : Un (frs X.stack) [] H HZ s.heap s1.heap) (hns : h₁.Ns s1.heap.objs.size fun y => ([(p, u)] : List (Str × Value)).reverse.lookup y) (kp : ∀ b o, s1.heap.get? b = some o -> h₁.get? b = some o) (rv : RelV v u) :
  Inv (Bh X A outer s1 HZ E scope p f c') [] (σ ++ [some v]) HZ { s1 with heap := h₁, toks := tk } := by
 have hin : ∀ y ∈ scope.names, y.2 = .free -> ∃ c, X.env.cells.lookup y.1 = some c := fun y hy e => by
  rcases L.free y hy e with k | k
  ·exact I.ok.has _ (.inl k)
  ·exact I.ok.has _ (.inr k)
 have back : ∀ {y c}, (cloFrom X.env.cells scope.names []).lookup y = some c -> X.env.cells.lookup y = some c := fun {y c} e => NdefX.clo_cm hin e
 have fwd : ∀ {y}, scope.names.lookup y = some .free -> ∃ c, (cloFrom X.env.cells scope.names []).lookup y = some c := fun {y} hl => mem_lookup (cloFrom_has (cells := X.env.cells) (acc := []) (PySem.mem_of_lookup hl))
 have cl : ∀ {c : Addr} {o : Option Value}, H c = none -> s.heap.IsCell c o -> h₁.IsCell c o := fun {c o} n ⟨ob, ho, hd⟩ => by
  obtain ⟨sl, q⟩ := un.any ho n (by simp)
  exact ⟨_, kp _ _ q, hd⟩
 have nil_ : ∀ b : Addr, b ∉ (Bh X A outer s1 HZ E scope p f c').ex := fun b z => absurd (show b ∈ ([] : List Addr) from z) (by simp)
 have fixed : ∀ {y k}, scope.names.lookup y = some k -> (y, k) ∈ scope.names := fun {y k} h => PySem.mem_of_lookup h
 exact {
  ok := {
   mod := e0.mod
   kind := L.kind
   glob := rfl
   blt := rfl
   above := bX _
   inj := fun y z c e1 e2 => I.ok.inj y z c (back e1) (back e2)
   has := fun y hy => by
    have hy : scope.names.lookup y = some .cell \/ scope.names.lookup y = some .free := hy;rcases hy with hy | hy
    ·exact absurd rfl (L.noc _ (fixed hy))
    ·exact fwd hy
   cab := fun y c z _ => by
    have z : false = true := z;cases z
   hd := fun _ => hd
   frames := Around.frames_deeper e0.frames
   stk := .inr ⟨rfl, rfl⟩
   exf := fun b z => absurd z (nil_ b)
   bs := e0.bs
   bsz := e0.bsz
   noex := fun b _ _ => nil_ b
   exfs := fun b z => absurd z (nil_ b)
   funs := e0.funs
   frf := e0.frf }
  os := rfl
  bare := e0.bare
  base := Un.kept kp
  loc := ⟨_, hns, fun i y w e1 e2 e3 => by
   have e1 : (X.N ++ [p])[i]? = some y := e1;have e3 : Vis scope y := e3;have hl := I.len
   by_cases hi : i < X.N.length
   ·rw [aK hi] at e1
    rw [aK (by omega)] at e2
    rcases e3 with k | k | k
    ·exact absurd (L.one _ (fixed k) rfl ▸ aZ e1) L.out
    ·exact absurd rfl (L.noc _ (fixed k))
    ·obtain ⟨m, hn, hl⟩ := I.loc
     obtain ⟨w', r, q⟩ := hl i y w e1 e2 ((L.free _ (fixed k) rfl).elim (fun k => .inr (.inl k)) fun k => .inr (.inr k))
     obtain ⟨c2, h2⟩ := fwd k;refine ⟨w', r, .inr ⟨.inr k, c2, h2, ?_⟩⟩
     rcases q with ⟨k', _⟩ | ⟨_, c3, e', z⟩
     ·have k' : X.env.scope.names.lookup y = some .local := k'
      rcases L.free _ (fixed k) rfl with k2 | k2 <;> rw [show X.env.scope.names.lookup y = _ from k2] at k' <;> cases k'
     ·rw [back h2] at e'
      cases e';exact cl (I.freeC y _ (back h2)) z
   ·rw [aW (by omega)] at e1
    rw [aW (by omega)] at e2
    have h0 : i - X.N.length = 0 := by
     cases q : i - X.N.length with
     | zero => rfl
     | succ n => rw [q] at e1; simp at e1
    rw [h0] at e1;rw [show i - σ.length = 0 by omega] at e2
    simp at e1 e2;subst e1;subst e2;exact ⟨u, rv, .inl ⟨L.par, by simp⟩⟩⟩
  cell := fun y c e => by
   obtain ⟨w', z⟩ := I.cell y c (back e);exact ⟨w', cl (I.freeC y c (back e)) z⟩
  free := e0.hok.fresh (bX _)
  freeC := fun y c e => by
   obtain ⟨v, o, ho, hd⟩ := I.cell y c (back e);exact un.free c o ho (I.freeC y c (back e)) (by simp)
  pin := fun q hq => absurd (show q ∈ ([] : List (Addr × Obj)) ++ [] from hq) (by simp)
  hok := e0.hok.kept kp
  len := by
   show (σ ++ [some v]).length = (X.N ++ [p]).length
   rw [cA, cA, I.len];rfl }
end
section
variable {X : Cx} {pins : List (Addr × Obj)} {σ : L2.St} {H HZ : Hp} {s s1 : Shared}
abbrev Am (X : Cx) (s : Shared) (H : Hp) (Eg : XK) (Ng : List Str) (qg : Str) (sg : Scope) (g : Addr) (cdg : Value) : Cx := cxOf (L2.CX X.prog X.w) X.prog X.w X.K X.mg X.base Ng qg sg g cdg X.A X.stack s H Eg
theorem HM {Eg : XK} {Ng : List Str} {qg : Str} {sg : Scope} {g f c' x : Addr} {cdg pm ctv : Value} {params : Arguments} {body : Expr} {scope : Scope} {p d1 d2 : Str} {k : Nat} {pn : List (Addr × Obj)} {xe : Value -> Shared -> Prop} {W : WX} {tb : XK -> TE} {p1 p2 p3 : Pos}
  (I : Inv X pins σ H s) (L : Lam1 X.N X.env.scope scope p) (hf : s.heap.get? f = some (rY "<lambda>" (X.env.qual ++ "<lambda>") params body scope (cloFrom X.env.cells scope.names []) pm c' ctv)) (hfn : H f = none) (hfr : f ∉ frs X.stack)
  (hbind : ∀ u, bindArgs (PySem.W.kla_fn "<lambda>" (X.env.qual ++ "<lambda>") params body scope (cloFrom X.env.cells scope.names []) pm (.ref c') ctv) ⟨[u], []⟩ = pure [(p, u)])
  (tk : Takes ((Am X s H Eg Ng qg sg g cdg).tr pn xe) W) (hr : Room (k + 1) (X.A.deeper (envOfC qg sg s.heap.objs.size g cdg)))
  (hbody : ∀ (A : Around) (outer : List Env) (s : Shared) (H : Hp) (E : XK), Room k (A.deeper (LamX.lamEnv X scope s.heap.objs.size f c')) -> PE (Bh X A outer s H E scope p f c') body (tb E))
  (h1 : Ng[0]? = some d1) (h2 : Ng[1]? = some d2) (v1 : Vis sg d1) (v2 : Vis sg d2) (e1 : (d1 == ("__debug__" : Str)) = false := by decide) (e2 : (d1 == ("__classdict__" : Str)) = false := by decide) (e3 : (d2 == ("__debug__" : Str)) = false := by decide) (e4 : (d2 == ("__classdict__" : Str)) = false := by decide) :
  PE ((Am X s H Eg Ng qg sg g cdg).tr pn xe) (.Call (.Name d2 p1) [.Name d1 p3] [] p2)
   (fun σZ HZ Q => σZ[1]? = some (some (.ref f)) /\ σZ[0]? = some (some (.ref x)) /\ HZ c' = some (LamX.CodeO c' (X.env.qual ++ "<lambda>")) /\ tb (WE W σZ) (σ ++ [some (.ref x)]) HZ Q) := by
 refine ⟨fun pinsZ sZ σZ HZ Q IZ ⟨hs, hx, hc, ht⟩ => ?_⟩
 refine wpAny_Call_Name_kw (thn ((pe_var (pos := p1) (i := 1) h2 v2 e3 e4).run pinsZ sZ σZ HZ (fun v H1 => v = .ref f /\ H1 = HZ) IZ ⟨.ref f, hs, rfl, rfl⟩) fun u s1 hu => ?_)
 obtain ⟨_, H1, I1, r1, rfl, eH⟩ := hu;subst eH;obtain rfl : u = Value.ref f := r1;have still : ∀ {s2 : Shared}, Inv ((Am X s H Eg Ng qg sg g cdg).tr pn xe) pinsZ σZ H1 s2 -> s2.heap.get? f = some (rY "<lambda>" (X.env.qual ++ "<lambda>") params body scope (cloFrom X.env.cells scope.names []) pm c' ctv) :=
  fun J => J.base.keep f _ hf hfn hfr (fun z => nomatch (show f ∈ ([] : List Addr) from z))
 have pa : PA ((Am X s H Eg Ng qg sg g cdg).tr pn xe) [.Name d1 p3] _ := pa_cons (pe_var (pos := p3) (i := 0) h1 v1 e1 e2) pa_nil;refine PySem.W.callWith_F (first := []) ⟨_, _, _, _, still I1⟩ (thn (pa.run p2 pinsZ s1 σZ H1 (fun vs H2 => vs = [.ref x] /\ H2 = H1) I1 ⟨.ref x, hx, rfl, rfl⟩) fun us s2 hu => ?_)
 obtain ⟨_, H2, I2, r2, rfl, eH⟩ := hu;subst eH;obtain ⟨w, rfl, rw_⟩ : ∃ w, us = [w] /\ RelV (.ref x) w := by
  cases r2 with
  | cons a b => cases b; exact ⟨_, rfl, a⟩
 refine ⟨⟨_, _, _, _, still I2⟩, ?_⟩
 show wpAny _ _ (call (.ref f) [w]) _ _ _
 obtain ⟨⟨oc, vs, t, hoc, hdc, hvc⟩, _, _⟩ := I2.hok c' _ hc;have un : Un (frs X.stack) [] H H2 s.heap s2.heap := I2.base;have hx := passAt tk σZ;refine wpAny_call (codeAny_mono (R := CR (L2.CX X.prog X.w) (envOfC qg sg s.heap.objs.size g cdg :: X.stack) X.prog X.w H2 s2 Q (WE W σZ)) (PySem.W.kla_callFunE hr.depth (still I2) rfl L.co L.gen rfl ⟨c', oc, vs, t, rfl, hoc, hdc, hvc⟩ ?_) fun r s' hq => ?_)
 ·rw [hbind]
  refine wpAny_pure (wpAny_newFunctionEnv (fun y hy => L.noc y hy) (fun y hy => ?_) (fun h₁ hns hsb => ⟨I2.nolimit.fresh _ hsb, ?_⟩) L.kind)
  ·rw [hE.mp hy]; exact L.par
  ·have kp : ∀ b o, s2.heap.get? b = some o -> h₁.get? b = some o := fun b o e => hsb.extBut b o (Gj (Heap.lt_size e)) (Heap.get?_push_of_some _ e)
   have J := Hb (E := WE W σZ) (outer := envOfC qg sg s.heap.objs.size g cdg :: X.stack) (f := f) (c' := c') (tk := s2.toks + ([(p, w)] : List (Str × Value)).length) I L I2.env0 hr.hd un hns kp rw_;refine PySem.W.kla_codeExpr (wpAny_mono ((hbody _ _ s2 H2 _ (hr.deeper _)).run [] _ _ H2 Q J ht) (fun v s' hq => ?_) fun e s' hq => hq)
   obtain ⟨w', H', J', rv, q⟩ := hq;exact ⟨w', H', J'.os, J'.bare, J'.base, J'.hok, rv, q⟩
 ·cases r with
  | error e => exact hx pinsZ H2 s2 e s' I2 hq
  | ok fl =>
   cases fl with
   | ret u => exact I2.after hq
   | next => exact False.elim hq
   | brk => exact False.elim hq
   | cont => exact False.elim hq
end
section
variable {X : Cx} {pins : List (Addr × Obj)} {σ : L2.St} {H : Hp} {s : Shared}
theorem Kh {c : Addr} {q : Str} (ps : Array Value) : LamX.CodeO c q ≠ .tbl ps := LamX.codeO_ne ps
theorem JR {c T : Addr} {q : Str} {params : Arguments} {body : Expr} {scope : Scope} {pos : Pos} {Er Qr : Value -> Shared -> Prop} (I : Inv X pins σ H s) (TB : LamX.TabB X.base X.mg c T) (hc0 : X.env.code = .ref c) (hq : q = X.env.qual ++ "<lambda>")
  (hT : LamX.TabS H T q) (hd0 : defaultsOf params X.env = ([], [])) (hin : ∀ y ∈ scope.names, y.2 = .free -> ∃ c, X.env.cells.lookup y.1 = some c)
  (go : ∀ (f c' : Addr) (pm ctv : Value) (H1 : Hp) (s' : Shared), Inv X pins σ H1 s' -> (∀ b o, H b = some o -> b ≠ T -> H1 b = some o) -> LamX.TabS H1 T q ->
   s'.heap.get? f = some (rY "<lambda>" q params body scope (cloFrom X.env.cells scope.names []) pm c' ctv) -> H1 f = none -> f ∉ frs X.stack -> H1 c' = some (LamX.CodeO c' q) -> Qr (.ref f) s') :
  wpAny (model X.prog X.w) X.A (eval (.Lambda params body scope pos) X.env) Qr Er s := by
 subst hq;obtain ⟨qs, atT, tri, look⟩ := hT;have atT' : s.heap.get? T = some { cls := .none, data := .fields qs } := I.hok T _ atT;have blt : s.heap.BuiltinsAt X.mg T := TB.bm.keeps I.bk;have nofs : ∀ f, s.heap.objs.size <= f -> f ∉ frs X.stack := fun f hf z => (bN.mp (I.stkSub _ z)).elim (fun e => Nat.lt_irrefl _ (Nat.lt_of_lt_of_le (e ▸ I.lt) hf)) fun e => I.nofs hf e
 refine PySem.W.kla_eval hd0 ?_
 cases known : codeAmong pos qs.toList with
 | some cv =>
  obtain ⟨c', rfl, hco⟩ := look pos cv known;refine PySem.W.kla_makeFunctionHit (mg := X.mg) (c := c) (P := T) (ps := qs) (closure_ok hin) I.ok.glob (I.mod.glob.keeps I.bk) hc0 (TB.code.keeps I.bk) atT' tri known blt fun ctv h' tk up big => ?_
  refine go h'.objs.size c' ((X.mg "__name__").getD .none) ctv H _ ?_ (fun b o e _ => e) ⟨qs, atT, tri, look⟩ (Heap.get?_push_size _ rfl) (I.hok.fresh big) (nofs _ big) hco
  exact I.kept fun b o e => Heap.get?_push_of_some _ (up b o e)
 | none =>
  refine PySem.W.kla_makeFunction (mg := X.mg) (c := c) (P := T) (ps := qs) (closure_ok hin) I.ok.glob (I.mod.glob.keeps I.bk) hc0 (TB.code.keeps I.bk) atT' tri known TB.gP blt fun c' ctv h' tk up ge lt rec_ tab => ?_
  obtain ⟨c2, oc, vs, t, e2, hoc, hd, hv⟩ := rec_;cases e2;have big : s.heap.objs.size <= h'.objs.size := by omega
  have nC : H c' = none := I.hok.fresh ge;have nT : c' ≠ T := fun z => by rw [z, atT] at nC; cases nC
  have hl : (qs ++ #[rawInt pos.line, rawInt pos.col, .ref c']).toList = qs.toList ++ [rawInt pos.line, rawInt pos.col, .ref c'] := by simp
  have J := LamX.inv_table (q := X.env.qual ++ "<lambda>") (t' := tk) (more := #[rawInt pos.line, rawInt pos.col, .ref c']) (h' := h'.push (rY "<lambda>" (X.env.qual ++ "<lambda>") params body scope (cloFrom X.env.cells scope.names []) ((X.mg "__name__").getD .none) c' ctv)) I atT
   (fun b o hb e => Heap.get?_push_of_some _ (up b o hb e)) (Heap.get?_push_of_some _ tab) ge ⟨oc, vs, t, Heap.get?_push_of_some _ hoc, hd, hv⟩
  have stay : ∀ b o, H b = some o -> b ≠ T -> upd (upd H T (.tbl (qs ++ #[rawInt pos.line, rawInt pos.col, .ref c']))) c' (LamX.CodeO c' (X.env.qual ++ "<lambda>")) b = some o := fun b o e n => by
   rw [upd_ne (ne_of_none e nC), upd_ne n];exact e
  refine go h'.objs.size c' ((X.mg "__name__").getD .none) ctv _ _ J stay ⟨_, (upd_ne (Ne.symm nT)).trans upd_same, by rw [hl]; exact PySem.TriplesOk_snoc _ _ _ _ tri, fun p' cv hcv => ?_⟩ (Heap.get?_push_size _ rfl) ?_ (nofs _ big) upd_same
  ·rw [hl] at hcv
   rcases LamX.among_app _ tri hcv with z | z
   ·obtain ⟨c0, e1, e2⟩ := look p' cv z
    exact ⟨c0, e1, stay _ _ e2 fun z => by rw [z, atT] at e2; exact Kh _ (Option.some.inj e2).symm⟩
   ·exact ⟨c', z, upd_same⟩
  ·have n1 : h'.objs.size ≠ c' := Nat.ne_of_gt lt
   have n2 : h'.objs.size ≠ T := Nat.ne_of_gt (Nat.lt_of_lt_of_le (Heap.lt_size atT') big);exact (upd_ne n1).trans ((upd_ne n2).trans (I.hok.fresh big))
theorem Gv {K : aA} {B : Addr -> Prop} {φ : List Addr} {S : aJ} {H1 : Hp} {n : Nat} {d q : Str} {a : Addr} (I : GInv K B φ S H) (hn : S[n]? = some (.tbl d q)) (hφ : φ[n]? = some a) (st : ∀ b o, H b = some o -> b ≠ a -> H1 b = some o) (t : LamX.TabS H1 a q) : GInv K B φ S H1 /\ Ext φ S H φ S H1 := by
 have al : iV φ S a := ⟨n, _, hn, by simp, hφ⟩
 have ex : Ext φ S H φ S H1 := ⟨fun b o h nb => ⟨st b o h fun z => nb (z ▸ al), nb⟩, fun _ _ h => h⟩
 refine ⟨⟨I.len, fun m c b h1 h2 => ?_, I.inj, I.blk, fun b hb => ?_⟩, ex⟩
 ·have ok := I.ok m c b h1 h2
  by_cases e : b = a
  ·subst e
   cases c with
   | dead => trivial
   | tbl d' q' =>
    have e : m = n := I.inj m n _ _ b h1 (by simp) hn (by simp) h2 hφ
    subst e;rw [h1] at hn;cases hn;exact ⟨ok.1, t⟩
   | _ =>
    have e : m = n := I.inj m n _ _ b h1 (by simp) hn (by simp) h2 hφ
    subst e;rw [h1] at hn;cases hn
  ·exact FZ ex I (fun _ o h => st b o h e) ok
 ·obtain ⟨u, e⟩ := I.btr b hb
  exact ⟨u, st b u e fun z => I.blk a al (z ▸ hb)⟩
end
section
variable {K : aA} {W : WX} {B : Addr -> Prop} {φ φ' : List Addr} {S S' : aJ} {H H' : Hp} {σ : L2.St} {D : Ends} {C f : Str}
theorem RepE.snoc {ρ : Ev} {d : Vl} {v : V} (h : RepE K B φ S H ρ σ) (r : RepV K B φ S H d v) : RepE K B φ S H (ρ ++ [some d]) (σ ++ [some v]) := by
 refine ⟨by simp [h.1], fun i e q => ?_⟩
 by_cases hi : i < ρ.length
 ·rw [aK hi] at q
  rw [aK (by rw [<- h.1]; exact hi)]
  exact h.2 i e q
 ·rw [aW (by omega)] at q
  rw [aW (by rw [<- h.1]; omega), <- h.1]
  cases k : i - ρ.length with
  | zero => rw [k] at q; simp at q; subst q; exact ⟨v, rfl, r⟩
  | succ n => rw [k] at q; simp at q
theorem RepX.ext {e : Er} {c : Value} {x : Option Addr} (ex : Ext φ S H φ' S' H') (I : GInv K B φ S H) (r : RepX K B φ S H e c x) : RepX K B φ' S' H' e c x := by
 refine r.imp (fun r => ⟨r.1, ?_⟩) id
 obtain ⟨h1, h2⟩ := r.2;refine ⟨h1, h2.imp id fun h => ?_⟩
 obtain ⟨d, vs, e1, e2, l⟩ := h;exact ⟨d, vs, e1, (ex.old _ _ e2 (I.nxd e2)).1, ex.repL I l⟩
theorem Fy {n : Nat} {d : Vl} {v : V} {a : Addr} {S3 : aJ} (I : GInv K B φ S H) (ha : φ[n]? = some a) (r : RepV K B φ S H d v) (q : tY S C f (.cel n) d = some S3) :
  ∃ dx vs, H a = some (.ins (He.ga K C) dx vs) /\ vs.length < 1000 /\ GInv K B φ S3 (upd H a (.ins (He.ga K C) dx (putF f v vs))) /\ Ext φ S H φ S3 (upd H a (.ins (He.ga K C) dx (putF f v vs))) := by
 unfold tY at q;dsimp only at q;split at q
 ·rename_i C' fs q1
  split at q
  ·rename_i hc
   obtain ⟨e, hl⟩ := hc;subst e;cases q;obtain ⟨dx, vs, h4, h5⟩ := I.ok n _ a q1 ha;have X3 := Ext.put (H := H) (o := .ins (He.ga K C') dx (putF f v vs)) (x := .ins C' (gG f d fs)) q1 (by simp) ha (by simp)
   exact ⟨dx, vs, h4, by rw [h5.len]; exact hl, I.put q1 (by simp) ha (by simp) ⟨dx, _, upd_same, (h5.put r).ext X3 I⟩, X3⟩
  ·cases q
 ·cases q
def HL (C f g : Str) (n : Nat) (x y : Vl) (S : aJ) : Option aJ := match tY S C f (.cel n) x with
 | some S1 => tY S1 C g (.cel n) y
 | none => none
theorem DK {f g : Str} {n : Nat} {x y : Vl} {v w : V} {a : Addr} {S3 : aJ} (I : GInv K B φ S H) (ha : φ[n]? = some a) (r1 : RepV K B φ S H x v) (r2 : RepV K B φ S H y w) (q : HL C f g n x y S = some S3)
  (h0 : σ[0]? = some (some (.ref a))) (h2 : σ[2]? = some (some v)) (h3 : σ[3]? = some (some w)) (go : ∀ H3, GInv K B φ S3 H3 -> Ext φ S H φ S3 H3 -> D.nx σ H3) :
  tSeq (xD (He.ga K C) f (tVar 0) (tVar 2)) (xD (He.ga K C) g (tVar 0) (tVar 3)) D σ H := by
 unfold HL at q;cases q1 : tY S C f (.cel n) x with
 | none => rw [q1] at q; cases q
 | some S1 =>
  rw [q1] at q;obtain ⟨dx, vs, e1, l1, I1, X1⟩ := Fy I ha r1 q1;obtain ⟨dx2, vs2, e2, l2, I2, X2⟩ := Fy I1 ha (r2.ext X1 I) q;exact ⟨v, h2, .ref a, h0, dx, vs, e1, l1, w, h3, .ref a, h0, dx2, vs2, e2, l2, go _ I2 (X1.trans X2)⟩
def mN (S : aJ) (n0 : Nat) (d q : Str) : Bool := match S[n0]? with
 | some (.tbl d' q') => decide (d' = d) && decide (q' = q)
 | _ => false
theorem Jg {n0 : Nat} {d q : Str} (h : mN S n0 d q = true) : S[n0]? = some (.tbl d q) := by
 unfold mN at h;split at h
 ·rename_i d' q' e
  obtain ⟨h1, h2⟩ := He.ba h;rw [e, of_decide_eq_true h1, of_decide_eq_true h2]
 ·cases h
abbrev kN : List Str := ["self", "deed", "place", "heading"]
abbrev kP : List Str := ["self", "deed"]
def B0 (C : Str) (n : Nat) (p h : Vl) : Res Vl -> Res Vl
 | .ok v S2 => (match HL C "place" "heading" n p h S2 with
  | some S3 => .ok v S3
  | none => .stuck)
 | .err e S2 => (match HL C "place" "heading" n p h S2 with
  | some S3 => .err e S3
  | none => .stuck)
 | .stuck => .stuck
def uE (n0 : Nat) (C d q : Str) (o : FE) (mb : FE) : FE := fun ρ S => (o ρ S).bind fun x S1 => match x with
 | .cel n => if fR S1 C "kept" (.cel n) = true /\ mN S1 n0 d q = true then (match kR S1 C "place" (.cel n), kR S1 C "heading" (.cel n) with
   | some p, some h => B0 C n p h (mb (ρ ++ [some (.cel n)]) S1)
   | _, _ => .stuck) else .stuck
 | _ => .stuck
end
section
variable {Y : Cx}
theorem Ai {C : Addr} {x0 x2 x3 f g : Str} {d1 d2 d3 d4 e1 e2 e3 e4 : Pos} (c : Cls Y.K C) (nf : NoAttr Y.K C f) (ng : NoAttr Y.K C g) (h0 : Y.N[0]? = some x0) (h2 : Y.N[2]? = some x2) (h3 : Y.N[3]? = some x3) (v0 : Vis Y.env.scope x0) (v2 : Vis Y.env.scope x2) (v3 : Vis Y.env.scope x3)
  (k1 : (x0 == ("__debug__" : Str)) = false) (k2 : (x0 == ("__classdict__" : Str)) = false) (k3 : (x2 == ("__debug__" : Str)) = false) (k4 : (x2 == ("__classdict__" : Str)) = false) (k5 : (x3 == ("__debug__" : Str)) = false) (k6 : (x3 == ("__classdict__" : Str)) = false)
  (s1 : swapsWith (.Name x2 d3) (some (.Attribute (.Name x0 d1) f d2)) d4.line Y.env = pure false) (s2 : swapsWith (.Name x3 e3) (some (.Attribute (.Name x0 e1) g e2)) e4.line Y.env = pure false) :
  PSs Y [.Assign [.Attribute (.Name x0 d1) f d2] (.Name x2 d3) d4, .Assign [.Attribute (.Name x0 e1) g e2] (.Name x3 e3) e4] (tSeq (xD C f (tVar 0) (tVar 2)) (xD C g (tVar 0) (tVar 3))) :=
 pss_cons (Eo c nf (pe_var h0 v0 k1 k2) (pe_var h2 v2 k3 k4) s1) (pss_one (Eo c ng (pe_var h0 v0 k1 k2) (pe_var h3 v3 k5 k6) s2))
end
section
variable {X : Cx} {W : WX} {mo mb : FE} {C d q : Str} {n0 : Nat} {o body : Expr} {apos lpos pos : Pos}
theorem FX {st : Stmt} {qk p : Str} {params : Arguments} {scope : Scope} {j k : Nat} {pl : Sem Bool} {a1 a2 a3 a4 b1 b2 b3 b4 c1 c2 c3 c4 c5 d1 d2 d3 d4 e1 e2 e3 e4 : Pos} (F : B5 X.K C "kept" qk st) (mt : Meth X.K (He.ga X.K C) "kept" (He.ma X.K (He.ga X.K C) "kept"))
  (Sc : FnScope kN kP (defScope st))
  (bnd : ∀ (kV doc pm : Value) (an : Option Addr) (cdv ct : Value) (us : List Value), us.length = kP.length -> bindArgs (cD "kept" qk (defArgs st) (defBody st) (defScope st) .none kV doc pm an cdv ct) ⟨us, []⟩ = pure (kP.zip us))
  (hb : defBody st = [.Assign [.Name "place" a1] (.Attribute (.Name "self" a2) "place" a3) a4, .Assign [.Name "heading" b1] (.Attribute (.Name "self" b2) "heading" b3) b4,
   .Try [.Return (some (.Call (.Name "deed" c1) [.Name "self" c2] [] c3)) c4] [] [] [.Assign [.Attribute (.Name "self" d1) "place" d2] (.Name "place" d3) d4, .Assign [.Attribute (.Name "self" e1) "heading" e2] (.Name "heading" e3) e4] c5])
  (v0 : (defScope st).names.lookup ("self" : Str) = some .local) (v1 : (defScope st).names.lookup ("deed" : Str) = some .local) (v2 : (defScope st).names.lookup ("place" : Str) = some .local) (v3 : (defScope st).names.lookup ("heading" : Str) = some .local)
  (c : Cls X.K (He.ga X.K C)) (np : NoAttr X.K (He.ga X.K C) "place") (nh : NoAttr X.K (He.ga X.K C) "heading")
  (TB : LamX.TabB X.base X.mg (He.cT X.K (d, none)).1 (He.cT X.K (d, none)).2) (hc0 : X.env.code = .ref (He.cT X.K (d, none)).1) (hq : q = X.env.qual ++ "<lambda>") (hd0 : defaultsOf params X.env = ([], [])) (L : Lam1 X.N X.env.scope scope p)
  (hbind : ∀ (cl : List (Str × Addr)) (pm cd ctv u : Value), bindArgs (PySem.W.kla_fn "<lambda>" q params body scope cl pm cd ctv) ⟨[u], []⟩ = pure [(p, u)])
  (tk : Takes X W) (hr : Room k X.A) (ho : PE X o (cC X.K W mo))
  (hbody : ∀ (A : Around) (outer : List Env) (s : Shared) (H : Hp) (E : XK) (f c' : Addr), Room j (A.deeper (LamX.lamEnv X scope s.heap.objs.size f c')) -> PE (Bh X A outer s H E scope p f c') body (cC X.K (fun c x _ H => E c x H) mb))
  (hjk : j + 2 <= k := by decide)
  (hst : starEach [.Lambda params body scope lpos] X.env = (false, eval (.Lambda params body scope lpos) X.env) :: starEach [] X.env := by rfl)
  (ht : eval (.Call (.Attribute o "kept" apos) [.Lambda params body scope lpos] [] pos) X.env = eval o X.env >>= fun ov => standAt apos.atName >>= fun _ => holding [ov] (getMethod ov "kept" pl) >>= fun q => callWith pos q.1 q.2 (backTo pos (starEach [.Lambda params body scope lpos] X.env)) (backToKw pos (keywordEach [] X.env)) := by rfl) :
  PE X (.Call (.Attribute o "kept" apos) [.Lambda params body scope lpos] [] pos) (cC X.K W (uE n0 C d q mo mb)) := by
 refine ⟨fun pins s σ H Q I h => ?_⟩
 have h' : cC X.K W mo σ H fun v H1 => ∃ a dx fs, v = .ref a /\ H1 a = some (.ins (He.ga X.K C) dx fs) /\ fs.lookup ("kept" : Str) = none /\ ∃ B φ S ρ n pv hv, GInv X.K B φ S H1 /\ RepE X.K B φ S H1 ρ σ /\ φ[n]? = some a /\ S[n0]? = some (.tbl d q) /\
   kR S C "place" (.cel n) = some pv /\ kR S C "heading" (.cel n) = some hv /\ Fin X.K W σ (RepV X.K) B φ S H1 (B0 C n pv hv (mb (ρ ++ [some (.cel n)]) S)) Q :=
  bP (k := fun x ρ S1 => match x with
   | .cel n => if fR S1 C "kept" (.cel n) = true /\ mN S1 n0 d q = true then (match kR S1 C "place" (.cel n), kR S1 C "heading" (.cel n) with
    | some p, some h => B0 C n p h (mb (ρ ++ [some (.cel n)]) S1)
    | _, _ => .stuck) else .stuck
   | _ => .stuck) h fun B φ S ρ x v H1 G E r f => by
   cases x with
   | cel n =>
    dsimp only at f;split at f
    ·rename_i hi
     split at f
     ·rename_i pv hv e1 e2
      obtain ⟨a, dx, fs, rfl, h1, h2⟩ := qW G r hi.1;obtain ⟨a', e3, e4⟩ := r;cases e3;exact ⟨a, dx, fs, rfl, h1, h2, B, φ, S, ρ, n, pv, hv, G, E, e4, Jg hi.2, e1, e2, f⟩
     ·exact f.elim
    ·exact f.elim
   | _ => exact f.elim
 refine sD (pl := pl) (thn (ho.run pins s σ H _ I h') fun u s1 hh => ?_) ht
 obtain ⟨x, H1, I1, rx, a, dx, fs, rfl, ea, l, B, φ, S, ρ, n, pv, hv, G, E, hn, htb, hp, hh, fin⟩ := hh;obtain rfl : u = Value.ref a := rx;refine getmeth_ok I1 ea c mt l (oD (first := [.ref a]) (h₀ := X.base) I.ok.mod.kin mt.kp ?_ hst rfl)
 rw [hst];have hl0 : n0 < S.length := (aH.mp htb).1;obtain ⟨a0, h0⟩ : ∃ a0, φ[n0]? = some a0 := ⟨φ[n0]'(by rw [G.len]; exact hl0), by simp⟩
 obtain ⟨eT, hT⟩ := G.ok n0 _ a0 htb h0;subst eT;have hin : ∀ y ∈ scope.names, y.2 = .free -> ∃ c, X.env.cells.lookup y.1 = some c := fun y hy e => by
  rcases L.free y hy e with k | k
  ·exact I1.ok.has _ (.inl k)
  ·exact I1.ok.has _ (.inr k)
 show wpAny _ _ (spliced ((false, eval (.Lambda params body scope lpos) X.env) :: backTo pos (starEach [] X.env))) _ _ _
 refine Calls.spliced_cons (JR I1 TB hc0 hq hT hd0 hin fun f' c' pm ctv H2 s2 I2 stay T2 hf hfn hfr hco => ?_)
 refine Calls.spliced_nil ⟨I2.kIn, ?_⟩
 obtain ⟨G2, X2⟩ := Gv G htb h0 stay T2;have E2 := E.ext X2 G;obtain ⟨fd, F⟩ := F;have bn := F.bindsN bnd s2 [.ref a, .ref f'] I2.kIn rfl;obtain ⟨oc, od, dV, kV, doc, pm2, an, cdv, ct, osl, e, lk, hc⟩ := F.ex;subst e
 show wpAny _ _ (call (.ref (He.ma X.K (He.ga X.K C) "kept")) [.ref a, .ref f']) _ _ _
 have rn : RepV X.K B φ S H2 (.cel n) (.ref a) := ⟨a, rfl, hn⟩;obtain ⟨a1', dx1, fs1, w1, e1', g1, g2, rp⟩ := wN G2 rn hp;obtain ⟨a2', dx2, fs2, w2, e2', g3, g4, rh⟩ := wN G2 rn hh;cases e1';cases e2';refine wpAny_call (codeAny_mono (R := CR (L2.CX X.prog X.w) X.stack X.prog X.w H2 s2 Q (WE W σ)) (LamX.run_ofS (N := kN) (ps := kP) (us := [.ref a, .ref f']) (vs := [.ref a, .ref f']) (k := j + 1) lk hc.1 Sc (hr.mono hjk) I2.env0 bn (.cons rfl (.cons rfl .nil)) rfl fun hr' => ?_) fun r s' hq => ?_)
 ·rw [hb]
  have tkZ : Takes (Am X s2 H2 (WE W σ) kN qk (defScope st) (He.ma X.K (He.ga X.K C) "kept") cdv) (fun c x _ H => WE W σ c x H) := takes_of (X := Am X s2 H2 (WE W σ) kN qk (defScope st) (He.ma X.K (He.ga X.K C) "kept") cdv) (E := WE W σ) rfl rfl rfl rfl
  have nd : (Am X s2 H2 (WE W σ) kN qk (defScope st) (He.ma X.K (He.ga X.K C) "kept") cdv).N.Nodup := Sc.nd;refine ⟨_, pss_cons (ps_set (i := 2) nd rfl (.inl v2) (Kd c np (pe_var (i := 0) rfl (.inl v0)))) (pss_cons (ps_set (i := 3) nd rfl (.inl v3) (Kd c nh (pe_var (i := 0) rfl (.inl v0)))) (pss_one (ps_retFinX (te := fun W' σZ HZ Q' => σZ[1]? = some (some (.ref f')) /\ σZ[0]? = some (some (.ref a)) /\ HZ c' = some (LamX.CodeO c' (X.env.qual ++ "<lambda>")) /\ cC X.K (fun c x _ H => WE W' σZ c x H) mb (σ ++ [some (.ref a)]) HZ Q')
   (tf := tSeq (xD (He.ga X.K C) "place" (tVar 0) (tVar 2)) (xD (He.ga X.K C) "heading" (tVar 0) (tVar 3))) (tfs := tSeq (xD (He.ga X.K C) "place" (tVar 0) (tVar 2)) (xD (He.ga X.K C) "heading" (tVar 0) (tVar 3))) (Wout := fun c x _ H => WE W σ c x H) rfl rfl rfl tkZ (fun W' pn xe tk' _ => ?_)
   (Ai c np nh rfl rfl rfl (.inl v0) (.inl v2) (.inl v3) (by decide) (by decide) (by decide) (by decide) (by decide) (by decide) rfl rfl) (fun a pn => Ai c np nh rfl rfl rfl (.inl v0) (.inl v2) (.inl v3) (by decide) (by decide) (by decide) (by decide) (by decide) (by decide) rfl rfl)))), ?_⟩
  ·subst hq
   exact HM (X := X) (d1 := "self") (d2 := "deed") (tb := fun E => cC X.K (fun c x _ H => E c x H) mb) I2 L hf hfn hfr (fun u => hbind _ _ _ _ u) tk' hr' (fun A outer s H E hr3 => hbody A outer s H E f' c' hr3) rfl rfl (.inl v0) (.inl v1)
  ·refine ⟨.ref a, rfl, dx1, fs1, w1, g1, g2, .ref a, rfl, dx2, fs2, w2, g3, g4, rfl, rfl, hq ▸ hco, ?_⟩
   refine ⟨B, φ, S, ρ ++ [some (.cel n)], G2, E2.snoc rn, ?_⟩
   have fin2 := Fin.ext fin X2;cases r : mb (ρ ++ [some (.cel n)]) S with
   | stuck => rw [r] at fin2; exact fin2.elim
   | ok v S2 =>
    rw [r] at fin2;unfold B0 at fin2;dsimp only at fin2;split at fin2
    ·rename_i S3 put
     exact fun φ' v' H' G' X' r' => DK G' (X'.ids n a hn) (rp.ext X' G2) (rh.ext X' G2) put rfl rfl rfl fun H3 G3 X3 => fin2 φ' v' H3 G3 (X'.trans X3) (r'.ext X3 G')
    ·exact fin2.elim
   | err e S2 =>
    rw [r] at fin2;unfold B0 at fin2;dsimp only at fin2;split at fin2
    ·rename_i S3 put
     exact fun φ' c x H' G' X' r' => DK G' (X'.ids n a hn) (rp.ext X' G2) (rh.ext X' G2) put rfl rfl rfl fun H3 G3 X3 => fin2 φ' c x H3 G3 (X'.trans X3) (RepX.ext X3 G' r')
    ·exact fin2.elim
 ·cases r with
  | error e => exact passAt tk σ pins H2 s2 e s' I2 hq
  | ok fl =>
   cases fl with
   | ret u => exact I2.after hq
   | next => exact False.elim hq
   | brk => exact False.elim hq
   | cont => exact False.elim hq
end
section
variable {X : Cx} {W : WX} {a b o i : Expr} {ma mb mo mi : FE} {pos : Pos}
def Ar (x y : Vl) (S : aJ) : Res Vl := match x, y with
 | .dat (.int _), .dat (.int 0) => .err ⟨"ZeroDivisionError", [], []⟩ S
 | _, _ => .stuck
theorem N4 (tk : Takes X W) (ha : PE X a (cC X.K W ma)) (hb : PE X b (cC X.K W mb)) (hc : X.calm = true := by rfl) : PE X (.BinOp a .FloorDiv b pos) (cC X.K W (aS Ar ma mb)) := by
 refine ⟨fun pins s σ H Q I h => ?_⟩
 have h' : cC X.K W ma σ H fun x H1 => cC X.K W mb σ H1 fun y H2 => ∃ n, x = .int n /\ y = .int 0 /\ ∀ d, W (.type "ZeroDivisionError") d σ H2 :=
  bP (k := fun x ρ S1 => (mb ρ S1).bind fun y S2 => Ar x y S2) h fun B φ S ρ d v H1 I E r f => gY I E f fun φ2 S2 d2 v2 H2 I2 X2 E2 r2 f2 => by
   unfold Ar at f2;split at f2
   ·cases r
    cases r2;exact ⟨_, rfl, rfl, fun d => f2 φ2 _ d H2 I2 Ext.refl (.inr rfl)⟩
   ·exact f2.elim
 refine wpAny_BinOp (binT ha hb I h' fun v u s2 x y H2 I2 rx ry q => ?_)
 obtain ⟨n, rfl, rfl, w⟩ := q;obtain ⟨t, rfl⟩ := (show ∃ t, v = Value.int n t from rx)
 obtain ⟨t', rfl⟩ := (show ∃ t, u = Value.int 0 t from ry)
 exact floordiv_int_or (I2.ok.hd hc) (fun _ h' tk' e hx => takes_new (t' := tk') tk I2 hx w) (fun z => absurd rfl z) (fun z => absurd rfl z)
def yM (x y : Vl) (S : aJ) : Res Vl := match NH S x, y with
 | some ([], []), .dat (.int _) => .err ⟨"KeyError", [], []⟩ S
 | _, _ => .stuck
theorem N5 (hu : X.A.units + 64 < cLine) (tk : Takes X W) (ho : PE X o (cC X.K W mo)) (hi : PE X i (cC X.K W mi)) (hc : X.calm = true := by rfl) (hs : NoSl i := by intro _ _; rfl) : PE X (.Subscript o i pos) (cC X.K W (aS yM mo mi)) := cP (pe_dgetX hc (by omega) tk ho hi hs) fun σ H Q h =>
 bP (k := fun x ρ S1 => (mi ρ S1).bind fun y S2 => yM x y S2) h fun B φ S ρ d v H1 I E r f => gY I E f fun φ2 S2 d2 v2 H2 I2 X2 E2 r2 f2 => by
  unfold yM at f2;split at f2
  ·rename_i k q
   cases r2;obtain ⟨n, a, vs, rfl, h0, hφ, rfl, h1, l, hl, hz⟩ := NG I2 q (r.ext X2 I);exact ⟨a, none, rfl, by have := DGet.k (k := Sum.inl k) h1; exact this, fun v z => (by cases z), fun _ d => f2 φ2 _ d H2 I2 Ext.refl (.inr rfl)⟩
  ·exact f2.elim
end
def XMb (K : aA) (cs : List Str) : Prop := ∀ c ∈ cs, ∀ d ∈ cs, BA K (Ki K c) (Ki K d) = some (decide (c = d))
theorem LG {K : aA} {cs : List Str} (h : xmbB K cs = true) : XMb K cs := fun c hc d hd => of_decide_eq_true (bD.mp (bD.mp h c hc) d hd)
theorem RepX.cl {K : aA} {B : Addr -> Prop} {φ : List Addr} {S : aJ} {H : Hp} {e : Er} {c : Value} {x : Option Addr} (r : RepX K B φ S H e c x) : c = Ki K e.cls := by
 unfold Ki;rcases r with ⟨h, r⟩ | r
 ·rw [h]; exact r.1
 ·rw [r]
inductive XB where
 | c (v : V) (d : PH.D) | ne (n : Str) (p q : Int)
def xb1 (K : aA) (a : Addr) (cls : Value) (d : Option Addr) (C : Addr) (k : Nat) : XB -> TE
 | .c v _ => tC v
 | .ne n p q => tOp (NM K) (tC (.int p)) (tOp G1 (tC (.int q)) (tCB (c1 cInt) (tCons (tOp (cNe K) (tXf a cls d C n (yQ k)) (tC (.int 0))) tNil)))
def xbV (e : Er) : XB -> Option PH.D
 | .c _ d => some d
 | .ne n p q => match (e.ns.zip e.xs).lookup n with
  | some (.int z) => some (.int (p + q * (if (!decide (z = 0)) = true then 1 else 0)))
  | _ => none
def xbOk : XB -> Prop
 | .c v d => ∀ (K : aA) (Bk : Addr -> Prop) (H : Hp), Rep K Bk H d v
 | .ne _ _ _ => True
abbrev HB := Str × Option Nat × Nat × XB
def tU : List HB -> Er -> Ev -> aJ -> Out
 | [], e, ρ, S => .err e ρ S
 | (c, none, i, it) :: r, e, ρ, S => if e.cls = c then (match it with
   | .c _ d => .next (ρ.set i (some (.dat d))) S
   | _ => .stuck) else tU r e ρ S
 | (c, some k, i, it) :: r, e, ρ, S => if e.cls = c then (if k < ρ.length /\ LD c = none then (match xbV e it with
   | some d => .next (((ρ.set k none).set i (some (.dat d))).set k none) S
   | none => .stuck) else .stuck) else tU r e ρ S
def ML : List HB -> Prop
 | [] => True
 | (_, _, _, it) :: r => xbOk it /\ ML r
def JW (cs : List Str) (hs : List HB) (o : Out) : Out := match o with
 | .err e ρ' S' => if e.cls ∈ cs /\ ∀ h ∈ hs, h.1 ∈ cs then tU hs e ρ' S' else .stuck
 | o => o
def Df (cs : List Str) (m : FS) (hs : List HB) : FS := fun ρ S => JW cs hs (m ρ S)
theorem Cp {cs : List Str} {m : FS} {ρ : Ev} {S : aJ} {hs : List HB} : Df cs m hs ρ S = JW cs hs (m ρ S) := rfl
def hbR (K : aA) : HB -> Ee
 | (c, o, i, it) => (Ki K c, o, fun a cls d => IY i (xb1 K a cls d (He.ga K c) (o.getD 0) it))
def LC (K : aA) (hs : List HB) : List Ee := hs.map (hbR K)
section
variable {X : Cx} {W : WX} {e : Expr} {es : List Expr} {pos : Pos} {K : aA} {B : Addr -> Prop} {φ φ' : List Addr} {S S' : aJ} {H H' : Hp} {σ : L2.St} {m : FS} {D : Ends} {cs : List Str} {x : Str}
theorem OJ {er : Er} {cl : Value} {xd : Option Addr} {C : Str} {k : Nat} {a : Addr} (hC : er.cls = C) (hσ : sl σ k = some (.ref a)) (rx : Ge K B φ S H er cl xd) {it : XB} {d : PH.D} {Q : VK} (ok : xbOk it) (h : xbV er it = some d) (q : ∀ v, Rep K (lI B φ S) H d v -> Q v H) : xb1 K a cl xd (He.ga K C) k it σ H Q := by
 cases it with
 | c v d' => cases h; exact q v (ok _ _ _)
 | ne n p r =>
  unfold xbV at h;dsimp only at h;split at h
  ·rename_i z q0
   cases h
   show tXf a cl xd (He.ga K C) n (yQ k) σ H fun v H3 => cNe K v (.int 0) H3 fun b H4 => cInt b H4 fun y H5 => G1 (.int r) y H5 fun y H6 => NM K (.int p) y H6 Q
   refine rd_xf rx hC hσ q0 fun v rv => ?_
   cases rv;exact ⟨mulR (by split <;> decide) (by split <;> decide), q _ rfl⟩
  ·cases h
theorem uW {e : Er} {c : Value} {d : Option Addr} {Wout : WX} (M : XMb K cs) (he : e.cls ∈ cs) (rx : RepX K B φ S H e c d) (I : GInv K B φ S H) {ρ : Ev} (E : RepE K B φ S H ρ σ) : ∀ {hs : List HB}, ML hs -> (∀ h ∈ hs, h.1 ∈ cs) -> FinS K Wout D B φ S H (tU hs e ρ S) -> xT K Wout D (LC K hs) c d σ H
 | [], _, _, f => f φ σ c d H I Ext.refl E rx
 | (c', none, i, it) :: r, ok, hc, f => by
  unfold tU at f;have q := M e.cls he c' (hc _ (aY ..));refine ⟨decide (e.cls = c'), by rw [rx.cl]; exact q, fun h a na => ?_, fun h => ?_⟩
  ·rw [if_pos (of_decide_eq_true h)] at f
   cases it with
   | c v d' => exact f φ _ _ I Ext.refl (E.set (d := .dat d') (v := v) (ok.1 _ _ _) i)
   | ne _ _ _ => exact f.elim
  ·rw [if_neg (of_decide_eq_false h)] at f
   exact uW M he rx I E (hs := r) ok.2 (fun h hh => hc h (aM _ hh)) f
 | (c', some k, i, it) :: r, ok, hc, f => by
  unfold tU at f;have q := M e.cls he c' (hc _ (aY ..));refine ⟨decide (e.cls = c'), by rw [rx.cl]; exact q, fun h a na => ?_, fun h => ?_⟩
  ·have ecl := of_decide_eq_true h
   rw [if_pos ecl] at f;split at f
   ·rename_i hk
    split at f
    ·rename_i dd qd
     have hl : k < σ.length := by rw [<- E.1]; exact hk.1
     refine OJ (k := k) (σ := σ.set k (some (.ref a))) ecl (NV (by rw [aP, if_pos rfl, if_pos hl])) (rx.reg (by rw [ecl]; exact hk.2)) ok.1 qd fun v rv => ?_
     exact f φ _ _ I Ext.refl (((E.wipe1 k).set (d := .dat dd) (v := v) rv i).unbind k)
    ·exact f.elim
   ·exact f.elim
  ·rw [if_neg (of_decide_eq_false h)] at f
   exact uW M he rx I E (hs := r) ok.2 (fun h hh => hc h (aM _ hh)) f
theorem Ie {hs : List HB} (M : XMb K cs) (ok : ML hs) (h : jL K W (Df cs m hs) D σ H) : jL K (xT K W D (LC K hs)) m D σ H := by
 obtain ⟨B, φ, S, ρ, I, E, f⟩ := h;refine ⟨B, φ, S, ρ, I, E, ?_⟩
 unfold Df JW at f;cases q : m ρ S with
 | err e ρ' S' =>
  rw [q] at f;dsimp only at f;split at f
  ·rename_i hh
   exact fun φ' σ' c x H' I' X' E' r => uW M hh.1 r I' E' ok hh.2 (FinS.ext f X')
  ·exact f.elim
 | next ρ S' => rw [q] at f; exact f
 | ret d S' => rw [q] at f; exact f
 | brk ρ S' => rw [q] at f; exact f
 | cnt ρ S' => rw [q] at f; exact f
 | stuck => rw [q] at f; exact f
theorem My {body : List Stmt} {h₀ : ExceptHandler} {hds : List ExceptHandler} {hs' : List HB} (M : XMb X.K cs) (ok : ML hs') (hs : X.stack = X.env :: X.outer) (hf : X.env.frame = some X.env.locals) (tk : Takes X W)
  (hb : ∀ (W : WX) (pn : List (Addr × Obj)) (xe : Value -> Shared -> Prop), Takes (X.tr pn xe) W -> PassesOwn (model X.prog X.w) X.A X.env xe -> PSs (X.tr pn xe) body (jL X.K W m))
  (hh : HdsA X (h₀ :: hds) (LC X.K hs')) : PS X (.Try body (h₀ :: hds) [] [] pos) (jL X.K W (Df cs m hs')) := fD (CQ (tb := fun W => jL X.K W m) hs hf tk hb hh) fun D σ H h => Ie M ok h
theorem PF : HdsA X [] (LC X.K []) := .nil
theorem Jj {k i : Nat} {it : XB} {n v : Str} {hs' : List HB} {hds : List ExceptHandler} {np pv ps pos' : Pos} (g : X.mg x = some (.ref (He.ga X.K x))) (hN : X.N.Nodup) (hi : X.N[k]? = some n) (hln : X.env.kindOf n = some .local) (hv : X.N[i]? = some v) (hlv : Loc X.env.scope v)
  (hsu : ∀ (a : Addr) (oe : Obj) (cls : Value) (d : Option Addr) (pn : List (Addr × Obj)), Zc cls d oe -> (∃ vs, oe.data = .fields vs) -> PE (X.suite a ((a, oe) :: pn)) e (xb1 X.K a cls d (He.ga X.K x) k it)) (r : HdsA X hds (LC X.K hs')) (hnb : LD x = none := by rfl) (hg : Gl X x := by rfl) (hd : (x == ("__debug__" : Str)) = false := by decide)
  (hs : swapsWith e (some (.Name v pv)) ps.line X.env = pure false := by rfl) (hf : X.fn v = true \/ X.env.scope.names.lookup v = some .local := by first | exact .inl rfl | exact .inr rfl | assumption) :
  HdsA X (.ExceptHandler (some (.Name x np)) (some n) [.Assign [.Name v pv] e ps] pos' :: hds) (LC X.K ((x, some k, i, it) :: hs')) := by
 have ec : Ki X.K x = .ref (He.ga X.K x) := by unfold Ki; rw [hnb]
 have q : HdsA X (.ExceptHandler (some (.Name x np)) (some n) [.Assign [.Name v pv] e ps] pos' :: hds) ((.ref (He.ga X.K x), some k, fun a cls d => IY i (xb1 X.K a cls d (He.ga X.K x) k it)) :: LC X.K hs') :=
  .consA ⟨hg, hd, .inl g⟩ hN hi hln (fun a oe cls d pn z1 z2 => pss_one (fD (ps_set (X := X.suite a ((a, oe) :: pn)) hN hv hlv (hsu a oe cls d pn z1 z2) hs hf) fun D σ H q => q)) r
 rw [<- ec] at q;exact q
theorem Ji {i : Nat} {cv : V} {dd : PH.D} {c : Value} {v : Str} {hs' : List HB} {hds : List ExceptHandler} {np pv ps pos' : Pos} (hbi : LD x = some c) (hm : X.mg x = none) (hboot : bootBuiltins x = some c) (hN : X.N.Nodup) (hv : X.N[i]? = some v) (hlv : Loc X.env.scope v)
  (hsu : ∀ (a : Addr) (oe : Obj) (pn : List (Addr × Obj)), PE (X.suite a ((a, oe) :: pn)) e (tC cv)) (r : HdsA X hds (LC X.K hs')) (hg : Gl X x := by rfl) (hn : x ≠ "__name__" := by decide) (hd : (x == ("__debug__" : Str)) = false := by decide)
  (hs : swapsWith e (some (.Name v pv)) ps.line X.env = pure false := by rfl) (hf : X.fn v = true \/ X.env.scope.names.lookup v = some .local := by first | exact .inl rfl | exact .inr rfl | assumption) :
  HdsA X (.ExceptHandler (some (.Name x np)) none [.Assign [.Name v pv] e ps] pos' :: hds) (LC X.K ((x, none, i, .c cv dd) :: hs')) := by
 have ec : Ki X.K x = c := by unfold Ki; rw [hbi]
 have q : HdsA X (.ExceptHandler (some (.Name x np)) none [.Assign [.Name v pv] e ps] pos' :: hds) ((c, none, fun a cls d => IY i (xb1 X.K a cls d (He.ga X.K x) 0 (.c cv dd))) :: LC X.K hs') :=
  .cons (names_blt hg hm hboot hn hd) (fun a oe cls d pn z1 z2 => pss_one (fD (ps_set (X := X.suite a ((a, oe) :: pn)) hN hv hlv (hsu a oe pn) hs hf) fun D σ H q => q)) r
 rw [<- ec] at q;exact q
theorem xb_ne {a : Addr} {oe : Obj} {cls : Value} {d : Option Addr} {C : Addr} {k : Nat} {pn : List (Addr × Obj)} {nm : Str} {p q : Int} {e0 e1 e2 : Expr} {pa pc p1 p2 p3 p4 : Pos} (T : XfC X.K C) (hno : eX X.K (.ref C) nm = some none) (hz : Zc cls d oe) (hf : ∃ vs, oe.data = .fields vs) (hu : (X.suite a ((a, oe) :: pn)).A.units + 64 < cLine) (hm : X.mg "int" = none) (he : PE (X.suite a ((a, oe) :: pn)) e (yQ k))
  (h0 : PE (X.suite a ((a, oe) :: pn)) e0 (tC (.int 0))) (h1 : PE (X.suite a ((a, oe) :: pn)) e1 (tC (.int p))) (h2 : PE (X.suite a ((a, oe) :: pn)) e2 (tC (.int q)))
  (hb : attributeBase e nm X.env (eval e X.env) = eval e X.env := by rfl) (hmk : behindInMarks CmpOp.NotEq e0 = false := by rfl) (hg : Gl X "int" := by rfl) (hs : starEach [.Compare (.Attribute e nm pa) [.NotEq] [e0] pc] X.env = [(false, eval (.Compare (.Attribute e nm pa) [.NotEq] [e0] pc) X.env)] := by rfl) :
  PE (X.suite a ((a, oe) :: pn)) (.BinOp e1 .Add (.BinOp e2 .Mult (.Call (.Name "int" p1) [.Compare (.Attribute e nm pa) [.NotEq] [e0] pc] [] p2) p3) p4) (xb1 X.K a cls d C k (.ne nm p q)) :=
 pe_op dD h1 (pe_op hJ h2 (OC (X := X.suite a ((a, oe) :: pn)) hm (OD (sO hu) (pe_xf T hno hz hf he hb) h0 hmk) hg hs))
end
instance instCDivW (a b : Int) : Decidable (CDivW a b) := by unfold CDivW; infer_instance
def G4 : R2 := fun x y H Q => match x, y with
 | .int i, .int j => (CDivW i j) /\ Q (.int (i / j)) H
 | _, _ => False
def yL (x y : Vl) (S : aJ) : Res Vl := match x, y with
 | .dat (.int i), .dat (.int j) => if CDivW i j then .ok (.dat (.int (i / j))) S else .stuck
 | _, _ => .stuck
theorem HN {X : Cx} : OpR X (binaryOp .FloorDiv) G4 := fV op_fdivW fun x y H Q h => EM (C := CDivW) (g := fun i j => .int (i / j)) x y H Q h
theorem La {K : aA} : gI K G4 yL := fun {W σ B φ S H x y d e Q} I r1 r2 f => by
 unfold yL at f;split at f
 ·cases r1
  cases r2;split at f
  ·rename_i h
   exact ⟨h, Fin.now f I rfl⟩
  ·exact f.elim
 ·exact f.elim
theorem Mg {i j : Int} {S : aJ} (h : CDivW i j) : yL (.dat (.int i)) (.dat (.int j)) S = .ok (.dat (.int (i / j))) S := by
 unfold yL;exact if_pos h
end PH
namespace PH
open PySem PySem.Spec PyProof PyProof.Rows L2
section
variable {P : Program} {w : World} {K : aA} {mg : Str -> Option Value} {base : Heap}
theorem Nh {x : Str} {st : Stmt} {N ps : List Str} {k : Nat} {md : FD} {mb : FS} (F : uM K x st) (g : mg x = some (.ref (He.ga K x))) (S : FnScope N ps (defScope st)) (R : Runs md N.length ps.length mb)
  (bnd : ∀ (kV doc pm : Value) (an : Option Addr) (cdv ct : Value) (us : List Value), us.length = ps.length -> bindArgs (cD x x (defArgs st) (defBody st) (defScope st) .none kV doc pm an cdv ct) ⟨us, []⟩ = pure (ps.zip us))
  (hbody : ∀ (cdv : Value) (A : Around) (outer : List Env) (s : Shared) (H : Hp) (E : XK), cdv = .ref (He.cT K (x, none)).1 -> Room k (A.deeper (envOfC x (defScope st) s.heap.objs.size (He.ga K x) cdv)) ->
   Takes (cxOf (L2.CX P w) P w K mg base N x (defScope st) (He.ga K x) cdv A outer s H E) (fun c x _ H => E c x H) -> N.Nodup ->
   PSs (cxOf (L2.CX P w) P w K mg base N x (defScope st) (He.ga K x) cdv A outer s H E) (defBody st) (jL K (fun c x _ H => E c x H) mb)) : uL P w K mg base (k + 1) x ps (spF K md) := by
 obtain ⟨fd, F⟩ := F;refine ⟨fd, ?_, g, F.kp, F.bindsN bnd⟩
 obtain ⟨oc, od, dV, kV, doc, pm, an, cdv, ct, osl, e, lk, hc⟩ := F.ex;subst e;obtain ⟨c, rfl⟩ := He.codeIn_ref hc.1;have ec : He.codeOf K (x, none) = c := He.codeOf_eq (p := (x, none)) lk rfl;exact fn_of lk hc.1 S (qK R) fun A outer s H vs Q E hr hsp => ⟨_, hbody (.ref c) A outer s H E (by rw [<- ec]; rfl) hr (takes_of (X := cxOf (L2.CX P w) P w K mg base N x (defScope st) (He.ga K x) (.ref c) A outer s H E) (E := E) rfl rfl rfl rfl) S.nd, nI R hsp⟩
def TBs (tf : List Str) (K : aA) (mg : Str -> Option Value) (base : Heap) : Prop := ∀ d ∈ tf, LamX.TabB base mg (He.cT K (d, none)).1 (He.cT K (d, none)).2
theorem JQ {x : Str} {st : Stmt} {N ps tf : List Str} {k : Nat} {md : FD} {mb : FS} (F : uM K x st) (S : FnScope N ps (defScope st)) (R : Runs md N.length ps.length mb)
  (bnd : ∀ (kV doc pm : Value) (an : Option Addr) (cdv ct : Value) (us : List Value), us.length = ps.length -> bindArgs (cD x x (defArgs st) (defBody st) (defScope st) .none kV doc pm an cdv ct) ⟨us, []⟩ = pure (ps.zip us))
  (hbody : ∀ (base : Heap), TBs tf K mg base -> ∀ (cdv : Value) (A : Around) (outer : List Env) (s : Shared) (H : Hp) (E : XK), Room k (A.deeper (envOfC x (defScope st) s.heap.objs.size (He.ga K x) cdv)) ->
   PSs (cxOf (L2.CX P w) P w K mg base N x (defScope st) (He.ga K x) cdv A outer s H E) (defBody st) (jL K (fun c x _ H => E c x H) mb)) :
  ∃ fd, (∀ (s : Shared) (us : List Value), us.length = ps.length -> BindsTo s fd ⟨us, []⟩ (ps.zip us)) /\ ∀ base, TBs tf K mg base -> FnOk P w K mg base (L2.CX P w) (k + 1) (He.ga K x) fd ps (spF K md) := by
 obtain ⟨fd, F⟩ := F;refine ⟨fd, fun s us hl => F.bindsA bnd s us hl, fun base TB => ?_⟩
 obtain ⟨oc, od, dV, kV, doc, pm, an, cdv, ct, osl, e, lk, hc⟩ := F.ex;subst e;exact fn_of lk hc.1 S (qK R) fun A outer s H vs Q E hr hsp => ⟨_, hbody base TB cdv A outer s H E hr, nI R hsp⟩
end
def lK (ds : List (Str × Str)) : aJ := ds.map fun d => .tbl d.1 d.2
theorem LN {K : aA} {ds : List (Str × Str)} {H : Hp} (nd : (uN K ds).Nodup) (hT : ∀ d ∈ ds, H (He.cT K (d.1, none)).2 = some (.tbl #[])) : GInv K (fun _ => False) (uN K ds) (lK ds) H := by
 have at_ : ∀ {n : Nat} {c : Cell} {a : Addr}, (lK ds)[n]? = some c -> (uN K ds)[n]? = some a -> ∃ d ∈ ds, c = .tbl d.1 d.2 /\ a = (He.cT K (d.1, none)).2 := fun {n c a} h1 h2 => by
  unfold lK at h1;unfold uN at h2;rw [bG] at h1 h2;cases q : ds[n]? with
  | none => rw [q] at h1; cases h1
  | some d =>
   rw [q] at h1 h2;cases h1;cases h2;exact ⟨d, aZ q, rfl, rfl⟩
 refine ⟨by unfold uN lK; simp, fun n c a h1 h2 => ?_, fun n m c c' a h1 _ h2 _ h3 h4 => ?_, fun a _ h => h, fun a h => h.elim⟩
 ·obtain ⟨d, hd, rfl, rfl⟩ := at_ h1 h2
  exact ⟨rfl, LamX.TabS.nil (hT d hd)⟩
 ·have l1 := (aH.mp h3).1
  exact (List.getElem?_inj l1 nd).mp (h3.trans h4.symm)
theorem law_startT {K : aA} {md : FD} {n : Nat} {ds : List (Str × Str)} (h : ∀ ns : List Int, ns.length <= n -> ∀ x, x = Vl.scr ns \/ x = .dat (.lst (ns.map PH.D.int)) -> ∃ S, md [x] (lK ds) = .ok (.dat (.bl true)) S) (nd : (uN K ds).Nodup) (H : Hp) (a : Addr) (ns : List Int) (hl : ns.length <= n)
  (hT : ∀ d ∈ ds, H (He.cT K (d.1, none)).2 = some (.tbl #[])) (hS : SqL K H a (ns.map V.int)) : spF K md [.ref a] H (fun v _ => v = .bl true) fun _ _ _ => False := by
 have I := LN nd hT;have fin : ∀ {x : Vl} {S : aJ}, md [x] (lK ds) = .ok (.dat (.bl true)) S -> Fin K (fun c x _ H => False) [] (RepV K) (fun _ => False) (uN K ds) (lK ds) H (md [x] (lK ds)) (fun v _ => v = .bl true) := fun {x S} e => by
  rw [e];exact fun φ' v H' _ _ r => r
 rcases hS with (h1 | ⟨o, h1⟩) | h1
 ·obtain ⟨S, e⟩ := h ns hl _ (.inr rfl)
  refine ⟨fun _ => False, uN K ds, lK ds, [.dat (.lst (ns.map PH.D.int))], I, ⟨_, _, rfl, ⟨a, ns.map V.int, rfl, ?_, h1, xY ns⟩, rfl⟩, fin e⟩
  intro q;rcases q with q | ⟨m, c, q1, q2, q3⟩
  ·exact q
  ·have hm : a ∈ uN K ds := aZ q3
   unfold uN at hm;obtain ⟨d, hd, ea⟩ := kX.mp hm;have := hT d hd;rw [ea, h1] at this;cases this
 ·obtain ⟨S, e⟩ := h ns hl _ (.inl rfl)
  exact ⟨fun _ => False, uN K ds, lK ds, [.scr ns], I, ⟨_, _, rfl, ⟨a, rfl, .inl ⟨o, h1⟩⟩, rfl⟩, fin e⟩
 ·obtain ⟨S, e⟩ := h ns hl _ (.inl rfl)
  exact ⟨fun _ => False, uN K ds, lK ds, [.scr ns], I, ⟨_, _, rfl, ⟨a, rfl, .inr (.inr h1)⟩, rfl⟩, fin e⟩
theorem Ls {n : Nat} {fa : List He.Fa} {fn : List He.DefD} {ts : List He.Tab} {ex : aA -> Bool} {gn : List He5.DefA} {tf : List Str} {g : Addr -> Option Obj} {s : Shared} (h : ∀ a, g a = s.heap.get? a) : Oc n fa fn ts ex gn tf g = (O2 n fa fn ts ex gn tf).obs s := by
 have e : g = s.heap.get? := funext h;rw [e] <;> rfl
theorem Of {K : aA} {ds : List (Str × Str)} (h : ndB K ds = true) : (uN K ds).Nodup := of_decide_eq_true h
def tbC (K : aA) (tf : List Str) : List (Addr × Addr) := tf.map fun d => He.cT K (d, none)
theorem walk_xT {l : PySem.W.OpenLaw} {n k : Nat} {q : Program} {loose : List Str} {XP : (Str -> Option Value) -> Heap -> Prop} {YP : World -> Heap -> Prop} {d : DefRec} {x : Str} (e1 : l.most = some n) (e2 : n <= sizeLine) (e3 : d.params.defaults = []) (e4 : Room k callerA)
  (e5 : ∀ (w : World) (mg : Str -> Option Value) (fa : Addr) (h : Heap), YP w h -> h.Ns mainGlobals mg -> mg d.name = some (.ref fa) -> ∃ (K : aA) (fd : FuncData) (sp : Sp) (tf : List Str), K.In h /\ (∀ p ∈ L9 tf, zS K (He.cT K p).1 (He.cT K p).2 = true /\ K.lookup (He.cT K p).2 = none /\ h.get? (He.cT K p).2 = some { cls := .none, data := .fields #[] }) /\
   (∀ (s : Shared) (u : Value), BindsTo s fd ⟨[u], []⟩ [(x, u)]) /\
   (∀ (H : Hp) (a : Addr) (ns : List Int), ns.length <= n -> (∀ d ∈ tf, H (He.cT K (d, none)).2 = some (.tbl #[])) -> SqL K H a (ns.map V.int) -> sp [.ref a] H (fun v _ => v = .bl true) fun _ _ _ => False) /\ ∀ base : Heap, K.In base -> base.Ns mainGlobals mg -> TBs tf K mg base -> FnOk l.prog w K mg base (L2.CX l.prog w) k fa fd [x] sp) :
  PySem.W.WalkO q loose XP YP l.row.toRowW d [] (fun f vs => PySem.call f vs) :=
 Att.attach_callB e1 e3 fun w s0 s1 mg mb fa o pm cd doc a vs ns G Y m1 m2 m3 m4 m5 m6 m7 m8 m9 => by
  obtain ⟨K, fd, sp, tf, KX, tb, hb, hs, hF⟩ := e5 w mg fa _ Y G.T.g m4;have mem : ∀ p ∈ tbC K tf, ∃ d ∈ L9 tf, p = He.cT K d := fun p hp => by
   obtain ⟨d, hd, e⟩ := kX.mp hp;exact ⟨(d, none), kX.mpr ⟨d, hd, rfl⟩, e.symm⟩
  have back : ∀ d ∈ tf, He.cT K (d, none) ∈ tbC K tf := fun d hd => kX.mpr ⟨d, hd, rfl⟩
  refine LamX.law_callTs (cs := tbC K tf) KX G.T.g G.T.b G.T.builtins G.T.nolimit m9 (fun p hp => ?_) (fun p hp => ?_) (fun p hp => ?_) G.T.bmain m5 m6 (Nat.le_trans m7 e2) e4 (fun base h1 h2 h3 => hF base h1 h2 fun d hd => h3 _ (back d hd)) hb (fun H h1 h2 => hs H a ns m7 (fun d hd => h1 _ (back d hd)) h2) fun H e s' z => ?_
  ·obtain ⟨d, hd, rfl⟩ := mem p hp
   exact (tb d hd).2.2
  ·obtain ⟨d, hd, rfl⟩ := mem p hp
   exact (tb d hd).2.1
  ·obtain ⟨d, hd, rfl⟩ := mem p hp
   exact PySem.W.codeHd_of_K KX (tb d hd).1
  ·obtain ⟨_, _, _, _, _, _, _, _, _, _, _, _, h⟩ := z
   exact h
end PH
namespace PH
open PySem PySem.Spec PyProof.Rows L2
def mY : FS :=
 (bU (iO (m1 (fIsi "int") (aB 0)) (GD (m1 (fIsi "bool") (aB 0)))))
def cL : FD := run 1 1 mY
def xH : FS :=
 (bU (iO (bB cL (aD (aB 0) aL)) (iD Eh Eh (mC (.int 0)) (aB 0) (mC (.int 1)))))
def sT : FD := run 1 1 xH
def eU : FE :=
 (iO (bB cL (aD (aB 4) aL)) (iD Eh Eh (aB 2) (aB 4) (aB 3)))
def fO : FS :=
 (aR (bS (Ac (iU (cY (m1 (fIsi "tuple") (aB 0)))) (mB (aS hW (m1 eY (aB 0)) (mC (.int 0))))) (bU (mC (.bl false))) bK)
 (aR (bS (Ac (iU (cY (m1 (fIsi "str") (aS bQ (aB 0) (mC (.int 0)))))) (mB (m1 (eC true) (aS bQ (aB 0) (mC (.int 0)))))) (bU (mC (.bl false))) bK)
 (aR (cF (m1 vE (aS bQ (aB 0) (mC (.int 0)))) (.tp [1, 2, 3]))
 (aR (bS (mB (aS GT (m1 eY (aB 0)) (aS (eR false) (aB 1) (mC (.int 1))))) (bU (mC (.bl false))) bK)
 (bU (m1 yN (BH false (pV (Ca false (aB 0) (gH (mC (.int 1))) zX)) (.nm 4) gX eU [4])))))))
def cQ : FD := run 5 1 fO
def oY : FS :=
 (aR (cF (aS bQ (aB 0) (mC (.int 0))) (.nm 1))
 (aR (bS (Ac (mB (aS hW (aB 1) (mC (.str "keep")))) (mB (aS hW (aB 1) (mC (.str "again"))))) (bU (jM false (aD (aS bQ (aB 0) (mC (.int 1))) aL))) bK)
 (aR (bS (mB (aS hW (aB 1) (mC (.str "either")))) (bU (jM false (aD (aS bQ (aB 0) (mC (.int 1))) (aD (aS bQ (aB 0) (mC (.int 2))) aL)))) bK)
 (aR (bS (mB (aS hW (aB 1) (mC (.str "call")))) (bU (aS bQ (aB 0) (mC (.int 3)))) bK)
 (bU (jM false aL))))))
def jJ : FD := run 2 1 oY
def lD : FS :=
 (aR (cF (aS bQ (aB 0) (mC (.int 0))) (.nm 2))
 (aR (bS (Ac (mB (aS hW (aB 2) (mC (.str "keep")))) (mB (aS hW (aB 2) (mC (.str "again"))))) (bU (cK (aD (aB 2) (aD (aS bQ (aB 1) (mC (.int 0))) aL)))) bK)
 (aR (bS (mB (aS hW (aB 2) (mC (.str "either")))) (bU (cK (aD (aB 2) (aD (aS bQ (aB 1) (mC (.int 0))) (aD (aS bQ (aB 1) (mC (.int 1))) aL))))) bK)
 (aR (bS (mB (aS hW (aB 2) (mC (.str "call")))) (bU (cK (aD (aB 2) (aD (aS bQ (aB 0) (mC (.int 1))) (aD (aS bQ (aB 0) (mC (.int 2))) (aD (aB 1) aL)))))) bK)
 (bU (aB 0))))))
def lA : FD := run 3 2 lD
def gV (f_copied_block : FD) : FS :=
 (bU (bB lA (aD (aB 0) (aD (BH false (pV (bB jJ (aD (aB 0) aL))) (.nm 1) gX (bB (f_copied_block) (aD (aB 1) aL)) [1]) aL))))
def kF (f_copied_statement : FD) : FS :=
 (bU (BH false (pV (aB 0)) (.nm 1) gX (bB (f_copied_statement) (aD (aB 1) aL)) [1]))
def jE : Nat -> FD × FD
 | 0 => (sH, sH)
 | n + 1 => let r := jE n
  (run 2 1 (gV r.2), run 2 1 (kF r.1))
def gK (n : Nat) : FD := (jE n).1
def dR (n : Nat) : FD := (jE n).2
def lE : FS :=
 (aR (bS (cY (bB cQ (aD (aB 0) aL))) (bU (mC (.bl true))) bK)
 (aR (bS (Ac (iU (cY (m1 (fIsi "tuple") (aB 0)))) (Ac (mB (aS KZ (m1 eY (aB 0)) (mC (.int 2)))) (iU (cY (m1 (fIsi "str") (aS bQ (aB 0) (mC (.int 0)))))))) (bU (mC (.bl false))) bK)
 (aR (cF (aS bQ (aB 0) (mC (.int 0))) (.nm 3))
 (aR (bS (mB (aS hW (aB 3) (mC (.str "end")))) (bU (iO (aS hW (m1 eY (aB 0)) (mC (.int 2))) (bB sT (aD (aS bQ (aB 0) (mC (.int 1))) aL)))) bK)
 (aR (bS (mB (aS hW (aB 1) (mC (.int 3)))) (bU (mC (.bl false))) bK)
 (aR (bS (Ac (mB (aS hW (aB 3) (mC (.str "keep")))) (mB (aS hW (aB 3) (mC (.str "again"))))) (bU (iO (aS hW (m1 eY (aB 0)) (mC (.int 2))) (m1 (fIsi "list") (aS bQ (aB 0) (mC (.int 1)))))) bK)
 (aR (bS (mB (aS hW (aB 3) (mC (.str "either")))) (bU (iO (aS hW (m1 eY (aB 0)) (mC (.int 3))) (iO (m1 (fIsi "list") (aS bQ (aB 0) (mC (.int 1)))) (m1 (fIsi "list") (aS bQ (aB 0) (mC (.int 2))))))) bK)
 (aR (bS (Ac (mB (aS GT (aB 3) (mC (.str "call")))) (mB (aS GT (m1 eY (aB 0)) (mC (.int 4))))) (bU (mC (.bl false))) bK)
 (aR (bS (Ac (iU (cY (bB cL (aD (aS bQ (aB 0) (mC (.int 1))) aL)))) (iU (mB (iD Eh KZ (mC (.int 0)) (aS bQ (aB 0) (mC (.int 1))) (aB 2))))) (bU (mC (.bl false))) bK)
 (aR (bS (Ac (iU (cY (m1 (fIsi "bool") (aS bQ (aB 0) (mC (.int 2)))))) (Ac (iU (cY (m1 (fIsi "list") (aS bQ (aB 0) (mC (.int 3)))))) (mB (aS GT (m1 eY (aS bQ (aB 0) (mC (.int 3)))) (mC (.int 2)))))) (bU (mC (.bl false))) bK)
 (bU (iO (m1 (fIsi "list") (aS bQ (aS bQ (aB 0) (mC (.int 3))) (mC (.int 0)))) (m1 (fIsi "list") (aS bQ (aS bQ (aB 0) (mC (.int 3))) (mC (.int 1))))))))))))))))
def iS : FD := run 4 3 lE
def fE (f_first_fault : FD) : FS :=
 (jK [8, 9, 10] (aR (cF (bB (f_first_fault) (aD (aB 9) (aD (aS (eR false) (aB 1) (mC (.int 1))) (aD (aB 2) (aD (aS (eR false) (aB 7) (cK (aD (aB 8) aL))) (aD (aB 4) aL)))))) (.tp [10, 4]))
 (bS (mB (aS (Aq true) (aB 10) (mC .non))) (bU (cK (aD (aB 10) (aD (aB 4) aL)))) bK)))
def iX (f_first_fault : FD) : FS :=
 (jK [5, 6, 7, 8, 9, 10] (aR (cF (aS (eR false) (aB 3) (cK (aD (aB 5) aL))) (.nm 7))
 (aR (bS (Ac (mB (aS hW (aB 5) (mC (.int 8)))) (Ac (mB (aS hW (aB 4) (mC (.int 12)))) (iU (cY (bB iS (aD (aB 6) (aD (aB 1) (aD (aB 2) aL)))))))) (bU (cK (aD (aB 7) (aD (aB 4) aL)))) bK)
 (aR (HY (fun x y => x + y) 4 (mC (.int 1)))
 (uB (Bc (bB jJ (aD (aB 6) aL))) (.tp [8, 9]) (fE (f_first_fault)))))))
def lG (f_first_fault : FD) : FS :=
 (aR (uB (Bc (aB 0)) (.tp [5, 6]) (iX (f_first_fault)))
 (bU (cK (aD (mC .non) (aD (aB 4) aL)))))
def cJ : Nat -> FD
 | 0 => sH
 | n + 1 => run 11 5 (lG (cJ n))
def dE : FS :=
 (jK [2, 3, 4, 5] (aR (bS (iU (cY (m1 (fIsi "list") (aB 3)))) (jT "NoBook" ["path", "procedure"] (aD (aB 2) (aD (cK aL) aL))) bK)
 (aR (cF (bB (cJ 10) (aD (aB 3) (aD (mC (.int 0)) (aD (m1 eY (aB 1)) (aD (cK aL) (aD (mC (.int 0)) aL)))))) (.tp [4, 5]))
 (bS (mB (aS (Aq true) (aB 4) (mC .non))) (jT "NoBook" ["path", "procedure"] (aD (aB 2) (aD (aB 4) aL))) bK))))
def pB : FS :=
 (aR (bS (Ac (iU (cY (m1 (fIsi "list") (aB 1)))) (iU (mB (iD Eh Eh (mC (.int 1)) (m1 eY (aB 1)) (mC (.int 3)))))) (jT "NoBook" ["path", "procedure"] (aD (m1 D0 (mC (.int 1))) (aD (cK aL) aL))) bK)
 (aR (uB (Bc (aB 1)) (.tp [2, 3]) dE)
 (kO "Book" "own" (aB 0) (BH false (pV (aB 1)) (.nm 3) gX (bB (dR 20) (aD (aB 3) aL)) [3]))))
def eK : FD := run 6 2 pB
def rK : FS :=
 (bU (m1 eY (dG "Book" "own" (aB 0))))
def nQ : FD := run 1 1 rK
def lH : FS :=
 (bU (BH false (pV (dG "Book" "own" (aB 0))) (.nm 1) gX (bB (dR 20) (aD (aB 1) aL)) [1]))
def lC : FD := run 2 1 lH
def qD : FS :=
 (bU (aS (eR true) (jM false (aD (mC (.int 0)) aL)) (Oj (BH false (pV (Ca false (aB 0) zX (gH (mC (.int 63))))) (.nm 1) gX (m1 zZ (aB 1)) [1]) (jM false (aD (mC (.int 0)) aL)))))
def nP : FD := run 2 1 qD
def iG : FS :=
 (jK [4, 5] (aR (bS (Ac (iU (cY (bB cL (aD (aB 5) aL)))) (iU (mB (iD Eh KZ (mC (.int 0)) (aB 5) (m1 eY (aB 3)))))) (bU (mC .non)) bK)
 (bS (mB (aS hW (aS Ap (aB 4) (mC (.int 2))) (mC (.int 0)))) (aR (cF (aS bQ (aB 3) (aB 5)) (.nm 2))
 (cF (bB jJ (aD (aB 2) aL)) (.nm 3))) (cF (aS bQ (aB 3) (aB 5)) (.nm 3)))))
def iZ : FS :=
 (bU (iO (bB cL (aD (aB 1) aL)) (iD Eh KZ (mC (.int 0)) (aB 1) (m1 (Bw "Book" nQ) (aB 0)))))
def iY : FD := run 2 2 iZ
theorem A1 {x0 x1 : Vl} {S : aJ} : iY [x0, x1] S = bO (iZ [some x0, some x1] S) := (rfl)
def qC : FS :=
 (bU (iO (m1 (fIsi "tuple") (aB 0)) (iO (aS hW (m1 eY (aB 0)) (mC (.int 6))) (m1 yN (BH false (pV (aB 0)) (.nm 1) gX (bB cL (aD (aB 1) aL)) [1])))))
def lQ : FD := run 2 1 qC
def jO : FS :=
 (jK [9] (mPar 4 5 (m1 D0 (aB 5)) (aB 4)))
def rF : FS :=
 (aR (cF (aB 0) (.tp [2, 3, 4, 5, 6, 7]))
 (aR (cF (aS bQ (aB 1) (mC (.int 0))) (.nm 8))
 (aR (bS (mB (aS hW (aB 8) (mC (.str "go")))) (bU (cK (aD (aS (eR false) (aB 2) (aS mK (aS bQ (aB 1) (mC (.int 1))) (aB 4))) (aD (aS (eR false) (aB 3) (aS mK (aS bQ (aB 1) (mC (.int 1))) (aB 5))) (aD (aB 4) (aD (aB 5) (aD (aB 6) (aD (aB 7) aL)))))))) bK)
 (aR (bS (mB (aS hW (aB 8) (mC (.str "turn")))) (aR (uB (jS (aS bQ (aB 1) (mC (.int 1)))) (.nm 9) jO)
 (bU (cK (aD (aB 2) (aD (aB 3) (aD (aB 4) (aD (aB 5) (aD (aB 6) (aD (aB 7) aL))))))))) bK)
 (aR (bS (mB (aS hW (aB 8) (mC (.str "mirror")))) (bU (cK (aD (aB 2) (aD (aB 3) (aD (aB 4) (aD (m1 D0 (aB 5)) (aD (aB 6) (aD (aB 7) aL)))))))) bK)
 (aR (bS (mB (aS hW (aB 8) (mC (.str "scale")))) (bU (cK (aD (aB 2) (aD (aB 3) (aD (aS mK (aS bQ (aB 1) (mC (.int 1))) (aB 4)) (aD (aS mK (aS bQ (aB 1) (mC (.int 1))) (aB 5)) (aD (aB 6) (aD (aB 7) aL)))))))) bK)
 (aR (bS (mB (aS hW (aB 8) (mC (.str "aim")))) (bU (cK (aD (aB 2) (aD (aB 3) (aD (aS bQ (aB 1) (mC (.int 1))) (aD (aS bQ (aB 1) (mC (.int 2))) (aD (aB 6) (aD (aB 7) aL)))))))) bK)
 (aR (bS (mB (aS hW (aB 8) (mC (.str "place")))) (bU (cK (aD (aS bQ (aB 1) (mC (.int 1))) (aD (aS bQ (aB 1) (mC (.int 2))) (aD (aB 4) (aD (aB 5) (aD (aB 6) (aD (aB 7) aL)))))))) bK)
 (aR (bS (mB (aS hW (aB 8) (mC (.str "mark")))) (bU (cK (aD (aB 2) (aD (aB 3) (aD (aB 4) (aD (aB 5) (aD (aB 2) (aD (aB 3) aL)))))))) bK)
 (aR (bS (mB (aS hW (aB 8) (mC (.str "return")))) (bU (cK (aD (aB 6) (aD (aB 7) (aD (aB 4) (aD (aB 5) (aD (aB 6) (aD (aB 7) aL)))))))) bK)
 (bU (cK (aD (aB 6) (aD (aB 7) (aD (aB 4) (aD (aB 5) (aD (aB 2) (aD (aB 3) aL))))))))))))))))))
def jB : FD := run 10 2 rF
def wR : FE :=
 (m1 zZ (aS hW (aS Ap (aB 0) (mC (.int 8))) (mC (.int 0))))
def vF : FS :=
 (bU (BH false (jS (mC (.int 49))) (.nm 0) gX wR [0]))
def qS : FD := run 1 0 vF
def pN : FE :=
 (aS vC (aS bQ (aB 5) (aB 6)) (aS bQ (aB 1) (aB 6)))
def kZ : FS :=
 (jK [3, 4, 5] (aR (cF (m1 fTuple (BH false (jS (mC (.int 6))) (.nm 6) gX (m1 zZ (aS hW (aB 6) (aB 3))) [6])) (.nm 4))
 (aR (cF (bB jB (aD (aB 4) (aD (aB 0) aL))) (.nm 5))
 (cH (jN (aB 2) (aS (eR false) (jM false (aD (mC (.int 0)) aL)) (BH false (jS (mC (.int 6))) (.nm 6) gX pN [6])))))))
def tM : FS :=
 (aR (bS (iU (cY (bB cQ (aD (aB 0) aL)))) (nR "NoCommand") bK)
 (aR (cF (bB jB (aD (cK (aD (mC (.int 0)) (aD (mC (.int 0)) (aD (mC (.int 0)) (aD (mC (.int 0)) (aD (mC (.int 0)) (aD (mC (.int 0)) aL))))))) (aD (aB 0) aL))) (.nm 1))
 (aR (cF (jM true (aD (jM false (aD (mC (.int 1)) (Nl (aB 1) aL))) aL)) (.nm 2))
 (aR (uB (jS (mC (.int 6))) (.nm 3) kZ)
 (bU (Ol false (jS (mC (.int 7))) (.nm 7) gX (jS (mC (.int 7))) (.nm 8) gX (aS bQ (aS bQ (aB 2) (aB 8)) (aB 7)) [7, 8] [8]))))))
def lP : FD := Eu 9 1 tM
def jP : FS :=
 (jK [5, 6] (aR (cF (aS bQ (aB 1) (aS (eR false) (aS mK (mC (.int 7)) (aB 3)) (aB 5))) (.nm 6))
 (bS (mB (aS GT (aB 6) (mC (.int 0)))) (cF (BH false (Ly (aB 4) (Ca false (aB 0) (gH (aS mK (mC (.int 7)) (aB 5))) (gH (aS (eR false) (aS mK (mC (.int 7)) (aB 5)) (mC (.int 7)))))) (.tp [7, 8]) gX (aS (eR false) (aB 7) (aS mK (aB 6) (aB 8))) [7, 8]) (.nm 4)) bK)))
def mQ : FS :=
 (jK [3, 4, 5, 6] (aR (cF (jM false (aD (mC (.int 0)) (aD (mC (.int 0)) (aD (mC (.int 0)) (aD (mC (.int 0)) (aD (mC (.int 0)) (aD (mC (.int 0)) (aD (mC (.int 0)) aL)))))))) (.nm 4))
 (aR (uB (jS (mC (.int 7))) (.nm 5) jP)
 (cF (aS (eR false) (aB 2) (aB 4)) (.nm 2)))))
def vG : FS :=
 (aR (cF (jM false aL) (.nm 2))
 (aR (uB (jS (mC (.int 7))) (.nm 3) mQ)
 (bU (aB 2))))
def qT : FD := run 9 2 vG
def pO : FS :=
 (aR (cF (aS bQ (aB 0) (mC (.int 0))) (.nm 1))
 (aR (cF (BH false (pV (Ca false (bB qS aL) (gH (mC (.int 7))) (gH (mC (.int 35))))) (.nm 3) gX (aS mK (aB 1) (aB 3)) [3]) (.nm 2))
 (bU (aS (eR false) (aS (eR false) (Ca false (aB 0) zX (gH (mC (.int 7)))) (aB 2)) (Ca false (aB 0) (gH (mC (.int 35))) zX)))))
def pL : FD := run 4 1 pO
def iN : FS :=
 (aR (kO "Execution" "own" (aB 0) (aB 1))
 (aR (kO "Execution" "bits" (aB 0) (aB 2))
 (aR (kO "Execution" "taken" (aB 0) (mC (.int 0)))
 (aR (kO "Execution" "deeds" (aB 0) (jM true aL))
 (aR (kO "Execution" "stack" (aB 0) (jM true aL))
 (aR (kO "Execution" "active" (aB 0) (Lz (pV (aB 1)) (.nm 3) [3]))
 (kO "Execution" "ended" (aB 0) (mC (.int 0)))))))))
def gA : FD := run 4 3 iN
def gD : FS :=
 (aR (bS (mB (aS hW (dG "Execution" "taken" (aB 0)) (m1 eY (dG "Execution" "bits" (aB 0))))) (jT "NoRun" ["index"] (aD (dG "Execution" "taken" (aB 0)) aL)) bK)
 (aR (Bf (fun x y => x + y) "Execution" "taken" (aB 0) (mC (.int 1)))
 (bU (aS bQ (dG "Execution" "bits" (aB 0)) (aS vC (dG "Execution" "taken" (aB 0)) (mC (.int 1)))))))
def cX : FD := run 1 1 gD
def fP : FS :=
 (aR (cF (aS bQ (dG "Execution" "active" (aB 0)) (aB 1)) (.nm 3))
 (aR (bS (M3 (mB (aS OB (m1 eY (aB 3)) (mC (.int 0)))) (mB (aS hW (aS bQ (aB 3) (m1 D0 (mC (.int 1)))) (dG "Execution" "taken" (aB 0))))) (jT "NoRun" ["index"] (aD (m1 D0 (mC (.int 2))) aL)) bK)
 (aR (cH (jN (aS bQ (dG "Execution" "active" (aB 0)) (aB 1)) (dG "Execution" "taken" (aB 0))))
 (aR (cH (jN (dG "Execution" "stack" (aB 0)) (cK (aD (mC (.str "call")) (aD (aB 1) (aD (aB 2) aL))))))
 (cH (jN (dG "Execution" "stack" (aB 0)) (cK (aD (mC (.str "list")) (aD (aS bQ (dG "Execution" "own" (aB 0)) (aB 1)) (aD (mC (.int 0)) aL))))))))))
def dF : FD := run 4 3 fP
def hQ : FS :=
 (aR (cH (m1 tD (aS bQ (dG "Execution" "active" (aB 0)) (aB 1))))
 (aR (bS (mB (aS (Aq false) (aB 2) (mC .non))) (aR (kO "Execution" "ended" (aB 0) (aB 3))
 (bU (mC .non))) bK)
 (aR (bS (cY (aS bQ (aB 2) (mC (.int 2)))) (cH (jN (dG "Execution" "deeds" (aB 0)) (cK (aD (mC (.str "close")) aL)))) bK)
 (cH (jN (dG "Execution" "stack" (aB 0)) (cK (aD (mC (.str "list")) (aD (aS bQ (aS bQ (aB 2) (mC (.int 3))) (aB 3)) (aD (mC (.int 0)) aL)))))))))
def fL : FD := run 4 4 hQ
def cV : FS :=
 (aR (bS (mB (aS hW (aS bQ (aB 2) (mC (.int 0))) (mC (.str "close")))) (cH (jN (dG "Execution" "deeds" (aB 0)) (aB 2))) bK)
 (cF (m1 tD (dG "Execution" "stack" (aB 0))) (.nm 2)))
def gW : FS :=
 (aR (cF (m1 tD (dG "Execution" "stack" (aB 0))) (.nm 2))
 (aR (yC 1000000 (mB (aS GT (aS bQ (aB 2) (mC (.int 0))) (mC (.str "call")))) cV)
 (cH (fM "Execution" "leave" fL (aB 0) (aD (aS bQ (aB 2) (mC (.int 1))) (aD (aS bQ (aB 2) (mC (.int 2))) (aD (aB 1) aL)))))))
def gM : FD := run 3 2 gW
def hR : FS :=
 (aR (cF (aS bQ (aB 1) (mC (.int 0))) (.nm 2))
 (bS (cY (bB cQ (aD (aB 1) aL))) (cH (jN (dG "Execution" "deeds" (aB 0)) (aB 1))) (bS (mB (aS hW (aB 2) (mC (.str "keep")))) (aR (cH (jN (dG "Execution" "deeds" (aB 0)) (cK (aD (mC (.str "open")) aL))))
 (aR (cH (jN (dG "Execution" "stack" (aB 0)) (cK (aD (mC (.str "close")) aL))))
 (cH (jN (dG "Execution" "stack" (aB 0)) (cK (aD (mC (.str "list")) (aD (aS bQ (aB 1) (mC (.int 1))) (aD (mC (.int 0)) aL)))))))) (bS (mB (aS hW (aB 2) (mC (.str "either")))) (cH (jN (dG "Execution" "stack" (aB 0)) (cK (aD (mC (.str "list")) (aD (aS bQ (aB 1) (aS (eR false) (mC (.int 1)) (fM "Execution" "take" cX (aB 0) aL))) (aD (mC (.int 0)) aL)))))) (bS (mB (aS hW (aB 2) (mC (.str "again")))) (cH (jN (dG "Execution" "stack" (aB 0)) (cK (aD (mC (.str "again")) (aD (aS bQ (aB 1) (mC (.int 1))) aL))))) (bS (mB (aS hW (aB 2) (mC (.str "call")))) (aR (bS (cY (aS bQ (aB 1) (mC (.int 2)))) (cH (jN (dG "Execution" "deeds" (aB 0)) (cK (aD (mC (.str "open")) aL)))) bK)
 (cH (fM "Execution" "enter" dF (aB 0) (aD (aS bQ (aB 1) (mC (.int 1))) (aD (aB 1) aL))))) (cH (fM "Execution" "unwind" gM (aB 0) (aD (aS bQ (aB 1) (mC (.int 1))) aL)))))))))
def hL : FD := run 3 2 hR
def iM : FS :=
 (aR (cF (m1 tD (dG "Execution" "stack" (aB 0))) (.nm 1))
 (bS (mB (aS hW (aS bQ (aB 1) (mC (.int 0))) (mC (.str "list")))) (bS (mB (aS KZ (aS bQ (aB 1) (mC (.int 2))) (m1 eY (aS bQ (aB 1) (mC (.int 1)))))) (aR (cH (jN (dG "Execution" "stack" (aB 0)) (cK (aD (mC (.str "list")) (aD (aS bQ (aB 1) (mC (.int 1))) (aD (aS (eR false) (aS bQ (aB 1) (mC (.int 2))) (mC (.int 1))) aL))))))
 (cH (fM "Execution" "begin" hL (aB 0) (aD (aS bQ (aS bQ (aB 1) (mC (.int 1))) (aS bQ (aB 1) (mC (.int 2)))) aL)))) bK) (bS (mB (aS hW (aS bQ (aB 1) (mC (.int 0))) (mC (.str "close")))) (cH (jN (dG "Execution" "deeds" (aB 0)) (aB 1))) (bS (mB (aS hW (aS bQ (aB 1) (mC (.int 0))) (mC (.str "again")))) (bS (mB (aS hW (fM "Execution" "take" cX (aB 0) aL) (mC (.int 1)))) (aR (cH (jN (dG "Execution" "stack" (aB 0)) (aB 1)))
 (cH (jN (dG "Execution" "stack" (aB 0)) (cK (aD (mC (.str "list")) (aD (aS bQ (aB 1) (mC (.int 1))) (aD (mC (.int 0)) aL))))))) bK) (cH (fM "Execution" "leave" fL (aB 0) (aD (aS bQ (aB 1) (mC (.int 1))) (aD (aS bQ (aB 1) (mC (.int 2))) (aD (mC (.int 0)) aL)))))))))
def iH : FD := run 2 1 iM
def fW : FS :=
 (jK [3, 4] (bS (iU (cY (bB sT (aD (aB 4) aL)))) (jT "NoRun" ["index"] (aD (aB 3) aL)) bK))
def dP : FS :=
 (cH (fM "Execution" "step" iH (aB 5) aL))
def kE : FS :=
 (aR (bS (iU (cY (bB iY (aD (aB 0) (aD (aB 1) aL))))) (nR "NoProcedure") bK)
 (aR (bS (iU (cY (m1 (fIsi "list") (aB 2)))) (jT "NoRun" ["index"] (aD (m1 D0 (mC (.int 1))) aL)) bK)
 (aR (uB (Bc (aB 2)) (.tp [3, 4]) fW)
 (aR (cF (Ad true "Execution" gA (aD (fM "Book" "bodies" lC (aB 0) aL) (aD (aB 2) aL))) (.nm 5))
 (aR (cH (fM "Execution" "enter" dF (aB 5) (aD (aB 1) (aD (mC .non) aL))))
 (aR (yC 1000000 (mB (aS OB (m1 eY (dG "Execution" "stack" (aB 5))) (mC (.int 0)))) dP)
 (aR (bS (mB (aS KZ (dG "Execution" "taken" (aB 5)) (m1 eY (aB 2)))) (jT "NoRun" ["index"] (aD (dG "Execution" "taken" (aB 5)) aL)) bK)
 (bU (cK (aD (dG "Execution" "ended" (aB 5)) (aD (M0 (dG "Execution" "deeds" (aB 5))) aL)))))))))))
def dQ : FD := Eu 6 3 kE
def dZ : FS :=
 (jK [4] (bS (mB (aS hW (aS bQ (aB 4) (mC (.int 0))) (mC (.str "open")))) (cH (jN (aB 3) (Ca false (aB 1) zX (gH (mC (.int 4)))))) (bS (mB (aS hW (aS bQ (aB 4) (mC (.int 0))) (mC (.str "close")))) (cF (aS (eR false) (m1 tD (aB 3)) (Ca false (aB 1) (gH (mC (.int 4))) zX)) (.nm 1)) (aR (cF (bB jB (aD (aB 1) (aD (aB 4) aL))) (.nm 1))
 (cH (jN (aB 2) (aB 1)))))))
def lF : FS :=
 (aR (cF (jM true aL) (.nm 2))
 (aR (cF (jM true aL) (.nm 3))
 (aR (uB (pV (aB 0)) (.nm 4) dZ)
 (bU (cK (aD (M0 (aB 2)) (aD (aB 1) aL)))))))
def iT : FD := Eu 5 2 lF
def Gc : FS :=
 (aR (cF (bB dQ (aD (aB 0) (aD (aB 1) (aD (aB 2) aL)))) (.tp [4, 5]))
 (aR (bS (iU (cY (bB lQ (aD (aB 3) aL)))) (nR "NoPen") bK)
 (aR (cF (bB iT (aD (aB 5) (aD (aB 3) aL))) (.tp [6, 7]))
 (bU (cK (aD (aB 4) (aD (aB 7) (aD (m1 eY (aB 6)) aL))))))))
def G9 : FD := run 8 4 Gc
def hX : FS :=
 (jK [8] (bS (mB (aS hW (aS bQ (aB 8) (mC (.int 0))) (mC (.str "open")))) (aR (cH (jN (aB 6) (aB 5)))
 (cF (bB qS aL) (.nm 5))) (bS (mB (aS hW (aS bQ (aB 8) (mC (.int 0))) (mC (.str "close")))) (cF (bB qT (aD (m1 tD (aB 6)) (aD (bB pL (aD (aB 5) aL)) aL))) (.nm 5)) (aR (cF (bB qT (aD (aB 5) (aD (bB lP (aD (aB 8) aL)) aL))) (.nm 5))
 (HY (fun x y => x + y) 7 (mC (.int 1)))))))
theorem L6 {x0 : Vl} {S : aJ} : lQ [x0] S = bO (qC [some x0, none] S) := (rfl)
theorem Fj {x0 x1 : Vl} {S : aJ} : jB [x0, x1] S = bO (rF [some x0, some x1, none, none, none, none, none, none, none, none] S) := (rfl)
theorem Fi {S : aJ} : qS [] S = bO (vF [none] S) := (rfl)
theorem EZ {x0 : Vl} {S : aJ} : lP [x0] S = trunc S.length (bO (tM [some x0, none, none, none, none, none, none, none, none] S)) := (rfl)
theorem Fl {x0 x1 : Vl} {S : aJ} : qT [x0, x1] S = bO (vG [some x0, some x1, none, none, none, none, none, none, none] S) := (rfl)
theorem BN {x0 : Vl} {S : aJ} : pL [x0] S = bO (pO [some x0, none, none, none] S) := (rfl)
theorem yU {x0 x1 x2 : Vl} {S : aJ} : gA [x0, x1, x2] S = bO (iN [some x0, some x1, some x2, none] S) := (rfl)
theorem qG {x0 : Vl} {S : aJ} : cX [x0] S = bO (gD [some x0] S) := (rfl)
theorem pC {x0 x1 x2 : Vl} {S : aJ} : dF [x0, x1, x2] S = bO (fP [some x0, some x1, some x2, none] S) := (rfl)
theorem xM {x0 x1 x2 x3 : Vl} {S : aJ} : fL [x0, x1, x2, x3] S = bO (hQ [some x0, some x1, some x2, some x3] S) := (rfl)
theorem vJ {x0 x1 : Vl} {S : aJ} : gM [x0, x1] S = bO (gW [some x0, some x1, none] S) := (rfl)
theorem xN {x0 x1 : Vl} {S : aJ} : hL [x0, x1] S = bO (hR [some x0, some x1, none] S) := (rfl)
theorem yT {x0 : Vl} {S : aJ} : iH [x0] S = bO (iM [some x0, none] S) := (rfl)
theorem B6 {x0 x1 x2 : Vl} {S : aJ} : dQ [x0, x1, x2] S = trunc S.length (bO (kE [some x0, some x1, some x2, none, none, none] S)) := (rfl)
theorem BM {x0 x1 : Vl} {S : aJ} : iT [x0, x1] S = trunc S.length (bO (lF [some x0, some x1, none, none, none] S)) := (rfl)
theorem E_ran {x0 x1 x2 x3 : Vl} {S : aJ} : G9 [x0, x1, x2, x3] S = bO (Gc [some x0, some x1, some x2, some x3, none, none, none, none] S) := (rfl)
def BL : FS :=
 (aR (cH (Np (dG "Graph" "edges" (aB 0)) (jM true aL)))
 (aR (cH (Np (dG "Graph" "users" (aB 0)) (jM true aL)))
 (bU (aS vC (m1 fLenV (dG "Graph" "edges" (aB 0))) (mC (.int 1))))))
def lB : FD := run 1 1 BL
def BC : FS :=
 (jK [5, 6] (cH (jN (aS Hv (dG "Graph" "users" (aB 0)) (aB 5)) (cK (aD (aB 1) (aD (aB 3) (aD (aB 6) aL)))))))
def EN : FS :=
 (aR (cH (jN (aS Hv (dG "Graph" "edges" (aB 0)) (aB 1)) (cK (aD (mC (.str "unit")) (aD (aB 2) (aD (aB 3) (aD (aB 4) aL)))))))
 (uB (mZipT (aB 2) (aB 4)) (.tp [5, 6]) BC))
def zE : FD := run 7 5 EN
def sF (f_Graph_statement_point : FD) : FS :=
 (jK [5] (cF (fM "Graph" "statement_point" (f_Graph_statement_point) (aB 0) (aD (aB 5) (aD (aB 4) (aD (aB 3) aL)))) (.nm 4)))
def vH (f_Graph_statement_point : FD) : FS :=
 (aR (cF (aB 2) (.nm 4))
 (aR (uB (Nm (m1 (Ka false) (aB 1))) (.nm 5) (sF (f_Graph_statement_point)))
 (bU (aB 4))))
def oF (f_Graph_list_point : FD) : FS :=
 (jK [6] (cH (jN (aS Hv (dG "Graph" "edges" (aB 0)) (aB 5)) (cK (aD (mC (.str "bit")) (aD (aB 6) (aD (fM "Graph" "list_point" (f_Graph_list_point) (aB 0) (aD (aS bQ (aB 1) (aS (eR false) (mC (.int 1)) (aB 6))) (aD (aB 2) (aD (aB 3) aL)))) aL)))))))
def oG (f_Graph_list_point : FD) : FE :=
 (fM "Graph" "list_point" (f_Graph_list_point) (aB 0) (aD (aB 9) (aD (aB 2) (aD (aB 3) aL))))
def qE (f_Graph_list_point : FD) : FS :=
 (aR (cF (aS bQ (aB 1) (mC (.int 0))) (.nm 4))
 (aR (bS (mB (aS hW (aB 4) (mC (.str "end")))) (bU (aS bQ (aB 3) (aS bQ (aB 1) (mC (.int 1))))) bK)
 (aR (cF (fM "Graph" "point" lB (aB 0) aL) (.nm 5))
 (aR (bS (cY (bB cQ (aD (aB 1) aL))) (cH (jN (aS Hv (dG "Graph" "edges" (aB 0)) (aB 5)) (cK (aD (mC (.str "command")) (aD (bB lP (aD (aB 1) aL)) (aD (aB 2) aL)))))) (bS (mB (aS hW (aB 4) (mC (.str "either")))) (uB (jS (mC (.int 2))) (.nm 6) (oF (f_Graph_list_point))) (bS (mB (aS hW (aB 4) (mC (.str "again")))) (aR (cH (jN (aS Hv (dG "Graph" "edges" (aB 0)) (aB 5)) (cK (aD (mC (.str "bit")) (aD (mC (.int 0)) (aD (aB 2) aL))))))
 (cH (jN (aS Hv (dG "Graph" "edges" (aB 0)) (aB 5)) (cK (aD (mC (.str "bit")) (aD (mC (.int 1)) (aD (fM "Graph" "list_point" (f_Graph_list_point) (aB 0) (aD (aS bQ (aB 1) (mC (.int 1))) (aD (aB 5) (aD (aB 3) aL)))) aL))))))) (bS (mB (aS hW (aB 4) (mC (.str "keep")))) (aR (cF (cK (aD (fM "Graph" "point" lB (aB 0) aL) (aD (fM "Graph" "point" lB (aB 0) aL) (aD (fM "Graph" "point" lB (aB 0) aL) aL)))) (.nm 7))
 (aR (cH (jN (dG "Graph" "starts" (aB 0)) (fM "Graph" "list_point" (f_Graph_list_point) (aB 0) (aD (aS bQ (aB 1) (mC (.int 1))) (aD (aS bQ (aB 7) (mC (.int 0))) (aD (cK (aD (aS bQ (aB 7) (mC (.int 1))) (aD (aS bQ (aB 7) (mC (.int 2))) aL))) aL))))))
 (cH (fM "Graph" "use" zE (aB 0) (aD (aB 5) (aD (aB 7) (aD (mC (.bl true)) (aD (cK (aD (aB 2) (aD (aS bQ (aB 3) (mC (.int 0))) (aD (aS bQ (aB 3) (mC (.int 1))) aL)))) aL)))))))) (aR (cF (BH false (pV (aS bQ (aB 1) (mC (.int 3)))) (.nm 9) gX (oG (f_Graph_list_point)) [9]) (.nm 8))
 (cH (fM "Graph" "use" zE (aB 0) (aD (aB 5) (aD (aS bQ (dG "Graph" "exits" (aB 0)) (aS bQ (aB 1) (mC (.int 1)))) (aD (aS bQ (aB 1) (mC (.int 2))) (aD (m1 fTuple (aB 8)) aL)))))))))))
 (bU (aB 5))))))
def uX : Nat -> FD × FD
 | 0 => (sH, sH)
 | n + 1 => let r := uX n
  (run 6 4 (vH r.2), run 10 4 (qE r.1))
def xF : FS :=
 (bU (iO (m1 (fIsi "int") (aB 0)) (GD (m1 (fIsi "bool") (aB 0)))))
def qR : FD := run 1 1 xF
def xE : FS :=
 (bU (iO (bB qR (aD (aB 0) aL)) (iD Eh KZ (mC (.int 0)) (aB 0) (aB 1))))
def sS : FD := run 2 2 xE
def mX (f_L_same_2 : FD) : FE :=
 (bB (f_L_same_2) (aD (aS bQ (aB 0) (aB 2)) (aD (aS bQ (aB 1) (aB 2)) aL)))
def rH (f_L_same_2 : FD) : FS :=
 (aR (bS (cY (m1 (fIsi2 "list" "tuple") (aB 1))) (aR (bS (Ac (iU (cY (m1 (fIsi2 "list" "tuple") (aB 0)))) (mB (aS GT (m1 (fIsi "list") (aB 0)) (m1 (fIsi "list") (aB 1))))) (bU (mC (.bl false))) bK)
 (bU (iO (aS hW (m1 eY (aB 0)) (m1 eY (aB 1))) (m1 yN (BH false (jS (m1 eY (aB 1))) (.nm 2) gX (mX (f_L_same_2)) [2]))))) bK)
 (aR (bS (Ac (cY (m1 (fIsi "bool") (aB 0))) (cY (m1 (fIsi "bool") (aB 1)))) (bU (iO (m1 (fIsi "bool") (aB 0)) (iO (m1 (fIsi "bool") (aB 1)) (aS hW (aB 0) (aB 1))))) bK)
 (aR (bS (cY (m1 (fIsi "int") (aB 1))) (bU (iO (m1 (fIsi "int") (aB 0)) (aS hW (aB 0) (aB 1)))) bK)
 (aR (bS (cY (m1 (fIsi "str") (aB 1))) (bU (iO (m1 (fIsi "str") (aB 0)) (aS hW (aB 0) (aB 1)))) bK)
 (bU (iO (aS (Aq false) (aB 0) (mC .non)) (aS (Aq false) (aB 1) (mC .non))))))))
def jD : Nat -> FD
 | 0 => sH
 | n + 1 => run 3 2 (rH (jD n))
theorem Gg {x0 : Vl} {S : aJ} : qR [x0] S = bO (xF [some x0] S) := (rfl)
theorem L5 {x0 x1 : Vl} {S : aJ} : sS [x0, x1] S = bO (xE [some x0, some x1] S) := (rfl)
theorem Fn {n : Nat} {x0 x1 : Vl} {S : aJ} : jD (n + 1) [x0, x1] S = bO ((rH (jD n)) [some x0, some x1, none] S) := (rfl)
def lY : FS :=
 (bS (iU (cY (bB lQ (aD (aB 0) aL)))) (nR "NoPen") bK)
def jI : FD := run 1 1 lY
def xG : FS :=
 (aR (cH (bB jI (aD (aB 0) aL)))
 (aR (bS (iU (cY (bB cQ (aD (aB 1) aL)))) (nR "NoCommand") bK)
 (bU (bB jB (aD (aB 0) (aD (aB 1) aL))))))
def tS : FD := run 2 2 xG
def yS : L4 :=
 (GA (cF (bB dQ (aD (aB 0) (aD (aB 1) (aD (aB 2) aL)))) (.tp [4, 5]))
 (GA (bS (iU (cY (bB lQ (aD (aB 3) aL)))) (nR "NoPen") bK)
 (GA (cF (bB iT (aD (aB 5) (aD (aB 3) aL))) (.tp [6, 7]))
 (mYf (aB 6)))))
def Bb : FDG := runG 8 4 yS
theorem zP {x0 : Vl} {S : aJ} : jI [x0] S = bO (lY [some x0] S) := (rfl)
theorem Gh {x0 x1 : Vl} {S : aJ} : tS [x0, x1] S = bO (xG [some x0, some x1] S) := (rfl)
theorem ID {x0 x1 x2 x3 : Vl} {S : aJ} : Bb [x0, x1, x2, x3] S = yS [some x0, some x1, some x2, some x3, none, none, none, none] S := (rfl)
def iF : FS :=
 (aR (kO "Live" "place" (aB 0) (Ca false (aB 1) (gH (mC (.int 0))) (gH (mC (.int 2)))))
 (aR (kO "Live" "heading" (aB 0) (Ca false (aB 1) (gH (mC (.int 2))) (gH (mC (.int 4)))))
 (kO "Live" "mark" (aB 0) (Ca false (aB 1) (gH (mC (.int 4))) (gH (mC (.int 6)))))))
def eQ : FD := run 2 2 iF
def lZ : FS :=
 (aR (cH (bB jI (aD (aB 2) aL)))
 (aR (kO "Live" "book" (aB 0) (aB 1))
 (cH (fM "Live" "move_to" eQ (aB 0) (aD (aB 2) aL)))))
def dU : FD := run 3 3 lZ
def rG : FS :=
 (bU (aS (eR false) (aS (eR false) (dG "Live" "place" (aB 0)) (dG "Live" "heading" (aB 0))) (dG "Live" "mark" (aB 0))))
def jC : FD := run 1 1 rG
def eV : FS :=
 (aR (bS (iU (cY (bB sS (aD (aB 1) (aD (mC (.int 3)) aL))))) (nR "NoPart") bK)
 (aR (bS (Ac (iU (cY (m1 (fIsi "tuple") (aB 2)))) (mB (aS GT (m1 eY (aB 2)) (mC (.int 2))))) (nR "NoNumber") bK)
 (aR (bS (Ac (iU (cY (bB qR (aD (aS bQ (aB 2) (mC (.int 0))) aL)))) (iU (cY (bB qR (aD (aS bQ (aB 2) (mC (.int 1))) aL))))) (nR "NoNumber") bK)
 (bS (mB (aS hW (aB 1) (mC (.int 0)))) (kO "Live" "place" (aB 0) (aB 2)) (bS (mB (aS hW (aB 1) (mC (.int 1)))) (kO "Live" "heading" (aB 0) (aB 2)) (kO "Live" "mark" (aB 0) (aB 2)))))))
def aT : FD := run 3 3 eV
def oZ : FS :=
 (aR (cH (fM "Live" "move_to" eQ (aB 0) (aD (bB tS (aD (m1 (zI "Live" jC) (aB 0)) (aD (aB 1) aL))) aL)))
 (bU (aB 0)))
def lR : FD := run 2 2 oZ
def pA : FS :=
 (aR (cF (F6 3 G9 (aD (dG "Live" "book" (aB 0)) (aD (aB 1) (aD (aB 2) aL))) (m1 (zI "Live" jC) (aB 0))) (.nm 3))
 (aR (cH (fM "Live" "move_to" eQ (aB 0) (aD (aS bQ (aB 3) (mC (.int 1))) aL)))
 (bU (aS bQ (aB 3) (mC (.int 0))))))
def oP : FD := run 4 3 pA
def tN : FS :=
 (aR (bS (Ac (iU (cY (m1 (fIsi "int") (aB 0)))) (cY (m1 (fIsi "bool") (aB 0)))) (bU (mC (.bl false))) bK)
 (bU (iD Eh KZ (mC (.int 0)) (aB 0) (aB 1))))
def zD : FD := run 2 2 tN
theorem tO {x0 x1 : Vl} {S : aJ} : eQ [x0, x1] S = bO (iF [some x0, some x1] S) := (rfl)
theorem zQ {x0 x1 x2 : Vl} {S : aJ} : dU [x0, x1, x2] S = bO (lZ [some x0, some x1, some x2] S) := (rfl)
theorem Fm {x0 : Vl} {S : aJ} : jC [x0] S = bO (rG [some x0] S) := (rfl)
theorem kG {x0 x1 x2 : Vl} {S : aJ} : aT [x0, x1, x2] S = bO (eV [some x0, some x1, some x2] S) := (rfl)
theorem Ea {x0 x1 : Vl} {S : aJ} : lR [x0, x1] S = bO (oZ [some x0, some x1] S) := (rfl)
theorem Eb {x0 x1 x2 : Vl} {S : aJ} : oP [x0, x1, x2] S = bO (pA [some x0, some x1, some x2, none] S) := (rfl)
theorem Ec {x0 x1 : Vl} {S : aJ} : zD [x0, x1] S = bO (tN [some x0, some x1] S) := (rfl)
def rJ : FS :=
 (aR (Be (fun x y => x + y) (aB 0) (mC (.int 0)) (mC (.int 1)))
 (aR (cF (aS (eR false) (mC (.int 1)) (aS Ap (m1 zZ (aS bQ (aB 0) (mC (.int 0)))) (aS vC (m1 eY (aB 0)) (mC (.int 1))))) (.nm 2))
 (aR (cF (m1 zZ (aS bQ (aB 0) (aB 2))) (.nm 3))
 (aR (bS (mB (aS fGe (aB 3) (aS vD (mC (.int 10)) (mC (.int 18))))) (aR (GB (aS yL (aB 3) (aB 1)) (aB 0) (aB 2))
 (bU (aS Ap (aB 3) (aB 1)))) bK)
 (aR (cF (aS Ap (aS mK (m1 zZ (aS (eR false) (aS (eR false) (aB 3) (aS mK (mC (.int 7919)) (aS bQ (aB 0) (mC (.int 0))))) (mC (.int 1)))) (mC (.int 48271))) (mC (.int 2147483647))) (.nm 4))
 (aR (cF (aS Ap (aS mK (aB 4) (aS (eR false) (aS Bx (aB 4) (mC (.int 1009))) (mC (.int 69621)))) (mC (.int 2147483647))) (.nm 4))
 (aR (cF (aS Ap (aS mK (aB 4) (aS (eR false) (aS Bx (aB 4) (mC (.int 2003))) (mC (.int 40692)))) (mC (.int 2147483399))) (.nm 4))
 (bU (aS Ap (aS Bx (aB 4) (mC (.int 11))) (aB 1))))))))))
def eA : FD := run 5 2 rJ
def mZ : FS :=
 (aR (cF (bB eA (aD (aB 0) (aD (mC (.int 4)) aL))) (.nm 1))
 (aR (bS (mB (aS hW (aB 1) (mC (.int 0)))) (bU (aS vC (bB eA (aD (aB 0) (aD (mC (.int 19)) aL))) (mC (.int 9)))) bK)
 (aR (bS (mB (aS hW (aB 1) (mC (.int 1)))) (bU (aS vC (bB eA (aD (aB 0) (aD (aS (eR false) (aS mK (mC (.int 2)) (aS vD (mC (.int 10)) (mC (.int 8)))) (mC (.int 1))) aL))) (aS vD (mC (.int 10)) (mC (.int 8))))) bK)
 (aR (bS (mB (aS hW (aB 1) (mC (.int 2)))) (bU (aS (eR false) (aS mK (aS vC (bB eA (aD (aB 0) (aD (aS (eR false) (aS mK (mC (.int 2)) (aS vD (mC (.int 10)) (mC (.int 8)))) (mC (.int 1))) aL))) (aS vD (mC (.int 10)) (mC (.int 8)))) (aS vD (mC (.int 10)) (mC (.int 31)))) (bB eA (aD (aB 0) (aD (aS vD (mC (.int 10)) (mC (.int 8))) aL))))) bK)
 (bU (aS vC (bB eA (aD (aB 0) (aD (aS (eR false) (aS mK (mC (.int 2)) (aS vD (mC (.int 10)) (mC (.int 40)))) (mC (.int 1))) aL))) (aS vD (mC (.int 10)) (mC (.int 40)))))))))
def gL : FD := run 2 1 mZ
def xI : FS :=
 (aR (lS "Live" aT (aS bQ (aB 1) (mC (.int 0))) (aB 0) (mC (.int 2)))
 (aR (lS "Live" aT (aS bQ (aB 1) (mC (.int 1))) (aB 0) (mC (.int 0)))
 (aR (lS "Live" aT (aS bQ (aB 1) (mC (.int 2))) (aB 0) (mC (.int 1)))
 (aR (bS (mB (aS hW (aB 2) (mC (.int 1)))) (Cb "Live" lR 0 (cK (aD (mC (.str "go")) (aD (aS (eR false) (mC (.int 10)) (aS mK (aS bQ (aS bQ (aB 1) (mC (.int 0))) (mC (.int 0))) (aS bQ (aS bQ (aB 1) (mC (.int 0))) (mC (.int 0))))) aL)))) (bS (mB (aS hW (aB 2) (mC (.int 2)))) (lS "Live" aT (aS bQ (aB 1) (mC (.int 1))) (aB 0) (mC (.int 3))) (bS (mB (aS hW (aB 2) (mC (.int 3)))) (cH (Cc "Live" oP 0 (aD (mC (.int 0)) (aD (jM false (aD (mC (.int 0)) aL)) aL)))) (bS (mB (aS hW (aB 2) (mC (.int 4)))) (bU (aS Ar (aS bQ (aS bQ (aB 1) (mC (.int 0))) (mC (.int 0))) (aS vC (aS bQ (aS bQ (aB 1) (mC (.int 1))) (mC (.int 1))) (aS bQ (aS bQ (aB 1) (mC (.int 1))) (mC (.int 1)))))) (bS (mB (aS hW (aB 2) (mC (.int 5)))) (aR (cF JM (.nm 3))
 (bU (aS yM (aB 3) (aS bQ (aS bQ (aB 1) (mC (.int 0))) (mC (.int 0)))))) bK)))))
 (bU (aS bQ (aB 1) (mC (.int 3))))))))
def wH : FD := run 4 3 xI
def mE (f_L_wrapped : FD) : FS :=
 (aR (bS (mB (aS hW (aB 3) (mC (.int 0)))) (bU (bB wH (aD (aB 0) (aD (aB 1) (aD (aB 2) aL))))) bK)
 (aR (cF (uE 0 "Live" "_law_wrapped" "_law_wrapped.<locals>.<lambda>" (aB 0) (bB (f_L_wrapped) (aD (aB 5) (aD (aB 1) (aD (aB 2) (aD (aS vC (aB 3) (mC (.int 1))) aL)))))) (.nm 4))
 (aR (lS "Live" aT (aS bQ (aB 1) (mC (.int 2))) (aB 0) (mC (.int 1)))
 (bU (aB 4)))))
def cW : Nat -> FD
 | 0 => sH
 | n + 1 => run 5 4 (mE (cW n))
def tW : FS :=
 (aR (cF (mC (.int 0)) (.nm 6))
 (aR (cF (mC .non) (.nm 7))
 (aR (Df ["NoBook", "NoCommand", "NoNumber", "NoPart", "NoPath", "NoPen", "NoProcedure", "NoRun", "KeyError", "ZeroDivisionError"] (bS (cY (aB 5)) (cF (uE 1 "Live" "_law_tried" "_law_tried.<locals>.<lambda>" (aB 0) (bB (cW 3) (aD (aB 1) (aD (aB 2) (aD (aB 3) (aD (aB 4) aL)))))) (.nm 7)) (cF (uE 1 "Live" "_law_tried" "_law_tried.<locals>.<lambda>" (aB 0) (bB (cW 3) (aD (aB 9) (aD (aB 2) (aD (aB 3) (aD (aB 4) aL)))))) (.nm 7))) [("NoCommand", some 8, 6, .c (.int 1) (.int 1)), ("NoPart", some 8, 6, .c (.int 2) (.int 2)), ("NoRun", some 8, 6, .ne "index" 3 10), ("ZeroDivisionError", none, 6, .c (.int 4) (.int 4)), ("KeyError", none, 6, .c (.int 5) (.int 5))])
 (bU (cK (aD (aB 6) (aD (aB 7) aL)))))))
def tT : FD := run 9 6 tW
def lX : FE :=
 (cK (aD (bB gL (aD (aB 1) aL)) (aD (bB gL (aD (aB 1) aL)) aL)))
def lJ : FS :=
 (jK [5, 6, 7, 8, 9] (aR (cF (BH false (jS (mC (.int 4))) (.nm 10) gX lX [10]) (.nm 6))
 (aR (cF (bB eA (aD (aB 1) (aD (mC (.int 6)) aL))) (.nm 7))
 (aR (cF (bB tT (aD (aB 2) (aD (aB 3) (aD (aB 6) (aD (aB 7) (aD (bB eA (aD (aB 1) (aD (mC (.int 3)) aL))) (aD (aS hW (bB eA (aD (aB 1) (aD (mC (.int 2)) aL))) (mC (.int 0))) aL))))))) (.nm 8))
 (aR (cF (cK (aD (aB 7) (aD (mC .non) aL))) (.nm 9))
 (aR (bS (mB (aS hW (aB 7) (mC (.int 0)))) (cF (cK (aD (mC (.int 0)) (aD (aS bQ (aB 6) (mC (.int 3))) aL))) (.nm 9)) bK)
 (aR (bS (iU (cY (bB (jD 20) (aD (aB 8) (aD (aB 9) aL))))) (bU (mC (.bl false))) bK)
 (bS (iU (cY (bB (jD 20) (aD (m1 (zI "Live" jC) (aB 2)) (aD (aS (eR false) (Ca false (aB 4) zX (gH (mC (.int 4)))) (aS bQ (aB 6) (mC (.int 0)))) aL))))) (bU (mC (.bl false))) bK))))))))
def qB : FS :=
 (aR (cF (bB nP (aD (aB 0) aL)) (.nm 1))
 (aR (cF (yD true "Live" dU Az (aD (Ad false "Book" eK (aD (jM false (aD (jM false (aD (cK (aD (mC (.str "mark")) aL)) aL)) aL)) aL)) aL)) (.nm 2))
 (aR (cF (aB 2) (.nm 3))
 (aR (cF (m1 fTuple (BH false (jS (mC (.int 6))) (.nm 10) gX (bB gL (aD (aB 1) aL)) [10])) (.nm 4))
 (aR (lS "Live" aT (Ca false (aB 4) zX (gH (mC (.int 2)))) (aB 2) (mC (.int 0)))
 (aR (lS "Live" aT (Ca false (aB 4) (gH (mC (.int 2))) (gH (mC (.int 4)))) (aB 2) (mC (.int 1)))
 (aR (lS "Live" aT (Ca false (aB 4) (gH (mC (.int 4))) zX) (aB 2) (mC (.int 2)))
 (aR (uB (jS (mC (.int 3))) (.nm 5) lJ)
 (bU (mC (.bl true)))))))))))
def m_law_k96 : FD := Eu 11 1 qB
theorem DC {x0 : Vl} {S : aJ} : gL [x0] S = bO (mZ [some x0, none] S) := (rfl)
theorem L7 {x0 x1 x2 : Vl} {S : aJ} : wH [x0, x1, x2] S = bO (xI [some x0, some x1, some x2, none] S) := (rfl)
theorem zR {n : Nat} {x0 x1 x2 x3 : Vl} {S : aJ} : cW (n + 1) [x0, x1, x2, x3] S = bO ((mE (cW n)) [some x0, some x1, some x2, some x3, none] S) := (rfl)
theorem IF {x0 x1 x2 x3 x4 x5 : Vl} {S : aJ} : tT [x0, x1, x2, x3, x4, x5] S = bO (tW [some x0, some x1, some x2, some x3, some x4, some x5, none, none, none] S) := (rfl)
theorem IE {x0 : Vl} {S : aJ} : m_law_k96 [x0] S = trunc S.length (bO (qB [some x0, none, none, none, none, none, none, none, none, none, none] S)) := (rfl)
end PH
namespace PHZ
open PH PySem PySem.Spec PyProof.Rows L2
theorem BE : FnScope ["value"] ["value"] (defScope qM) := ⟨rfl, rfl, rfl, by decide +kernel, rfl, by decide +kernel, by decide +kernel⟩
theorem HA : FnScope ["value"] ["value"] (defScope AM) := ⟨rfl, rfl, rfl, by decide +kernel, rfl, by decide +kernel, by decide +kernel⟩
theorem H9 : FnScope ["value", "number"] ["value"] (defScope vV) := ⟨rfl, rfl, rfl, by decide +kernel, rfl, by decide +kernel, by decide +kernel⟩
theorem BF : FnScope ["value", "many", "low", "high", "number"] ["value"] (defScope mS) := ⟨rfl, rfl, rfl, by decide +kernel, rfl, by decide +kernel, by decide +kernel⟩
theorem DP : FnScope ["pen", "command", "x", "y", "u", "v", "p", "q", "word", "step"] ["pen", "command"] (defScope uS) := ⟨rfl, rfl, rfl, by decide +kernel, rfl, by decide +kernel, by decide +kernel⟩
theorem CH : FnScope ["pen"] ["pen"] (defScope sM) := ⟨rfl, rfl, rfl, by decide +kernel, rfl, by decide +kernel, by decide +kernel⟩
theorem Iq : FnScope ["pen", "command"] ["pen", "command"] (defScope CN) := ⟨rfl, rfl, rfl, by decide +kernel, rfl, by decide +kernel, by decide +kernel⟩
theorem CI : FnScope ["statement", "word"] ["statement"] (defScope sN) := ⟨rfl, rfl, rfl, by decide +kernel, rfl, by decide +kernel, by decide +kernel⟩
theorem AH : FnScope ["statement", "blocks", "word"] ["statement", "blocks"] (defScope pF) := ⟨rfl, rfl, rfl, by decide +kernel, rfl, by decide +kernel, by decide +kernel⟩
theorem rM : FnScope ["block", "statement"] ["block"] (defScope jQ) := ⟨rfl, rfl, rfl, by decide +kernel, rfl, by decide +kernel, by decide +kernel⟩
theorem mM : FnScope ["statement", "block"] ["statement"] (defScope gJ) := ⟨rfl, rfl, rfl, by decide +kernel, rfl, by decide +kernel, by decide +kernel⟩
theorem AI : FnScope ["value", "level", "many", "word"] ["value", "level", "many"] (defScope pG) := ⟨rfl, rfl, rfl, by decide +kernel, rfl, by decide +kernel, by decide +kernel⟩
theorem sL : FnScope ["block", "level", "many", "path", "met", "at", "statement", "here", "number", "inner", "fault"] ["block", "level", "many", "path", "met"] (defScope pI) := ⟨rfl, rfl, rfl, by decide +kernel, rfl, by decide +kernel, by decide +kernel⟩
theorem CL : FnScope ["self", "bodies", "procedure", "body", "fault", "met"] ["self", "bodies"] (defScope jH) := ⟨rfl, rfl, rfl, by decide +kernel, rfl, by decide +kernel, by decide +kernel⟩
theorem DR : FnScope ["self"] ["self"] (defScope nL) := ⟨rfl, rfl, rfl, by decide +kernel, rfl, by decide +kernel, by decide +kernel⟩
theorem AK : FnScope ["self", "body"] ["self"] (defScope gZ) := ⟨rfl, rfl, rfl, by decide +kernel, rfl, by decide +kernel, by decide +kernel⟩
theorem xW : FnScope ["book", "procedure"] ["book", "procedure"] (defScope mG) := ⟨rfl, rfl, rfl, by decide +kernel, rfl, by decide +kernel, by decide +kernel⟩
theorem vT : FnScope ["self", "bodies", "bits", "body"] ["self", "bodies", "bits"] (defScope eL) := ⟨rfl, rfl, rfl, by decide +kernel, rfl, by decide +kernel, by decide +kernel⟩
theorem vR : FnScope ["self"] ["self"] (defScope fY) := ⟨rfl, rfl, rfl, by decide +kernel, rfl, by decide +kernel, by decide +kernel⟩
theorem uQ : FnScope ["self", "procedure", "statement", "earlier"] ["self", "procedure", "statement"] (defScope fH) := ⟨rfl, rfl, rfl, by decide +kernel, rfl, by decide +kernel, by decide +kernel⟩
theorem uP : FnScope ["self", "procedure", "statement", "way"] ["self", "procedure", "statement", "way"] (defScope fG) := ⟨rfl, rfl, rfl, by decide +kernel, rfl, by decide +kernel, by decide +kernel⟩
theorem tZ : FnScope ["self", "way", "task"] ["self", "way"] (defScope eP) := ⟨rfl, rfl, rfl, by decide +kernel, rfl, by decide +kernel, by decide +kernel⟩
theorem uR : FnScope ["self", "statement", "word"] ["self", "statement"] (defScope fJ) := ⟨rfl, rfl, rfl, by decide +kernel, rfl, by decide +kernel, by decide +kernel⟩
theorem vS : FnScope ["self", "task"] ["self"] (defScope fZ) := ⟨rfl, rfl, rfl, by decide +kernel, rfl, by decide +kernel, by decide +kernel⟩
theorem zT : FnScope ["book", "procedure", "bits", "index", "bit", "execution"] ["book", "procedure", "bits"] (defScope nK) := ⟨rfl, rfl, rfl, by decide +kernel, rfl, by decide +kernel, by decide +kernel⟩
theorem AJ : FnScope ["deeds", "pen", "pens", "held", "deed"] ["deeds", "pen"] (defScope pH) := ⟨rfl, rfl, rfl, by decide +kernel, rfl, by decide +kernel, by decide +kernel⟩
theorem sc_ran : FnScope ["book", "procedure", "bits", "pen", "way", "deeds", "pens", "last"] ["book", "procedure", "bits", "pen"] (defScope BX) := ⟨rfl, rfl, rfl, by decide +kernel, rfl, by decide +kernel, by decide +kernel⟩
theorem Ip : FnScope ["value"] ["value"] (defScope CM) := ⟨rfl, rfl, rfl, by decide +kernel, rfl, by decide +kernel, by decide +kernel⟩
theorem H8 : FnScope ["value", "bound"] ["value", "bound"] (defScope AL) := ⟨rfl, rfl, rfl, by decide +kernel, rfl, by decide +kernel, by decide +kernel⟩
theorem zV : FnScope ["self", "pen"] ["self", "pen"] (defScope iA) := ⟨rfl, rfl, rfl, by decide +kernel, rfl, by decide +kernel, by decide +kernel⟩
theorem sc_Live_init : FnScope ["self", "book", "pen"] ["self", "book", "pen"] (defScope jG) := ⟨rfl, rfl, rfl, by decide +kernel, rfl, by decide +kernel, by decide +kernel⟩
theorem sc_Live_pen : FnScope ["self"] ["self"] (defScope kU) := ⟨rfl, rfl, rfl, by decide +kernel, rfl, by decide +kernel, by decide +kernel⟩
theorem zU : FnScope ["self", "part", "value"] ["self", "part", "value"] (defScope hZ) := ⟨rfl, rfl, rfl, by decide +kernel, rfl, by decide +kernel, by decide +kernel⟩
theorem CJ : FnScope ["self", "command"] ["self", "command"] (defScope lM) := ⟨rfl, rfl, rfl, by decide +kernel, rfl, by decide +kernel, by decide +kernel⟩
theorem CK : FnScope ["self", "procedure", "bits", "told"] ["self", "procedure", "bits"] (defScope lN) := ⟨rfl, rfl, rfl, by decide +kernel, rfl, by decide +kernel, by decide +kernel⟩
theorem HD : FnScope ["_law_script", "_law_cell"] ["_law_script"] (defScope vW) := ⟨rfl, rfl, rfl, by decide +kernel, rfl, by decide +kernel, by decide +kernel⟩
theorem DQ : FnScope ["_law_pool_here", "_law_many", "_law_at", "_law_cell", "_law_number_here"] ["_law_pool_here", "_law_many"] (defScope uT) := ⟨rfl, rfl, rfl, by decide +kernel, rfl, by decide +kernel, by decide +kernel⟩
theorem yX : FnScope ["_law_one", "_law_other", "_law_k"] ["_law_one", "_law_other"] (defScope qN) := ⟨rfl, rfl, rfl, by decide +kernel, rfl, by decide +kernel, by decide +kernel⟩
theorem BG : FnScope ["_law_pool_here", "_law_kind"] ["_law_pool_here"] (defScope qO) := ⟨rfl, rfl, rfl, by decide +kernel, rfl, by decide +kernel, by decide +kernel⟩
theorem HC : FnScope ["_law_live", "_law_rows", "_law_kind", "_law_empty"] ["_law_live", "_law_rows", "_law_kind"] (defScope AN) := ⟨rfl, rfl, rfl, by decide +kernel, rfl, by decide +kernel, by decide +kernel⟩
theorem vQ : FnScope ["_law_live", "_law_rows", "_law_kind", "_law_depth", "_law_found"] ["_law_live", "_law_rows", "_law_kind", "_law_depth"] (defScope oJ) := ⟨rfl, rfl, rfl, by decide +kernel, rfl, by decide +kernel, by decide +kernel⟩
theorem Em : FnScope ["_law_live", "_law_other", "_law_rows", "_law_kind", "_law_depth", "_law_outer", "_law_sort", "_law_value", "e"] ["_law_live", "_law_other", "_law_rows", "_law_kind", "_law_depth", "_law_outer"] (defScope pU) := ⟨rfl, rfl, rfl, by decide +kernel, rfl, by decide +kernel, by decide +kernel⟩
theorem sc_law_k96 : FnScope ["_law_script", "_law_pool_here", "_law_live", "_law_other", "_law_start", "_law_turn", "_law_rows", "_law_kind", "_law_told", "_law_due", "_law_k"] ["_law_script"] (defScope nE) := ⟨rfl, rfl, rfl, by decide +kernel, rfl, by decide +kernel, by decide +kernel⟩
theorem qL : FnScope kN kP (defScope lL) := ⟨rfl, rfl, rfl, by decide +kernel, rfl, by decide +kernel, by decide +kernel⟩
theorem El : FnScope ["self", "procedure", "path"] ["self", "procedure", "path"] (defScope pS) := ⟨rfl, rfl, rfl, by decide +kernel, rfl, by decide +kernel, by decide +kernel⟩
theorem H7 : FnScope ["self", "index"] ["self", "index"] (defScope sJ) := ⟨rfl, rfl, rfl, by decide +kernel, rfl, by decide +kernel, by decide +kernel⟩
theorem Iz {K : aA} {Bk : Addr -> Prop} {H : Hp} : RepL K Bk H  [.int 0, .int 0, .int 1, .int 0, .int 0, .int 0] (List.map (He.Dv.v K) [.int 0, .int 0, .int 1, .int 0, .int 0, .int 0]) := by simp [RepL, Rep, He.Dv.v]
structure Txt (w : World) (K : aA) (mg : Str -> Option Value) : Prop where
 n_isinstance : mg "isinstance" = none
 n_int : mg "int" = none
 n_bool : mg "bool" = none
 n_tuple : mg "tuple" = none
 n_len : mg "len" = none
 n_all : mg "all" = none
 n_str : mg "str" = none
 lim : Lim K
 k_LIMITS : ∃ es n, KDict K w (He.ga K "LIMITS") es n
 g_LIMITS : mg "LIMITS" = some (.ref (He.ga K "LIMITS"))
 n_range : mg "range" = none
 x_NoPen : XcF K mg "NoPen"
 x_NoCommand : XcF K mg "NoCommand"
 i_DEEPEST : ∃ t, mg "DEEPEST" = some (.int 3 t)
 n_list : mg "list" = none
 n_enumerate : mg "enumerate" = none
 i_MOST_IN_LIST : ∃ t, mg "MOST_IN_LIST" = some (.int 8 t)
 i_MOST_IN_PROCEDURE : ∃ t, mg "MOST_IN_PROCEDURE" = some (.int 12 t)
 i_MOST_PROCEDURES : ∃ t, mg "MOST_PROCEDURES" = some (.int 3 t)
 xa_NoBook : XaF K mg "NoBook" ["procedure", "path"]
 fx_NoBook : B5 K "NoBook" "__init__" "NoBook.__init__" pS
 c_Book : Cls K (He.ga K "Book")
 a_Book_own : NoAttr K (He.ga K "Book") "own"
 c_Execution : Cls K (He.ga K "Execution")
 a_Execution_own : NoAttr K (He.ga K "Execution") "own"
 a_Execution_bits : NoAttr K (He.ga K "Execution") "bits"
 a_Execution_taken : NoAttr K (He.ga K "Execution") "taken"
 a_Execution_deeds : NoAttr K (He.ga K "Execution") "deeds"
 a_Execution_stack : NoAttr K (He.ga K "Execution") "stack"
 a_Execution_active : NoAttr K (He.ga K "Execution") "active"
 a_Execution_ended : NoAttr K (He.ga K "Execution") "ended"
 xa_NoRun : XaF K mg "NoRun" ["index"]
 fx_NoRun : B5 K "NoRun" "__init__" "NoRun.__init__" sJ
 x_NoProcedure : XcF K mg "NoProcedure"
 T_Execution : ClF K mg "Execution"
 c_Live : Cls K (He.ga K "Live")
 a_Live_place : NoAttr K (He.ga K "Live") "place"
 a_Live_heading : NoAttr K (He.ga K "Live") "heading"
 a_Live_mark : NoAttr K (He.ga K "Live") "mark"
 a_Live_book : NoAttr K (He.ga K "Live") "book"
 x_NoPart : XcF K mg "NoPart"
 x_NoNumber : XcF K mg "NoNumber"
 nq_Live : pQ K (He.ga K "Live") = true
 sf_Live : xS K (He.ga K "Live") = true
 n_KeyError : mg "KeyError" = none
 n_ZeroDivisionError : mg "ZeroDivisionError" = none
 g_NoRun : mg "NoRun" = some (.ref (He.ga K "NoRun"))
 g_NoPart : mg "NoPart" = some (.ref (He.ga K "NoPart"))
 g_NoCommand : mg "NoCommand" = some (.ref (He.ga K "NoCommand"))
 xmb : XMb K ["NoBook", "NoCommand", "NoNumber", "NoPart", "NoPath", "NoPen", "NoProcedure", "NoRun", "KeyError", "ZeroDivisionError"]
 T_Book : ClF K mg "Book"
 T_Live : ClF K mg "Live"
 t_HOME : ∀ Bk H, Rep K Bk H Az (.ref (He.ga K "HOME"))
 G_is_integer : mg "is_integer" = some (.ref (He.ga K "is_integer"))
 f_is_integer : uM K "is_integer" qM
 G_is_bit : mg "is_bit" = some (.ref (He.ga K "is_bit"))
 f_is_bit : uM K "is_bit" AM
 G_is_pen : mg "is_pen" = some (.ref (He.ga K "is_pen"))
 f_is_pen : uM K "is_pen" vV
 G_is_command : mg "is_command" = some (.ref (He.ga K "is_command"))
 f_is_command : uM K "is_command" mS
 G_executed : mg "executed" = some (.ref (He.ga K "executed"))
 f_executed : uM K "executed" uS
 G_check_pen : mg "check_pen" = some (.ref (He.ga K "check_pen"))
 f_check_pen : uM K "check_pen" sM
 G_moved : mg "moved" = some (.ref (He.ga K "moved"))
 f_moved : uM K "moved" CN
 G_blocks_of : mg "blocks_of" = some (.ref (He.ga K "blocks_of"))
 f_blocks_of : uM K "blocks_of" sN
 G_with_blocks : mg "with_blocks" = some (.ref (He.ga K "with_blocks"))
 f_with_blocks : uM K "with_blocks" pF
 G_copied_block : mg "copied_block" = some (.ref (He.ga K "copied_block"))
 f_copied_block : uM K "copied_block" jQ
 G_copied_statement : mg "copied_statement" = some (.ref (He.ga K "copied_statement"))
 f_copied_statement : uM K "copied_statement" gJ
 G_well_formed : mg "well_formed" = some (.ref (He.ga K "well_formed"))
 f_well_formed : uM K "well_formed" pG
 G_first_fault : mg "first_fault" = some (.ref (He.ga K "first_fault"))
 f_first_fault : uM K "first_fault" pI
 M_Book_init : Meth K (He.ga K "Book") "__init__" (He.ma K (He.ga K "Book") "__init__")
 f_Book_init : B5 K "Book" "__init__" "Book.__init__" jH
 M_Book_len : Meth K (He.ga K "Book") "__len__" (He.ma K (He.ga K "Book") "__len__")
 f_Book_len : B5 K "Book" "__len__" "Book.__len__" nL
 M_Book_bodies : Meth K (He.ga K "Book") "bodies" (He.ma K (He.ga K "Book") "bodies")
 f_Book_bodies : B5 K "Book" "bodies" "Book.bodies" gZ
 G_has_procedure : mg "has_procedure" = some (.ref (He.ga K "has_procedure"))
 f_has_procedure : uM K "has_procedure" mG
 M_Execution_init : Meth K (He.ga K "Execution") "__init__" (He.ma K (He.ga K "Execution") "__init__")
 f_Execution_init : B5 K "Execution" "__init__" "Execution.__init__" eL
 M_Execution_take : Meth K (He.ga K "Execution") "take" (He.ma K (He.ga K "Execution") "take")
 f_Execution_take : B5 K "Execution" "take" "Execution.take" fY
 M_Execution_enter : Meth K (He.ga K "Execution") "enter" (He.ma K (He.ga K "Execution") "enter")
 f_Execution_enter : B5 K "Execution" "enter" "Execution.enter" fH
 M_Execution_leave : Meth K (He.ga K "Execution") "leave" (He.ma K (He.ga K "Execution") "leave")
 f_Execution_leave : B5 K "Execution" "leave" "Execution.leave" fG
 M_Execution_unwind : Meth K (He.ga K "Execution") "unwind" (He.ma K (He.ga K "Execution") "unwind")
 f_Execution_unwind : B5 K "Execution" "unwind" "Execution.unwind" eP
 M_Execution_begin : Meth K (He.ga K "Execution") "begin" (He.ma K (He.ga K "Execution") "begin")
 f_Execution_begin : B5 K "Execution" "begin" "Execution.begin" fJ
 M_Execution_step : Meth K (He.ga K "Execution") "step" (He.ma K (He.ga K "Execution") "step")
 f_Execution_step : B5 K "Execution" "step" "Execution.step" fZ
 G_executed_run : mg "executed_run" = some (.ref (He.ga K "executed_run"))
 f_executed_run : uM K "executed_run" nK
 G_pens_behind : mg "pens_behind" = some (.ref (He.ga K "pens_behind"))
 f_pens_behind : uM K "pens_behind" pH
 G_ran : mg "ran" = some (.ref (He.ga K "ran"))
 f_ran : FnK K "ran" BX "pen" (.ref (He.ga K "HOME"))
 G_whole : mg "whole" = some (.ref (He.ga K "whole"))
 f_whole : uM K "whole" CM
 G_within : mg "within" = some (.ref (He.ga K "within"))
 f_within : uM K "within" AL
 M_Live_move_to : Meth K (He.ga K "Live") "move_to" (He.ma K (He.ga K "Live") "move_to")
 f_Live_move_to : B5 K "Live" "move_to" "Live.move_to" iA
 f_Live_init : FnMK K "Live" "__init__" "Live.__init__" jG "pen" (.ref (He.ga K "HOME"))
 P_Live_pen : PropOf K (He.ga K "Live") "pen" (He.ma K (He.ga K "Live") "pen") (MM K "Live" "pen")
 f_Live_pen : OI K "Live" "pen" "Live.pen" kU
 M_Live_setitem : Meth K (He.ga K "Live") "__setitem__" (He.ma K (He.ga K "Live") "__setitem__")
 f_Live_setitem : B5 K "Live" "__setitem__" "Live.__setitem__" hZ
 M_Live_iadd : Meth K (He.ga K "Live") "__iadd__" (He.ma K (He.ga K "Live") "__iadd__")
 f_Live_iadd : B5 K "Live" "__iadd__" "Live.__iadd__" lM
 M_Live_call : Meth K (He.ga K "Live") "__call__" (He.ma K (He.ga K "Live") "__call__")
 f_Live_call : B5 K "Live" "__call__" "Live.__call__" lN
 G_L_pool : mg "_law_pool" = some (.ref (He.ga K "_law_pool"))
 f_L_pool : uM K "_law_pool" vW
 G_L_draw_2 : mg "_law_draw" = some (.ref (He.ga K "_law_draw"))
 f_L_draw_2 : uM K "_law_draw" uT
 G_L_same_2 : mg "_law_same" = some (.ref (He.ga K "_law_same"))
 f_L_same_2 : uM K "_law_same" qN
 G_L_number_3 : mg "_law_number" = some (.ref (He.ga K "_law_number"))
 f_L_number_3 : uM K "_law_number" qO
 G_L_work : mg "_law_work" = some (.ref (He.ga K "_law_work"))
 f_L_work : uM K "_law_work" AN
 G_L_wrapped : mg "_law_wrapped" = some (.ref (He.ga K "_law_wrapped"))
 f_L_wrapped : uM K "_law_wrapped" oJ
 G_L_tried : mg "_law_tried" = some (.ref (He.ga K "_law_tried"))
 f_L_tried : uM K "_law_tried" pU
 G_law_k96 : mg "law" = some (.ref (He.ga K "law"))
 f_law_k96 : uM K "law" nE
 M_Live_kept : Meth K (He.ga K "Live") "kept" (He.ma K (He.ga K "Live") "kept")
 f_Live_kept : B5 K "Live" "kept" "Live.kept" lL
 tnd : (uN K tds).Nodup
section
variable {P : Program} {w : World} {K : aA} {mg : Str -> Option Value} {base : Heap}
theorem xa_NoBook (T : Txt w K mg) : XcA P w K mg base 1 "NoBook" ["self", "procedure", "path"] (OQ (He.ga K "NoBook") "procedure" "path") :=
 JJ (m := "__init__") T.xa_NoBook T.fx_NoBook El Ia (fun _ _ _ _ _ _ us hl => match us, hl with | [_, _, _], _ => rfl) fun cdv A outer s H vs Q E hr hsp => by
  obtain ⟨a, y, z, e, ha, h⟩ := hsp;subst e;exact ⟨_, (pss_cons (ps_ost (cv 0) (cv 1)) (pss_one (ps_ost (cv 0) (cv 2)))), rd_X2 T.xa_NoBook (by simp) (by simp) ha (fun _ _ => rfl) h⟩
theorem xa_NoRun (T : Txt w K mg) : XcA P w K mg base 1 "NoRun" ["self", "index"] (OR (He.ga K "NoRun") "index") :=
 JJ (m := "__init__") T.xa_NoRun T.fx_NoRun H7 Ib (fun _ _ _ _ _ _ us hl => match us, hl with | [_, _], _ => rfl) fun cdv A outer s H vs Q E hr hsp => by
  obtain ⟨a, y, e, ha, h⟩ := hsp;subst e;exact ⟨_, (pss_one (ps_ost (cv 0) (cv 1))), rd_X1 T.xa_NoRun (by simp) ha (fun _ _ => rfl) h⟩
theorem iR (T : Txt w K mg) : uL P w K mg base 1 "is_integer" ["value"] (spF K cL) :=
 nO (k := 0) T.f_is_integer T.G_is_integer BE (Runs.plain (n := 1) (np := 1)) (fun _ _ _ _ _ _ us hl => match us, hl with | [_], _ => rfl) fun _ _ _ _ _ _ hr tk nd => by
  unfold mY;exact (aG (aX (gT (fC (T := "int") T.n_isinstance T.n_int (fv 0)) (pe_one (KQ (fC (T := "bool") T.n_isinstance T.n_bool (fv 0)))))))
theorem Ba (T : Txt w K mg) : uL P w K mg base 2 "is_bit" ["value"] (spF K sT) :=
 nO (k := 1) T.f_is_bit T.G_is_bit HA (Runs.plain (n := 1) (np := 1)) (fun _ _ _ _ _ _ us hl => match us, hl with | [_], _ => rfl) fun _ _ _ _ _ _ hr tk nd => by
  unfold xH;exact (aG (aX (gT (bI (iR T) hr tk (aC (fv 0) aI)) (pe_one (AB qP CO qP CO fI (fv 0) fI)))))
theorem BZ (T : Txt w K mg) : uL P w K mg base 2 "is_pen" ["value"] (spF K lQ) :=
 nO (k := 1) T.f_is_pen T.G_is_pen H9 (Runs.plain (n := 2) (np := 1)) (fun _ _ _ _ _ _ us hl => match us, hl with | [_], _ => rfl) fun _ _ _ _ _ _ hr tk nd => by
  unfold qC;exact (aG (aX (gT (fC (T := "tuple") T.n_isinstance T.n_tuple (fv 0)) (gT (tA (bF hr.units) s_eq (iE T.n_len (fv 0)) fI) (pe_one (KY T.n_all (Cw (own := [("number", 1)]) (t := (.nm 1)) rfl nd (rC (fv 0)) (blkOk_by (own := [("number", 1)]) (N := ["value", "number"]) (sc := defScope vV) (by decide +kernel)) (fun _ _ _ _ _ => (pg_name (i := 1) nd rfl (.inl rfl))) (fun _ _ _ _ _ => kA) (fun _ _ _ _ _ => (bI (iR T) hr takes0 (aC (fv 1) aI))))))))))
theorem pJ (T : Txt w K mg) : uL P w K mg base 2 "is_command" ["value"] (spF K cQ) :=
 nO (k := 1) T.f_is_command T.G_is_command BF (Runs.plain (n := 5) (np := 1)) (fun _ _ _ _ _ _ us hl => match us, hl with | [_], _ => rfl) fun _ _ _ _ _ _ hr tk nd => by
  unfold fO eU;exact (aF (bE (PW.pt (kQ (eB (cN (fC (T := "tuple") T.n_isinstance T.n_tuple (fv 0)))) (pw_or1 (bC (bF hr.units) s_eq (iE T.n_len (fv 0)) fI)))) (aG (aX fB)) aV)
  (aF (bE (PW.pt (kQ (eB (cN (fC (T := "str") T.n_isinstance T.n_str (bM (fv 0) fI)))) (pw_or1 (Hs T.lim T.k_LIMITS T.g_LIMITS (bM (fv 0) fI))))) (aG (aX fB)) aV)
  (aF (yJ (t := (.tp [1, 2, 3])) (f_lim T.lim T.k_LIMITS T.g_LIMITS (bM (fv 0) fI)) (pg_tup rfl (pgs_cons (pg_name (i := 1) nd rfl (.inl rfl)) (pgs_cons (pg_name (i := 2) nd rfl (.inr rfl)) (pgs_cons (pg_name (i := 3) nd rfl (.inr rfl)) pgs_nil)))))
  (aF (bE (bC (sO hr.units) Ep (iE T.n_len (fv 0)) (cS dD hY (fv 1) fI)) (aG (aX fB)) aV)
  (aG (aX (KY T.n_all (Cw (own := [("number", 4)]) (t := (.nm 4)) rfl nd (rC (Ao (fv 0) (gS fI) rB)) (blkOk_by (own := [("number", 4)]) (N := ["value", "many", "low", "high", "number"]) (sc := defScope mS) (by decide +kernel)) (fun _ _ _ _ _ => (pg_name (i := 4) nd rfl (.inl rfl))) (fun _ _ _ _ _ => kA) (fun _ _ _ _ _ => (gT (bI (iR T) hr takes0 (aC (fv 4) aI)) (pe_one (AB qP CO qP CO (fv 2) (fv 4) (fv 3)))))))))))))
theorem yZ (T : Txt w K mg) : uL P w K mg base 1 "executed" ["pen", "command"] (spF K jB) :=
 nO (k := 0) T.f_executed T.G_executed DP (Runs.plain (n := 10) (np := 2)) (fun _ _ _ _ _ _ us hl => match us, hl with | [_, _], _ => rfl) fun _ _ _ _ _ _ hr tk nd => by
  unfold rF jO;exact (aF (yJ (t := (.tp [2, 3, 4, 5, 6, 7])) (fv 0) (pg_tup rfl (pgs_cons (pg_name (i := 2) nd rfl (.inl rfl)) (pgs_cons (pg_name (i := 3) nd rfl (.inl rfl)) (pgs_cons (pg_name (i := 4) nd rfl (.inl rfl)) (pgs_cons (pg_name (i := 5) nd rfl (.inl rfl)) (pgs_cons (pg_name (i := 6) nd rfl (.inl rfl)) (pgs_cons (pg_name (i := 7) nd rfl (.inl rfl)) pgs_nil))))))))
  (aF (cG (i := 8) nd rfl (.inl rfl) (bM (fv 1) fI))
  (aF (bE (bC (bF hr.units) s_eq (fv 8) fS) (aG (aX (cZ (aC (cS dD hY (fv 2) (cS hJ pT (bM (fv 1) fI) (fv 4))) (aC (cS dD hY (fv 3) (cS hJ pT (bM (fv 1) fI) (fv 5))) (aC (fv 4) (aC (fv 5) (aC (fv 6) (aC (fv 7) aI))))))))) aV)
  (aF (bE (bC (bF hr.units) s_eq (fv 8) fS) (aF (uY (t := (.nm 9)) (passes_of rfl) rfl (wO (by rfl) T.n_range (bM (fv 1) fI)) (pg_name (i := 9) nd rfl (.inl rfl)) (nU [9] (aG (Q2 (i := 4) (j := 5) (by rfl) nd rfl rfl (by decide) rfl rfl (Bv (fv 5)) (fv 4) (by rfl)))))
  (aG (aX (cZ (aC (fv 2) (aC (fv 3) (aC (fv 4) (aC (fv 5) (aC (fv 6) (aC (fv 7) aI)))))))))) aV)
  (aF (bE (bC (bF hr.units) s_eq (fv 8) fS) (aG (aX (cZ (aC (fv 2) (aC (fv 3) (aC (fv 4) (aC (Bv (fv 5)) (aC (fv 6) (aC (fv 7) aI))))))))) aV)
  (aF (bE (bC (bF hr.units) s_eq (fv 8) fS) (aG (aX (cZ (aC (fv 2) (aC (fv 3) (aC (cS hJ pT (bM (fv 1) fI) (fv 4)) (aC (cS hJ pT (bM (fv 1) fI) (fv 5)) (aC (fv 6) (aC (fv 7) aI))))))))) aV)
  (aF (bE (bC (bF hr.units) s_eq (fv 8) fS) (aG (aX (cZ (aC (fv 2) (aC (fv 3) (aC (bM (fv 1) fI) (aC (bM (fv 1) fI) (aC (fv 6) (aC (fv 7) aI))))))))) aV)
  (aF (bE (bC (bF hr.units) s_eq (fv 8) fS) (aG (aX (cZ (aC (bM (fv 1) fI) (aC (bM (fv 1) fI) (aC (fv 4) (aC (fv 5) (aC (fv 6) (aC (fv 7) aI))))))))) aV)
  (aF (bE (bC (bF hr.units) s_eq (fv 8) fS) (aG (aX (cZ (aC (fv 2) (aC (fv 3) (aC (fv 4) (aC (fv 5) (aC (fv 2) (aC (fv 3) aI))))))))) aV)
  (aF (bE (bC (bF hr.units) s_eq (fv 8) fS) (aG (aX (cZ (aC (fv 6) (aC (fv 7) (aC (fv 4) (aC (fv 5) (aC (fv 6) (aC (fv 7) aI))))))))) aV)
  (aG (aX (cZ (aC (fv 6) (aC (fv 7) (aC (fv 4) (aC (fv 5) (aC (fv 2) (aC (fv 3) aI)))))))))))))))))))
theorem wA (T : Txt w K mg) : uL P w K mg base 3 "check_pen" ["pen"] (spF K jI) :=
 nO (k := 2) T.f_check_pen T.G_check_pen CH (Runs.plain (n := 1) (np := 1)) (fun _ _ _ _ _ _ us hl => match us, hl with | [_], _ => rfl) fun _ _ _ _ _ _ hr tk nd => by
  unfold lY;exact (aG (bE (eB (cN (bI (BZ T) hr tk (aC (fv 0) aI)))) (aG (nV T.x_NoPen tk)) aV))
theorem JG (T : Txt w K mg) : uL P w K mg base 4 "moved" ["pen", "command"] (spF K tS) :=
 nO (k := 3) T.f_moved T.G_moved Iq (Runs.plain (n := 2) (np := 2)) (fun _ _ _ _ _ _ us hl => match us, hl with | [_, _], _ => rfl) fun _ _ _ _ _ _ hr tk nd => by
  unfold xG;exact (aF (bY (bI (wA T) hr tk (aC (fv 0) aI)))
  (aF (bE (eB (cN (bI (pJ T) hr tk (aC (fv 1) aI)))) (aG (nV T.x_NoCommand tk)) aV)
  (aG (aX (bI (yZ T) hr tk (aC (fv 0) (aC (fv 1) aI)))))))
theorem wB (T : Txt w K mg) : uL P w K mg base 1 "blocks_of" ["statement"] (spF K jJ) :=
 nO (k := 0) T.f_blocks_of T.G_blocks_of CI (Runs.plain (n := 2) (np := 1)) (fun _ _ _ _ _ _ us hl => match us, hl with | [_], _ => rfl) fun _ _ _ _ _ _ hr tk nd => by
  unfold oY;exact (aF (cG (i := 1) nd rfl (.inl rfl) (bM (fv 0) fI))
  (aF (bE (PW.pt (kQ (bC (bF hr.units) s_eq (fv 1) fS) (pw_or1 (bC (bF hr.units) s_eq (fv 1) fS)))) (aG (aX (pY (aC (bM (fv 0) fI) aI)))) aV)
  (aF (bE (bC (bF hr.units) s_eq (fv 1) fS) (aG (aX (pY (aC (bM (fv 0) fI) (aC (bM (fv 0) fI) aI))))) aV)
  (aF (bE (bC (bF hr.units) s_eq (fv 1) fS) (aG (aX (bM (fv 0) fI))) aV)
  (aG (aX (pY aI)))))))
theorem AU (T : Txt w K mg) : uL P w K mg base 1 "with_blocks" ["statement", "blocks"] (spF K lA) :=
 nO (k := 0) T.f_with_blocks T.G_with_blocks AH (Runs.plain (n := 3) (np := 2)) (fun _ _ _ _ _ _ us hl => match us, hl with | [_, _], _ => rfl) fun _ _ _ _ _ _ hr tk nd => by
  unfold lD;exact (aF (cG (i := 2) nd rfl (.inl rfl) (bM (fv 0) fI))
  (aF (bE (PW.pt (kQ (bC (bF hr.units) s_eq (fv 2) fS) (pw_or1 (bC (bF hr.units) s_eq (fv 2) fS)))) (aG (aX (cZ (aC (fv 2) (aC (bM (fv 1) fI) aI))))) aV)
  (aF (bE (bC (bF hr.units) s_eq (fv 2) fS) (aG (aX (cZ (aC (fv 2) (aC (bM (fv 1) fI) (aC (bM (fv 1) fI) aI)))))) aV)
  (aF (bE (bC (bF hr.units) s_eq (fv 2) fS) (aG (aX (cZ (aC (fv 2) (aC (bM (fv 0) fI) (aC (bM (fv 0) fI) (aC (fv 1) aI))))))) aV)
  (aG (aX (fv 0)))))))
theorem lO (T : Txt w K mg) : ∀ n, (uL P w K mg base (1 + n + 1) "copied_statement" ["statement"] (spF K (gK n))) /\ (uL P w K mg base (1 + n + 1) "copied_block" ["block"] (spF K (dR n)))
 | 0 => ⟨wF T.f_copied_statement T.G_copied_statement mM (fun _ _ _ _ _ _ us hl => match us, hl with | [_], _ => rfl), wF T.f_copied_block T.G_copied_block rM (fun _ _ _ _ _ _ us hl => match us, hl with | [_], _ => rfl)⟩
 | n + 1 => by
  have ih := lO T n;have ih_copied_statement := ih.1;have ih_copied_block := ih.2;refine ⟨?_, ?_⟩
  ·exact nO (k := 1 + n + 1) T.f_copied_statement T.G_copied_statement mM (Runs.plain (n := 2) (np := 1)) (fun _ _ _ _ _ _ us hl => match us, hl with | [_], _ => rfl) fun _ _ _ _ _ _ hr tk nd => by
    unfold gV;exact (aG (aX (bI (AU T) hr tk (aC (fv 0) (aC (Cw (own := [("block", 1)]) (t := (.nm 1)) rfl nd (rC (bI (wB T) hr tk (aC (fv 0) aI) (by omega))) (blkOk_by (own := [("block", 1)]) (N := ["statement", "block"]) (sc := defScope gJ) (by decide +kernel)) (fun _ _ _ _ _ => (pg_name (i := 1) nd rfl (.inl rfl))) (fun _ _ _ _ _ => kA) (fun _ _ _ _ _ => (bI ih_copied_block hr takes0 (aC (fv 1) aI) (by omega)))) aI)) (by omega))))
  ·exact nO (k := 1 + n + 1) T.f_copied_block T.G_copied_block rM (Runs.plain (n := 2) (np := 1)) (fun _ _ _ _ _ _ us hl => match us, hl with | [_], _ => rfl) fun _ _ _ _ _ _ hr tk nd => by
    unfold kF;exact (aG (aX (Cw (own := [("statement", 1)]) (t := (.nm 1)) rfl nd (rC (fv 0)) (blkOk_by (own := [("statement", 1)]) (N := ["block", "statement"]) (sc := defScope jQ) (by decide +kernel)) (fun _ _ _ _ _ => (pg_name (i := 1) nd rfl (.inl rfl))) (fun _ _ _ _ _ => kA) (fun _ _ _ _ _ => (bI ih_copied_statement hr takes0 (aC (fv 1) aI) (by omega))))))
theorem rN (T : Txt w K mg) (n : Nat) : uL P w K mg base (1 + n + 1) "copied_block" ["block"] (spF K (dR n)) := (lO T n).2
theorem AW (T : Txt w K mg) : uL P w K mg base 3 "well_formed" ["value", "level", "many"] (spF K iS) :=
 nO (k := 2) T.f_well_formed T.G_well_formed AI (Runs.plain (n := 4) (np := 3)) (fun _ _ _ _ _ _ us hl => match us, hl with | [_, _, _], _ => rfl) fun _ _ _ _ _ _ hr tk nd => by
  unfold lE;exact (aF (bE (cN (bI (pJ T) hr tk (aC (fv 0) aI))) (aG (aX fB)) aV)
  (aF (bE (PW.pt (kQ (eB (cN (fC (T := "tuple") T.n_isinstance T.n_tuple (fv 0)))) (kQ (bC yA HE (iE T.n_len (fv 0)) fI) (pw_or1 (eB (cN (fC (T := "str") T.n_isinstance T.n_str (bM (fv 0) fI)))))))) (aG (aX fB)) aV)
  (aF (cG (i := 3) nd rfl (.inl rfl) (bM (fv 0) fI))
  (aF (bE (bC (bF hr.units) s_eq (fv 3) fS) (aG (aX (gT (tA (bF hr.units) s_eq (iE T.n_len (fv 0)) fI) (pe_one (bI (Ba T) hr tk (aC (bM (fv 0) fI) aI)))))) aV)
  (aF (bE (bC (bF hr.units) s_eq (fv 1) (Cz T.i_DEEPEST)) (aG (aX fB)) aV)
  (aF (bE (PW.pt (kQ (bC (bF hr.units) s_eq (fv 3) fS) (pw_or1 (bC (bF hr.units) s_eq (fv 3) fS)))) (aG (aX (gT (tA (bF hr.units) s_eq (iE T.n_len (fv 0)) fI) (pe_one (fC (T := "list") T.n_isinstance T.n_list (bM (fv 0) fI)))))) aV)
  (aF (bE (bC (bF hr.units) s_eq (fv 3) fS) (aG (aX (gT (tA (bF hr.units) s_eq (iE T.n_len (fv 0)) fI) (gT (fC (T := "list") T.n_isinstance T.n_list (bM (fv 0) fI)) (pe_one (fC (T := "list") T.n_isinstance T.n_list (bM (fv 0) fI))))))) aV)
  (aF (bE (PW.pt (kQ (bC (sO hr.units) Ep (fv 3) fS) (pw_or1 (bC (sO hr.units) Ep (iE T.n_len (fv 0)) fI)))) (aG (aX fB)) aV)
  (aF (bE (PW.pt (kQ (eB (cN (bI (iR T) hr tk (aC (bM (fv 0) fI) aI)))) (pw_or1 (eB (E9 qP CO yA HE fI (bM (fv 0) fI) (fv 2)))))) (aG (aX fB)) aV)
  (aF (bE (PW.pt (kQ (eB (cN (fC (T := "bool") T.n_isinstance T.n_bool (bM (fv 0) fI)))) (kQ (eB (cN (fC (T := "list") T.n_isinstance T.n_list (bM (fv 0) fI)))) (pw_or1 (bC (sO hr.units) Ep (iE T.n_len (bM (fv 0) fI)) fI))))) (aG (aX fB)) aV)
  (aG (aX (gT (fC (T := "list") T.n_isinstance T.n_list (bM (bM (fv 0) fI) fI)) (pe_one (fC (T := "list") T.n_isinstance T.n_list (bM (bM (fv 0) fI) fI))))))))))))))))
theorem sP (T : Txt w K mg) : ∀ n, uL P w K mg base (3 + n + 1) "first_fault" ["block", "level", "many", "path", "met"] (spF K (cJ n))
 | 0 => wF T.f_first_fault T.G_first_fault sL (fun _ _ _ _ _ _ us hl => match us, hl with | [_, _, _, _, _], _ => rfl)
 | n + 1 => by
  have ih_first_fault := sP T n;exact nO (k := 3 + n + 1) T.f_first_fault T.G_first_fault sL (Runs.plain (n := 11) (np := 5)) (fun _ _ _ _ _ _ us hl => match us, hl with | [_, _, _, _, _], _ => rfl) fun _ _ _ _ _ _ hr tk nd => by
   unfold lG iX fE;exact (aF (uY (t := (.tp [5, 6])) (passes_of rfl) rfl (A9 (by rfl) T.n_enumerate (fv 0)) (pg_tup rfl (pgs_cons (pg_name (i := 5) nd rfl (.inl rfl)) (pgs_cons (pg_name (i := 6) nd rfl (.inl rfl)) pgs_nil))) (nU [5, 6, 7, 8, 9, 10] (aF (cG (i := 7) nd rfl (.inl rfl) (cS dD hY (fv 3) (cZ (aC (fv 5) aI))))
  (aF (bE (PW.pt (kQ (bC (bF hr.units) s_eq (fv 5) (Cz T.i_MOST_IN_LIST)) (kQ (bC (bF hr.units) s_eq (fv 4) (Cz T.i_MOST_IN_PROCEDURE)) (pw_or1 (eB (cN (bI (AW T) hr tk (aC (fv 6) (aC (fv 1) (aC (fv 2) aI))) (by omega)))))))) (aG (aX (cZ (aC (fv 7) (aC (fv 4) aI))))) aV)
  (aF (Ht (k := 4) nd rfl (.inl rfl) fI)
  (aG (uY (t := (.tp [8, 9])) (passes_of rfl) rfl (A9 (by rfl) T.n_enumerate (bI (wB T) hr tk (aC (fv 6) aI) (by omega))) (pg_tup rfl (pgs_cons (pg_name (i := 8) nd rfl (.inl rfl)) (pgs_cons (pg_name (i := 9) nd rfl (.inl rfl)) pgs_nil))) (nU [8, 9, 10] (aF (yJ (t := (.tp [10, 4])) (bI ih_first_fault hr tk (aC (fv 9) (aC (cS dD hY (fv 1) fI) (aC (fv 2) (aC (cS dD hY (fv 7) (cZ (aC (fv 8) aI))) (aC (fv 4) aI))))) (by omega)) (pg_tup rfl (pgs_cons (pg_name (i := 10) nd rfl (.inl rfl)) (pgs_cons (pg_name (i := 4) nd rfl (.inl rfl)) pgs_nil))))
  (aG (bE (bC Dc Ir (fv 10) fN) (aG (aX (cZ (aC (fv 10) (aC (fv 4) aI))))) aV)))))))))))
  (aG (aX (cZ (aC fN (aC (fv 4) aI))))))
theorem CZ (T : Txt w K mg) : OkMX P w K mg base 23 "Book" "__init__" ["self", "bodies"] (spF K eK) :=
 oO (k := 22) T.f_Book_init T.M_Book_init CL (Runs.plain (n := 6) (np := 2)) (fun _ _ _ _ _ _ us hl => match us, hl with | [_, _], _ => rfl) fun _ _ _ _ _ _ hr tk nd => by
  unfold pB dE;exact (aF (bE (PW.pt (kQ (eB (cN (fC (T := "list") T.n_isinstance T.n_list (fv 1)))) (pw_or1 (eB (E9 qP CO qP CO fI (iE T.n_len (fv 1)) (Cz T.i_MOST_PROCEDURES)))))) (aG (yI (xa_NoBook T) hr tk (aC (Bv fI) (aC (cZ aI) aI)))) aV)
  (aF (uY (t := (.tp [2, 3])) (passes_of rfl) rfl (A9 (by rfl) T.n_enumerate (fv 1)) (pg_tup rfl (pgs_cons (pg_name (i := 2) nd rfl (.inl rfl)) (pgs_cons (pg_name (i := 3) nd rfl (.inl rfl)) pgs_nil))) (nU [2, 3, 4, 5] (aF (bE (eB (cN (fC (T := "list") T.n_isinstance T.n_list (fv 3)))) (aG (yI (xa_NoBook T) hr tk (aC (fv 2) (aC (cZ aI) aI)))) aV)
  (aF (yJ (t := (.tp [4, 5])) (bI (sP T 10) hr tk (aC (fv 3) (aC fI (aC (iE T.n_len (fv 1)) (aC (cZ aI) (aC fI aI)))))) (pg_tup rfl (pgs_cons (pg_name (i := 4) nd rfl (.inl rfl)) (pgs_cons (pg_name (i := 5) nd rfl (.inl rfl)) pgs_nil))))
  (aG (bE (bC Dc Ir (fv 4) fN) (aG (yI (xa_NoBook T) hr tk (aC (fv 2) (aC (fv 4) aI)))) aV))))))
  (aG (fU T.c_Book T.a_Book_own (fv 0) (Cw (own := [("body", 3)]) (t := (.nm 3)) rfl nd (rC (fv 1)) (blkOk_by (own := [("body", 3)]) (N := ["self", "bodies", "procedure", "body", "fault", "met"]) (sc := defScope jH) (by decide +kernel)) (fun _ _ _ _ _ => (pg_name (i := 3) nd rfl (.inl rfl))) (fun _ _ _ _ _ => kA) (fun _ _ _ _ _ => (bI (rN T 20) hr takes0 (aC (fv 3) aI))))))))
theorem Dd (T : Txt w K mg) : OkMX P w K mg base 1 "Book" "__len__" ["self"] (spF K nQ) :=
 oO (k := 0) T.f_Book_len T.M_Book_len DR (Runs.plain (n := 1) (np := 1)) (fun _ _ _ _ _ _ us hl => match us, hl with | [_], _ => rfl) fun _ _ _ _ _ _ hr tk nd => by
  unfold rK;exact (aG (aX (iE T.n_len (dC T.c_Book T.a_Book_own (fv 0)))))
theorem AY (T : Txt w K mg) : OkMX P w K mg base 23 "Book" "bodies" ["self"] (spF K lC) :=
 oO (k := 22) T.f_Book_bodies T.M_Book_bodies AK (Runs.plain (n := 2) (np := 1)) (fun _ _ _ _ _ _ us hl => match us, hl with | [_], _ => rfl) fun _ _ _ _ _ _ hr tk nd => by
  unfold lH;exact (aG (aX (Cw (own := [("body", 1)]) (t := (.nm 1)) rfl nd (rC (dC T.c_Book T.a_Book_own (fv 0))) (blkOk_by (own := [("body", 1)]) (N := ["self", "body"]) (sc := defScope gZ) (by decide +kernel)) (fun _ _ _ _ _ => (pg_name (i := 1) nd rfl (.inl rfl))) (fun _ _ _ _ _ => kA) (fun _ _ _ _ _ => (bI (rN T 20) hr takes0 (aC (fv 1) aI))))))
theorem yB (T : Txt w K mg) : uL P w K mg base 3 "has_procedure" ["book", "procedure"] (spF K iY) :=
 nO (k := 2) T.f_has_procedure T.G_has_procedure xW (Runs.plain (n := 2) (np := 2)) (fun _ _ _ _ _ _ us hl => match us, hl with | [_, _], _ => rfl) fun _ _ _ _ _ _ hr tk nd => by
  unfold iZ;exact (aG (aX (gT (bI (iR T) hr tk (aC (fv 1) aI)) (pe_one (AB qP CO yA HE fI (fv 1) (Q5 T.n_len (Dd T) hr (fv 0)))))))
theorem wD (T : Txt w K mg) : OkMX P w K mg base 1 "Execution" "__init__" ["self", "bodies", "bits"] (spF K gA) :=
 oO (k := 0) T.f_Execution_init T.M_Execution_init vT (Runs.plain (n := 4) (np := 3)) (fun _ _ _ _ _ _ us hl => match us, hl with | [_, _, _], _ => rfl) fun _ _ _ _ _ _ hr tk nd => by
  unfold iN;exact (aF (fU T.c_Execution T.a_Execution_own (fv 0) (fv 1))
  (aF (fU T.c_Execution T.a_Execution_bits (fv 0) (fv 2))
  (aF (fU T.c_Execution T.a_Execution_taken (fv 0) fI)
  (aF (fU T.c_Execution T.a_Execution_deeds (fv 0) (pY aI))
  (aF (fU T.c_Execution T.a_Execution_stack (fv 0) (pY aI))
  (aF (fU T.c_Execution T.a_Execution_active (fv 0) (f_lcC (own := [("body", 3)]) (t := (.nm 3)) rfl nd (rC (fv 1)) (blkOk_by (own := [("body", 3)]) (N := ["self", "bodies", "bits", "body"]) (sc := defScope eL) (by decide +kernel)) (fun _ _ _ _ _ => (pg_name (i := 3) nd rfl (.inl rfl)))))
  (aG (fU T.c_Execution T.a_Execution_ended (fv 0) fI))))))))
theorem oN (T : Txt w K mg) : OkMX P w K mg base 3 "Execution" "take" ["self"] (spF K cX) :=
 oO (k := 2) T.f_Execution_take T.M_Execution_take vR (Runs.plain (n := 1) (np := 1)) (fun _ _ _ _ _ _ us hl => match us, hl with | [_], _ => rfl) fun _ _ _ _ _ _ hr tk nd => by
  unfold gD;exact (aF (bE (bC (bF hr.units) s_eq (dC T.c_Execution T.a_Execution_taken (fv 0)) (iE T.n_len (dC T.c_Execution T.a_Execution_bits (fv 0)))) (aG (pX (xa_NoRun T) hr tk (aC (dC T.c_Execution T.a_Execution_taken (fv 0)) aI))) aV)
  (aF (FV T.c_Execution T.a_Execution_taken (fv 0) fI)
  (aG (aX (bM (dC T.c_Execution T.a_Execution_bits (fv 0)) (cS oM yY (dC T.c_Execution T.a_Execution_taken (fv 0)) fI))))))
theorem nN (T : Txt w K mg) : OkMX P w K mg base 3 "Execution" "enter" ["self", "procedure", "statement"] (spF K dF) :=
 oO (k := 2) T.f_Execution_enter T.M_Execution_enter uQ (Runs.plain (n := 4) (np := 3)) (fun _ _ _ _ _ _ us hl => match us, hl with | [_, _, _], _ => rfl) fun _ _ _ _ _ _ hr tk nd => by
  unfold fP;exact (aF (cG (i := 3) nd rfl (.inl rfl) (bM (dC T.c_Execution T.a_Execution_active (fv 0)) (fv 1)))
  (aF (bE (PW.pt (Q0 (bC JE s_gt (iE T.n_len (fv 3)) fI) (pw_and1 (bC (bF hr.units) s_eq (bM (fv 3) (Bv fI)) (dC T.c_Execution T.a_Execution_taken (fv 0)))))) (aG (pX (xa_NoRun T) hr tk (aC (Bv fI) aI))) aV)
  (aF (bY (kB (bM (dC T.c_Execution T.a_Execution_active (fv 0)) (fv 1)) (dC T.c_Execution T.a_Execution_taken (fv 0))))
  (aF (bY (kB (dC T.c_Execution T.a_Execution_stack (fv 0)) (cZ (aC fS (aC (fv 1) (aC (fv 2) aI))))))
  (aG (bY (kB (dC T.c_Execution T.a_Execution_stack (fv 0)) (cZ (aC fS (aC (bM (dC T.c_Execution T.a_Execution_own (fv 0)) (fv 1)) (aC fI aI)))))))))))
theorem nM (T : Txt w K mg) : OkMX P w K mg base 1 "Execution" "leave" ["self", "procedure", "statement", "way"] (spF K fL) :=
 oO (k := 0) T.f_Execution_leave T.M_Execution_leave uP (Runs.plain (n := 4) (np := 4)) (fun _ _ _ _ _ _ us hl => match us, hl with | [_, _, _, _], _ => rfl) fun _ _ _ _ _ _ hr tk nd => by
  unfold hQ;exact (aF (bY (ED (bM (dC T.c_Execution T.a_Execution_active (fv 0)) (fv 1))))
  (aF (bE (bC CU Iv (fv 2) fN) (aF (fU T.c_Execution T.a_Execution_ended (fv 0) (fv 3))
  (aG N0)) aV)
  (aF (bE (cN (bM (fv 2) fI)) (aG (bY (kB (dC T.c_Execution T.a_Execution_deeds (fv 0)) (cZ (aC fS aI))))) aV)
  (aG (bY (kB (dC T.c_Execution T.a_Execution_stack (fv 0)) (cZ (aC fS (aC (bM (bM (fv 2) fI) (fv 3)) (aC fI aI))))))))))
theorem uA (T : Txt w K mg) : OkMX P w K mg base 2 "Execution" "unwind" ["self", "way"] (spF K gM) :=
 oO (k := 1) T.f_Execution_unwind T.M_Execution_unwind tZ (Runs.plain (n := 3) (np := 2)) (fun _ _ _ _ _ _ us hl => match us, hl with | [_, _], _ => rfl) fun _ _ _ _ _ _ hr tk nd => by
  unfold gW cV;exact (aF (cG (i := 2) nd rfl (.inl rfl) (ED (dC T.c_Execution T.a_Execution_stack (fv 0))))
  (aF (EA (k := 1000000) (passes_of rfl) (bC (sO hr.units) Ep (bM (fv 2) fI) fS) (aF (bE (bC (bF hr.units) s_eq (bM (fv 2) fI) fS) (aG (bY (kB (dC T.c_Execution T.a_Execution_deeds (fv 0)) (fv 2)))) aV)
  (aG (cG (i := 2) nd rfl (.inl rfl) (ED (dC T.c_Execution T.a_Execution_stack (fv 0)))))))
  (aG (bY (rD (nM T) hr tk T.c_Execution (fv 0) (aC (bM (fv 2) fI) (aC (bM (fv 2) fI) (aC (fv 1) aI))))))))
theorem uU (T : Txt w K mg) : OkMX P w K mg base 4 "Execution" "begin" ["self", "statement"] (spF K hL) :=
 oO (k := 3) T.f_Execution_begin T.M_Execution_begin uR (Runs.plain (n := 3) (np := 2)) (fun _ _ _ _ _ _ us hl => match us, hl with | [_, _], _ => rfl) fun _ _ _ _ _ _ hr tk nd => by
  unfold hR;exact (aF (cG (i := 2) nd rfl (.inl rfl) (bM (fv 1) fI))
  (aG (bE (cN (bI (pJ T) hr tk (aC (fv 1) aI))) (aG (bY (kB (dC T.c_Execution T.a_Execution_deeds (fv 0)) (fv 1)))) (aG (bE (bC (bF hr.units) s_eq (fv 2) fS) (aF (bY (kB (dC T.c_Execution T.a_Execution_deeds (fv 0)) (cZ (aC fS aI))))
  (aF (bY (kB (dC T.c_Execution T.a_Execution_stack (fv 0)) (cZ (aC fS aI))))
  (aG (bY (kB (dC T.c_Execution T.a_Execution_stack (fv 0)) (cZ (aC fS (aC (bM (fv 1) fI) (aC fI aI))))))))) (aG (bE (bC (bF hr.units) s_eq (fv 2) fS) (aG (bY (kB (dC T.c_Execution T.a_Execution_stack (fv 0)) (cZ (aC fS (aC (bM (fv 1) (cS dD hY fI (AA (oN T) hr tk T.c_Execution (fv 0)))) (aC fI aI))))))) (aG (bE (bC (bF hr.units) s_eq (fv 2) fS) (aG (bY (kB (dC T.c_Execution T.a_Execution_stack (fv 0)) (cZ (aC fS (aC (bM (fv 1) fI) aI)))))) (aG (bE (bC (bF hr.units) s_eq (fv 2) fS) (aF (bE (cN (bM (fv 1) fI)) (aG (bY (kB (dC T.c_Execution T.a_Execution_deeds (fv 0)) (cZ (aC fS aI))))) aV)
  (aG (bY (rD (nN T) hr tk T.c_Execution (fv 0) (aC (bM (fv 1) fI) (aC (fv 1) aI)))))) (aG (bY (rD (uA T) hr tk T.c_Execution (fv 0) (aC (bM (fv 1) fI) aI)))))))))))))))
theorem wC (T : Txt w K mg) : OkMX P w K mg base 5 "Execution" "step" ["self"] (spF K iH) :=
 oO (k := 4) T.f_Execution_step T.M_Execution_step vS (Runs.plain (n := 2) (np := 1)) (fun _ _ _ _ _ _ us hl => match us, hl with | [_], _ => rfl) fun _ _ _ _ _ _ hr tk nd => by
  unfold iM;exact (aF (cG (i := 1) nd rfl (.inl rfl) (ED (dC T.c_Execution T.a_Execution_stack (fv 0))))
  (aG (bE (bC (bF hr.units) s_eq (bM (fv 1) fI) fS) (aG (bE (bC yA HE (bM (fv 1) fI) (iE T.n_len (bM (fv 1) fI))) (aF (bY (kB (dC T.c_Execution T.a_Execution_stack (fv 0)) (cZ (aC fS (aC (bM (fv 1) fI) (aC (cS dD hY (bM (fv 1) fI) fI) aI))))))
  (aG (bY (rD (uU T) hr tk T.c_Execution (fv 0) (aC (bM (bM (fv 1) fI) (bM (fv 1) fI)) aI))))) aV)) (aG (bE (bC (bF hr.units) s_eq (bM (fv 1) fI) fS) (aG (bY (kB (dC T.c_Execution T.a_Execution_deeds (fv 0)) (fv 1)))) (aG (bE (bC (bF hr.units) s_eq (bM (fv 1) fI) fS) (aG (bE (bC (bF hr.units) s_eq (AA (oN T) hr tk T.c_Execution (fv 0)) fI) (aF (bY (kB (dC T.c_Execution T.a_Execution_stack (fv 0)) (fv 1)))
  (aG (bY (kB (dC T.c_Execution T.a_Execution_stack (fv 0)) (cZ (aC fS (aC (bM (fv 1) fI) (aC fI aI)))))))) aV)) (aG (bY (rD (nM T) hr tk T.c_Execution (fv 0) (aC (bM (fv 1) fI) (aC (bM (fv 1) fI) (aC fI aI)))))))))))))
theorem zW (T : Txt w K mg) : uL P w K mg base 24 "executed_run" ["book", "procedure", "bits"] (spF K dQ) :=
 nO (k := 23) T.f_executed_run T.G_executed_run zT (Runs.cut (n := 6) (np := 3)) (fun _ _ _ _ _ _ us hl => match us, hl with | [_, _, _], _ => rfl) fun _ _ _ _ _ _ hr tk nd => by
  unfold kE dP fW;exact (aF (bE (eB (cN (bI (yB T) hr tk (aC (fv 0) (aC (fv 1) aI))))) (aG (nV T.x_NoProcedure tk)) aV)
  (aF (bE (eB (cN (fC (T := "list") T.n_isinstance T.n_list (fv 2)))) (aG (pX (xa_NoRun T) hr tk (aC (Bv fI) aI))) aV)
  (aF (uY (t := (.tp [3, 4])) (passes_of rfl) rfl (A9 (by rfl) T.n_enumerate (fv 2)) (pg_tup rfl (pgs_cons (pg_name (i := 3) nd rfl (.inl rfl)) (pgs_cons (pg_name (i := 4) nd rfl (.inl rfl)) pgs_nil))) (nU [3, 4] (aG (bE (eB (cN (bI (Ba T) hr tk (aC (fv 4) aI)))) (aG (pX (xa_NoRun T) hr tk (aC (fv 3) aI))) aV))))
  (aF (cG (i := 5) nd rfl (.inl rfl) (KU T.T_Execution (wD T) hr tk (aC (AA (AY T) hr tk T.c_Book (fv 0)) (aC (fv 2) aI))))
  (aF (bY (rD (nN T) hr tk T.c_Execution (fv 5) (aC (fv 1) (aC fN aI))))
  (aF (EA (k := 1000000) (passes_of rfl) (bC JE s_gt (iE T.n_len (dC T.c_Execution T.a_Execution_stack (fv 5))) fI) (aG (bY (AA (wC T) hr tk T.c_Execution (fv 5)))))
  (aF (bE (bC yA HE (dC T.c_Execution T.a_Execution_taken (fv 5)) (iE T.n_len (fv 2))) (aG (pX (xa_NoRun T) hr tk (aC (dC T.c_Execution T.a_Execution_taken (fv 5)) aI))) aV)
  (aG (aX (cZ (aC (dC T.c_Execution T.a_Execution_ended (fv 5)) (aC (OA (dC T.c_Execution T.a_Execution_deeds (fv 5))) aI))))))))))))
theorem AX (T : Txt w K mg) : uL P w K mg base 2 "pens_behind" ["deeds", "pen"] (spF K iT) :=
 nO (k := 1) T.f_pens_behind T.G_pens_behind AJ (Runs.cut (n := 5) (np := 2)) (fun _ _ _ _ _ _ us hl => match us, hl with | [_, _], _ => rfl) fun _ _ _ _ _ _ hr tk nd => by
  unfold lF dZ;exact (aF (cG (i := 2) nd rfl (.inl rfl) (pY aI))
  (aF (cG (i := 3) nd rfl (.inl rfl) (pY aI))
  (aF (uY (t := (.nm 4)) (passes_of rfl) rfl (rC (fv 0)) (pg_name (i := 4) nd rfl (.inl rfl)) (nU [4] (aG (bE (bC (bF hr.units) s_eq (bM (fv 4) fI) fS) (aG (bY (kB (fv 3) (Ao (fv 1) rB (gS fI))))) (aG (bE (bC (bF hr.units) s_eq (bM (fv 4) fI) fS) (aG (cG (i := 1) nd rfl (.inl rfl) (cS dD hY (ED (fv 3)) (Ao (fv 1) (gS fI) rB)))) (aF (cG (i := 1) nd rfl (.inl rfl) (bI (yZ T) hr tk (aC (fv 1) (aC (fv 4) aI))))
  (aG (bY (kB (fv 2) (fv 1)))))))))))
  (aG (aX (cZ (aC (OA (fv 2)) (aC (fv 1) aI))))))))
theorem Oa (T : Txt w K mg) : OkK P w K mg base 25 "ran" ["book", "procedure", "bits", "pen"] 3 "pen" (.ref (He.ga K "HOME")) (spF K G9) :=
 okK (k := 24) (N := ["book", "procedure", "bits", "pen", "way", "deeds", "pens", "last"]) T.f_ran T.G_ran sc_ran (Runs.plain (n := 8) (np := 4)) rfl (fun _ _ _ _ _ _ us ks l1 l2 => match us, ks, l1, l2 with | [_, _, _], [_], _, _ => ⟨_, _, _, _, _, _, rfl, rfl, rfl⟩) (fun _ _ _ _ _ _ us ws l1 l2 => match us, ws, l1, l2 with | [_, _, _], [_], _, _ => rfl) fun cdv A outer s H E hr => by
  have nd : (["book", "procedure", "bits", "pen", "way", "deeds", "pens", "last"] : List Str).Nodup := sc_ran.nd;have tk := takes_of (X := cxOf (L2.CX P w) P w K mg base ["book", "procedure", "bits", "pen", "way", "deeds", "pens", "last"] "ran" (defScope BX) (He.ga K "ran") cdv A outer s H E) (E := E) rfl rfl rfl rfl;unfold Gc;exact (aF (yJ (t := (.tp [4, 5])) (bI (zW T) hr tk (aC (fv 0) (aC (fv 1) (aC (fv 2) aI)))) (pg_tup rfl (pgs_cons (pg_name (i := 4) nd rfl (.inl rfl)) (pgs_cons (pg_name (i := 5) nd rfl (.inl rfl)) pgs_nil))))
  (aF (bE (eB (cN (bI (BZ T) hr tk (aC (fv 3) aI)))) (aG (nV T.x_NoPen tk)) aV)
  (aF (yJ (t := (.tp [6, 7])) (bI (AX T) hr tk (aC (fv 5) (aC (fv 3) aI))) (pg_tup rfl (pgs_cons (pg_name (i := 6) nd rfl (.inl rfl)) (pgs_cons (pg_name (i := 7) nd rfl (.inl rfl)) pgs_nil))))
  (aG (aX (cZ (aC (fv 4) (aC (fv 7) (aC (iE T.n_len (fv 6)) aI)))))))))
theorem AV (T : Txt w K mg) : uL P w K mg base 1 "whole" ["value"] (spF K qR) :=
 nO (k := 0) T.f_whole T.G_whole Ip (Runs.plain (n := 1) (np := 1)) (fun _ _ _ _ _ _ us hl => match us, hl with | [_], _ => rfl) fun _ _ _ _ _ _ hr tk nd => by
  unfold xF;exact (aG (aX (gT (fC (T := "int") T.n_isinstance T.n_int (fv 0)) (pe_one (KQ (fC (T := "bool") T.n_isinstance T.n_bool (fv 0)))))))
theorem HP (T : Txt w K mg) : uL P w K mg base 2 "within" ["value", "bound"] (spF K sS) :=
 nO (k := 1) T.f_within T.G_within H8 (Runs.plain (n := 2) (np := 2)) (fun _ _ _ _ _ _ us hl => match us, hl with | [_, _], _ => rfl) fun _ _ _ _ _ _ hr tk nd => by
  unfold xE;exact (aG (aX (gT (bI (AV T) hr tk (aC (fv 0) aI)) (pe_one (AB qP CO yA HE fI (fv 0) (fv 1))))))
theorem mH (T : Txt w K mg) : OkMX P w K mg base 1 "Live" "move_to" ["self", "pen"] (spF K eQ) :=
 oO (k := 0) T.f_Live_move_to T.M_Live_move_to zV (Runs.plain (n := 2) (np := 2)) (fun _ _ _ _ _ _ us hl => match us, hl with | [_, _], _ => rfl) fun _ _ _ _ _ _ hr tk nd => by
  unfold iF;exact (aF (fU T.c_Live T.a_Live_place (fv 0) (Ao (fv 1) (gS fI) (gS fI)))
  (aF (fU T.c_Live T.a_Live_heading (fv 0) (Ao (fv 1) (gS fI) (gS fI)))
  (aG (fU T.c_Live T.a_Live_mark (fv 0) (Ao (fv 1) (gS fI) (gS fI))))))
theorem CV (T : Txt w K mg) : OkMK P w K mg base 4 "Live" ["self", "book", "pen"] 2 "pen" (.ref (He.ga K "HOME")) (spF K dU) :=
 okMK (k := 3) (N := ["self", "book", "pen"]) T.f_Live_init sc_Live_init (Runs.plain (n := 3) (np := 3)) rfl (fun _ _ _ _ _ _ us ks l1 l2 => match us, ks, l1, l2 with | [_, _], [_], _, _ => ⟨_, _, _, _, _, _, rfl, rfl, rfl⟩) (fun _ _ _ _ _ _ us ws l1 l2 => match us, ws, l1, l2 with | [_, _], [_], _, _ => rfl) fun cdv A outer s H E hr => by
  have nd : (["self", "book", "pen"] : List Str).Nodup := sc_Live_init.nd;have tk := takes_of (X := cxOf (L2.CX P w) P w K mg base ["self", "book", "pen"] "Live.__init__" (defScope jG) (He.ma K (He.ga K "Live") "__init__") cdv A outer s H E) (E := E) rfl rfl rfl rfl;unfold lZ;exact (aF (bY (bI (wA T) hr tk (aC (fv 2) aI)))
  (aF (fU T.c_Live T.a_Live_book (fv 0) (fv 1))
  (aG (bY (rD (mH T) hr tk T.c_Live (fv 0) (aC (fv 2) aI))))))
theorem sQ (T : Txt w K mg) : OkPr P w K mg base 1 "Live" "pen" (spF K jC) :=
 okP (k := 0) (N := ["self"]) T.f_Live_pen T.P_Live_pen sc_Live_pen (Runs.plain (n := 1) (np := 1)) (fun _ _ _ _ _ _ us hl => match us, hl with | [_], _ => rfl) fun cdv A outer s H E hr => by
  have nd : (["self"] : List Str).Nodup := sc_Live_pen.nd;have tk := takes_of (X := cxOf (L2.CX P w) P w K mg base ["self"] "Live.pen" (defScope kU) (MM K "Live" "pen") cdv A outer s H E) (E := E) rfl rfl rfl rfl;unfold rG;exact (aG (aX (cS dD hY (cS dD hY (dC T.c_Live T.a_Live_place (fv 0)) (dC T.c_Live T.a_Live_heading (fv 0))) (dC T.c_Live T.a_Live_mark (fv 0)))))
theorem dM (T : Txt w K mg) : OkMX P w K mg base 3 "Live" "__setitem__" ["self", "part", "value"] (spF K aT) :=
 oO (k := 2) T.f_Live_setitem T.M_Live_setitem zU (Runs.plain (n := 3) (np := 3)) (fun _ _ _ _ _ _ us hl => match us, hl with | [_, _, _], _ => rfl) fun _ _ _ _ _ _ hr tk nd => by
  unfold eV;exact (aF (bE (eB (cN (bI (HP T) hr tk (aC (fv 1) (aC fI aI))))) (aG (nV T.x_NoPart tk)) aV)
  (aF (bE (PW.pt (kQ (eB (cN (fC (T := "tuple") T.n_isinstance T.n_tuple (fv 2)))) (pw_or1 (bC (sO hr.units) Ep (iE T.n_len (fv 2)) fI)))) (aG (nV T.x_NoNumber tk)) aV)
  (aF (bE (PW.pt (kQ (eB (cN (bI (AV T) hr tk (aC (bM (fv 2) fI) aI)))) (pw_or1 (eB (cN (bI (AV T) hr tk (aC (bM (fv 2) fI) aI))))))) (aG (nV T.x_NoNumber tk)) aV)
  (aG (bE (bC (bF hr.units) s_eq (fv 1) fI) (aG (fU T.c_Live T.a_Live_place (fv 0) (fv 2))) (aG (bE (bC (bF hr.units) s_eq (fv 1) fI) (aG (fU T.c_Live T.a_Live_heading (fv 0) (fv 2))) (aG (fU T.c_Live T.a_Live_mark (fv 0) (fv 2))))))))))
theorem CW (T : Txt w K mg) : OkMX P w K mg base 5 "Live" "__iadd__" ["self", "command"] (spF K lR) :=
 oO (k := 4) T.f_Live_iadd T.M_Live_iadd CJ (Runs.plain (n := 2) (np := 2)) (fun _ _ _ _ _ _ us hl => match us, hl with | [_, _], _ => rfl) fun _ _ _ _ _ _ hr tk nd => by
  unfold oZ;exact (aF (bY (rD (mH T) hr tk T.c_Live (fv 0) (aC (bI (JG T) hr tk (aC (FW (sQ T) hr T.c_Live (fv 0)) (aC (fv 1) aI))) aI)))
  (aG (aX (fv 0))))
theorem CY (T : Txt w K mg) : OkMX P w K mg base 26 "Live" "__call__" ["self", "procedure", "bits"] (spF K oP) :=
 oO (k := 25) T.f_Live_call T.M_Live_call CK (Runs.plain (n := 4) (np := 3)) (fun _ _ _ _ _ _ us hl => match us, hl with | [_, _, _], _ => rfl) fun _ _ _ _ _ _ hr tk nd => by
  unfold pA;exact (aF (cG (i := 3) nd rfl (.inl rfl) (N7 (Oa T) hr tk (aC (dC T.c_Live T.a_Live_book (fv 0)) (aC (fv 1) (aC (fv 2) aI))) (FW (sQ T) hr T.c_Live (fv 0))))
  (aF (bY (rD (mH T) hr tk T.c_Live (fv 0) (aC (bM (fv 3) fI) aI)))
  (aG (aX (bM (fv 3) fI)))))
theorem HR (T : Txt w K mg) : uL P w K mg base 1 "_law_pool" ["_law_script"] (spF K nP) :=
 nO (k := 0) T.f_L_pool T.G_L_pool HD (Runs.plain (n := 2) (np := 1)) (fun _ _ _ _ _ _ us hl => match us, hl with | [_], _ => rfl) fun _ _ _ _ _ _ hr tk nd => by
  unfold qD;exact (aG (aX (cS dD hY (pY (aC fI aI)) (Q4 (Cw (own := [("_law_cell", 1)]) (t := (.nm 1)) rfl nd (rC (Ao (fv 0) rB (gS fI))) (blkOk_by (own := [("_law_cell", 1)]) (N := ["_law_script", "_law_cell"]) (sc := defScope vW) (by decide +kernel)) (fun _ _ _ _ _ => (pg_name (i := 1) nd rfl (.inl rfl))) (fun _ _ _ _ _ => kA) (fun _ _ _ _ _ => (Cy T.n_int (fv 1)))) (pe_one (pY (aC fI aI)))))))
theorem fK (T : Txt w K mg) : uL P w K mg base 1 "_law_draw" ["_law_pool_here", "_law_many"] (spF K eA) :=
 nO (k := 0) T.f_L_draw_2 T.G_L_draw_2 DQ (Runs.plain (n := 5) (np := 2)) (fun _ _ _ _ _ _ us hl => match us, hl with | [_, _], _ => rfl) fun _ _ _ _ _ _ hr tk nd => by
  unfold rJ;exact (aF (FU (fv 0) fI fI)
  (aF (cG (i := 2) nd rfl (.inl rfl) (cS dD hY fI (cS tR BY (Cy T.n_int (bM (fv 0) fI)) (cS oM yY (iE T.n_len (fv 0)) fI))))
  (aF (cG (i := 3) nd rfl (.inl rfl) (Cy T.n_int (bM (fv 0) (fv 2))))
  (aF (bE (bC OZ s_ge (fv 3) (cS mT vU fI fI)) (aF (Mz (cS HN La (fv 3) (fv 1)) (fv 0) (fv 2))
  (aG (aX (cS tR BY (fv 3) (fv 1))))) aV)
  (aF (cG (i := 4) nd rfl (.inl rfl) (cS tR BY (cS hJ pT (Cy T.n_int (cS dD hY (cS dD hY (fv 3) (cS hJ pT fI (bM (fv 0) fI))) fI)) fI) fI))
  (aF (cG (i := 4) nd rfl (.inl rfl) (cS tR BY (cS hJ pT (fv 4) (cS dD hY (cS AS Es (fv 4) fI) fI)) fI))
  (aF (cG (i := 4) nd rfl (.inl rfl) (cS tR BY (cS hJ pT (fv 4) (cS dD hY (cS AS Es (fv 4) fI) fI)) fI))
  (aG (aX (cS tR BY (cS AS Es (fv 4) fI) (fv 1)))))))))))
theorem sR (T : Txt w K mg) : ∀ n, uL P w K mg base (0 + n + 1) "_law_same" ["_law_one", "_law_other"] (spF K (jD n))
 | 0 => wF T.f_L_same_2 T.G_L_same_2 yX (fun _ _ _ _ _ _ us hl => match us, hl with | [_, _], _ => rfl)
 | n + 1 => by
  have ih_L_same_2 := sR T n;exact nO (k := 0 + n + 1) T.f_L_same_2 T.G_L_same_2 yX (Runs.plain (n := 3) (np := 2)) (fun _ _ _ _ _ _ us hl => match us, hl with | [_, _], _ => rfl) fun _ _ _ _ _ _ hr tk nd => by
   unfold rH mX;exact (aF (bE (cN (KW (T := "list") (U := "tuple") T.n_isinstance T.n_list T.n_tuple (fv 1))) (aF (bE (PW.pt (kQ (eB (cN (KW (T := "list") (U := "tuple") T.n_isinstance T.n_list T.n_tuple (fv 0)))) (pw_or1 (bC (sO hr.units) Ep (fC (T := "list") T.n_isinstance T.n_list (fv 0)) (fC (T := "list") T.n_isinstance T.n_list (fv 1)))))) (aG (aX fB)) aV)
  (aG (aX (gT (tA (bF hr.units) s_eq (iE T.n_len (fv 0)) (iE T.n_len (fv 1))) (pe_one (KY T.n_all (Cw (own := [("_law_k", 2)]) (t := (.nm 2)) rfl nd (wO (by rfl) T.n_range (iE T.n_len (fv 1))) (blkOk_by (own := [("_law_k", 2)]) (N := ["_law_one", "_law_other", "_law_k"]) (sc := defScope qN) (by decide +kernel)) (fun _ _ _ _ _ => (pg_name (i := 2) nd rfl (.inl rfl))) (fun _ _ _ _ _ => kA) (fun _ _ _ _ _ => (bI ih_L_same_2 hr takes0 (aC (bM (fv 0) (fv 2)) (aC (bM (fv 1) (fv 2)) aI)) (by omega)))))))))) aV)
  (aF (bE (PW.pt (kQ (cN (fC (T := "bool") T.n_isinstance T.n_bool (fv 0))) (pw_or1 (cN (fC (T := "bool") T.n_isinstance T.n_bool (fv 1)))))) (aG (aX (gT (fC (T := "bool") T.n_isinstance T.n_bool (fv 0)) (gT (fC (T := "bool") T.n_isinstance T.n_bool (fv 1)) (pe_one (tA (bF hr.units) s_eq (fv 0) (fv 1))))))) aV)
  (aF (bE (cN (fC (T := "int") T.n_isinstance T.n_int (fv 1))) (aG (aX (gT (fC (T := "int") T.n_isinstance T.n_int (fv 0)) (pe_one (tA (bF hr.units) s_eq (fv 0) (fv 1)))))) aV)
  (aF (bE (cN (fC (T := "str") T.n_isinstance T.n_str (fv 1))) (aG (aX (gT (fC (T := "str") T.n_isinstance T.n_str (fv 0)) (pe_one (tA (bF hr.units) s_eq (fv 0) (fv 1)))))) aV)
  (aG (aX (gT (tA CU Iv (fv 0) fN) (pe_one (tA CU Iv (fv 1) fN)))))))))
theorem pK (T : Txt w K mg) : uL P w K mg base 2 "_law_number" ["_law_pool_here"] (spF K gL) :=
 nO (k := 1) T.f_L_number_3 T.G_L_number_3 BG (Runs.plain (n := 2) (np := 1)) (fun _ _ _ _ _ _ us hl => match us, hl with | [_], _ => rfl) fun _ _ _ _ _ _ hr tk nd => by
  unfold mZ;exact (aF (cG (i := 1) nd rfl (.inl rfl) (bI (fK T) hr tk (aC (fv 0) (aC fI aI))))
  (aF (bE (bC (bF hr.units) s_eq (fv 1) fI) (aG (aX (cS oM yY (bI (fK T) hr tk (aC (fv 0) (aC fI aI))) fI))) aV)
  (aF (bE (bC (bF hr.units) s_eq (fv 1) fI) (aG (aX (cS oM yY (bI (fK T) hr tk (aC (fv 0) (aC (cS dD hY (cS hJ pT fI (cS mT vU fI fI)) fI) aI))) (cS mT vU fI fI)))) aV)
  (aF (bE (bC (bF hr.units) s_eq (fv 1) fI) (aG (aX (cS dD hY (cS hJ pT (cS oM yY (bI (fK T) hr tk (aC (fv 0) (aC (cS dD hY (cS hJ pT fI (cS mT vU fI fI)) fI) aI))) (cS mT vU fI fI)) (cS mT vU fI fI)) (bI (fK T) hr tk (aC (fv 0) (aC (cS mT vU fI fI) aI)))))) aV)
  (aG (aX (cS oM yY (bI (fK T) hr tk (aC (fv 0) (aC (cS dD hY (cS hJ pT fI (cS mT vU fI fI)) fI) aI))) (cS mT vU fI fI))))))))
theorem HQ (T : Txt w K mg) : uL P w K mg base 27 "_law_work" ["_law_live", "_law_rows", "_law_kind"] (spF K wH) :=
 nO (k := 26) T.f_L_work T.G_L_work HC (Runs.plain (n := 4) (np := 3)) (fun _ _ _ _ _ _ us hl => match us, hl with | [_, _, _], _ => rfl) fun _ _ _ _ _ _ hr tk nd => by
  unfold xI;exact (aF (oS (dM T) hr tk T.nq_Live (bM (fv 1) fI) (fv 0) fI)
  (aF (oS (dM T) hr tk T.nq_Live (bM (fv 1) fI) (fv 0) fI)
  (aF (oS (dM T) hr tk T.nq_Live (bM (fv 1) fI) (fv 0) fI)
  (aF (bE (bC (bF hr.units) s_eq (fv 2) fI) (aG (KJ (kk := 0) (CW T) hr tk T.sf_Live nd rfl (.inl rfl) (cZ (aC fS (aC (cS dD hY fI (cS hJ pT (bM (bM (fv 1) fI) fI) (bM (bM (fv 1) fI) fI))) aI))))) (aG (bE (bC (bF hr.units) s_eq (fv 2) fI) (aG (oS (dM T) hr tk T.nq_Live (bM (fv 1) fI) (fv 0) fI)) (aG (bE (bC (bF hr.units) s_eq (fv 2) fI) (aG (bY (N6 (ii := 0) (CY T) hr tk (N1 T.f_Live_call) rfl (by first | exact xO rfl | exact rW (xO rfl) | exact rW (rW rfl)) (aC fI (aC (pY (aC fI aI)) aI))))) (aG (bE (bC (bF hr.units) s_eq (fv 2) fI) (aG (aX (N4 tk (bM (bM (fv 1) fI) fI) (cS oM yY (bM (bM (fv 1) fI) fI) (bM (bM (fv 1) fI) fI))))) (aG (bE (bC (bF hr.units) s_eq (fv 2) fI) (aF (cG (i := 3) nd rfl (.inl rfl) Q6)
  (aG (aX (N5 hr.units tk (fv 3) (bM (bM (fv 1) fI) fI))))) aV)))))))))
  (aG (aX (bM (fv 1) fI)))))))
theorem qQ (T : Txt w K mg) (TB : TBs tfs K mg base) : ∀ n, uL P w K mg base (29 + 3 * n + 1) "_law_wrapped" ["_law_live", "_law_rows", "_law_kind", "_law_depth"] (spF K (cW n))
 | 0 => wF T.f_L_wrapped T.G_L_wrapped vQ (fun _ _ _ _ _ _ us hl => match us, hl with | [_, _, _, _], _ => rfl)
 | n + 1 => by
  have ih_L_wrapped := qQ T TB n;exact Nh (k := 29 + 3 * n + 3) T.f_L_wrapped T.G_L_wrapped vQ (Runs.plain (n := 5) (np := 4)) (fun _ _ _ _ _ _ us hl => match us, hl with | [_, _, _, _], _ => rfl) fun _ _ _ _ _ _ hcd hr tk nd => by
   unfold mE;exact (aF (bE (bC (bF hr.units) s_eq (fv 3) fI) (aG (aX (bI (HQ T) hr tk (aC (fv 0) (aC (fv 1) (aC (fv 2) aI))) (by omega)))) aV)
  (aF (cG (i := 4) nd rfl (.inl rfl) (FX (j := (29 + 3 * n + 1)) T.f_Live_kept T.M_Live_kept qL (fun _ _ _ _ _ _ us hl => match us, hl with | [_, _], _ => rfl) rfl rfl rfl rfl rfl T.c_Live T.a_Live_place T.a_Live_heading (TB "_law_wrapped" (by decide)) hcd (by show (_ : Str) = (("_law_wrapped" : Str) ++ ".<locals>.") ++ "<lambda>"; decide +kernel) rfl (Cd (N := ["_law_live", "_law_rows", "_law_kind", "_law_depth", "_law_found"]) (sc := defScope oJ) (by decide +kernel)) (fun _ _ _ _ _ => rfl) tk hr (fv 0) (fun _ _ _ _ _ _ _ hr => (bI ih_L_wrapped hr xU (aC (fv 5) (aC (fv 1) (aC (fv 2) (aC (cS oM yY (fv 3) fI) aI)))) (by omega))) (by omega)))
  (aF (oS (dM T) hr tk T.nq_Live (bM (fv 1) fI) (fv 0) fI (by omega))
  (aG (aX (fv 4))))))
theorem F0 (T : Txt w K mg) (TB : TBs tfs K mg base) : uL P w K mg base 42 "_law_tried" ["_law_live", "_law_other", "_law_rows", "_law_kind", "_law_depth", "_law_outer"] (spF K tT) :=
 Nh (k := 41) T.f_L_tried T.G_L_tried Em (Runs.plain (n := 9) (np := 6)) (fun _ _ _ _ _ _ us hl => match us, hl with | [_, _, _, _, _, _], _ => rfl) fun _ _ _ _ _ _ hcd hr tk nd => by
  unfold tW;exact (aF (cG (i := 6) nd rfl (.inl rfl) fI)
  (aF (cG (i := 7) nd rfl (.inl rfl) fN)
  (aF (My T.xmb ⟨(fun _ _ _ => rfl), ⟨(fun _ _ _ => rfl), ⟨trivial, ⟨(fun _ _ _ => rfl), ⟨(fun _ _ _ => rfl), trivial⟩⟩⟩⟩⟩ rfl rfl tk (fun W pn xe tk po => (aG (bE (cN (fv 5)) (aG (cG (i := 7) nd rfl (.inl rfl) (FX (j := 39) T.f_Live_kept T.M_Live_kept qL (fun _ _ _ _ _ _ us hl => match us, hl with | [_, _], _ => rfl) rfl rfl rfl rfl rfl T.c_Live T.a_Live_place T.a_Live_heading (TB "_law_tried" (by decide)) hcd (by show (_ : Str) = (("_law_tried" : Str) ++ ".<locals>.") ++ "<lambda>"; decide +kernel) rfl (Cd (N := ["_law_live", "_law_other", "_law_rows", "_law_kind", "_law_depth", "_law_outer", "_law_sort", "_law_value", "e"]) (sc := defScope pU) (by decide +kernel)) (fun _ _ _ _ _ => rfl) tk hr (fv 0) (fun _ _ _ _ _ _ _ hr => (bI (qQ T TB 3) hr xU (aC (fv 1) (aC (fv 2) (aC (fv 3) (aC (fv 4) aI))))))))) (aG (cG (i := 7) nd rfl (.inl rfl) (FX (j := 39) T.f_Live_kept T.M_Live_kept qL (fun _ _ _ _ _ _ us hl => match us, hl with | [_, _], _ => rfl) rfl rfl rfl rfl rfl T.c_Live T.a_Live_place T.a_Live_heading (TB "_law_tried" (by decide)) hcd (by show (_ : Str) = (("_law_tried" : Str) ++ ".<locals>.") ++ "<lambda>"; decide +kernel) rfl (Cd (N := ["_law_live", "_law_other", "_law_rows", "_law_kind", "_law_depth", "_law_outer", "_law_sort", "_law_value", "e"]) (sc := defScope pU) (by decide +kernel)) (fun _ _ _ _ _ => rfl) tk hr (fv 0) (fun _ _ _ _ _ _ _ hr => (bI (qQ T TB 3) hr xU (aC (fv 9) (aC (fv 2) (aC (fv 3) (aC (fv 4) aI)))))))))))) (Jj (k := 8) (i := 6) (it := .c (.int 1) (.int 1)) T.g_NoCommand nd rfl rfl rfl (.inl rfl) (fun _ _ _ _ _ _ _ => pe_int) (Jj (k := 8) (i := 6) (it := .c (.int 2) (.int 2)) T.g_NoPart nd rfl rfl rfl (.inl rfl) (fun _ _ _ _ _ _ _ => pe_int) (Jj (k := 8) (i := 6) (it := .ne "index" 3 10) T.g_NoRun nd rfl rfl rfl (.inl rfl) (fun a oe cls dd pn hz hf => xb_ne T.xa_NoRun.rd (T.xa_NoRun.no "index" (by decide)) hz hf hr.units T.n_int (cv 8) pe_int pe_int pe_int) (Ji (i := 6) rfl T.n_ZeroDivisionError boot_ZeroDivisionError nd rfl (.inl rfl) (fun _ _ _ => pe_int) (Ji (i := 6) rfl T.n_KeyError boot_KeyError nd rfl (.inl rfl) (fun _ _ _ => pe_int) PF))))))
  (aG (aX (cZ (aC (fv 6) (aC (fv 7) aI))))))))
theorem law_fn (T : Txt w K mg) : ∃ fd, (∀ (s : Shared) (us : List Value), us.length = (["_law_script"] : List Str).length -> BindsTo s fd ⟨us, []⟩ ((["_law_script"] : List Str).zip us)) /\ ∀ base, TBs tfs K mg base -> FnOk P w K mg base (L2.CX P w) 43 (He.ga K "law") fd ["_law_script"] (spF K m_law_k96) :=
 JQ (tf := tfs) (N := ["_law_script", "_law_pool_here", "_law_live", "_law_other", "_law_start", "_law_turn", "_law_rows", "_law_kind", "_law_told", "_law_due", "_law_k"]) T.f_law_k96 sc_law_k96 (Runs.cut (n := 11) (np := 1) (mb := qB)) (fun _ _ _ _ _ _ us hl => match us, hl with | [_], _ => rfl) fun base TB cdv A outer s H E hr => by
  have nd : (["_law_script", "_law_pool_here", "_law_live", "_law_other", "_law_start", "_law_turn", "_law_rows", "_law_kind", "_law_told", "_law_due", "_law_k"] : List Str).Nodup := sc_law_k96.nd;have tk := takes_of (X := cxOf (L2.CX P w) P w K mg base ["_law_script", "_law_pool_here", "_law_live", "_law_other", "_law_start", "_law_turn", "_law_rows", "_law_kind", "_law_told", "_law_due", "_law_k"] "law" (defScope nE) (He.ga K "law") cdv A outer s H E) (E := E) rfl rfl rfl rfl;unfold qB lJ lX;exact (aF (cG (i := 1) nd rfl (.inr rfl) (bI (HR T) hr tk (aC (fv 0) aI)))
  (aF (cG (i := 2) nd rfl (.inl rfl) (N3 T.T_Live (CV T) hr tk T.t_HOME (aC (KU T.T_Book (CZ T) hr tk (aC (pY (aC (pY (aC (cZ (aC fS aI)) aI)) aI)) aI)) aI)))
  (aF (cG (i := 3) nd rfl (.inl rfl) (fv 2))
  (aF (cG (i := 4) nd rfl (.inl rfl) (N2 T.n_tuple (Cw (own := [("_law_k", 10)]) (t := (.nm 10)) rfl nd (wO (by rfl) T.n_range fI) (blkOk_by (own := [("_law_k", 10)]) (N := ["_law_script", "_law_pool_here", "_law_live", "_law_other", "_law_start", "_law_turn", "_law_rows", "_law_kind", "_law_told", "_law_due", "_law_k"]) (sc := defScope nE) (by decide +kernel)) (fun _ _ _ _ _ => (pg_name (i := 10) nd rfl (.inl rfl))) (fun _ _ _ _ _ => kA) (fun _ _ _ _ _ => (bI (pK T) hr takes0 (aC (fv 1) aI))))))
  (aF (oS (dM T) hr tk T.nq_Live (Ao (fv 4) rB (gS fI)) (fv 2) fI)
  (aF (oS (dM T) hr tk T.nq_Live (Ao (fv 4) (gS fI) (gS fI)) (fv 2) fI)
  (aF (oS (dM T) hr tk T.nq_Live (Ao (fv 4) (gS fI) rB) (fv 2) fI)
  (aF (uY (t := (.nm 5)) (passes_of rfl) rfl (wO (by rfl) T.n_range fI) (pg_name (i := 5) nd rfl (.inl rfl)) (nU [5, 6, 7, 8, 9] (aF (KI (i := 6) (own := [("_law_k", 10)]) (t := (.nm 10)) rfl nd rfl rfl (sw_true rfl rfl rfl (by decide +kernel)) (wO (by rfl) T.n_range fI) (blkOk_by (own := [("_law_k", 10)]) (N := ["_law_script", "_law_pool_here", "_law_live", "_law_other", "_law_start", "_law_turn", "_law_rows", "_law_kind", "_law_told", "_law_due", "_law_k"]) (sc := defScope nE) (by decide +kernel)) (fun _ _ _ _ _ => (pg_name (i := 10) nd rfl (.inl rfl))) (fun _ _ _ _ _ => kA) (fun _ _ _ _ _ => (cZ (aC (bI (pK T) hr takes0 (aC (fv 1) aI)) (aC (bI (pK T) hr takes0 (aC (fv 1) aI)) aI)))))
  (aF (cG (i := 7) nd rfl (.inl rfl) (bI (fK T) hr tk (aC (fv 1) (aC fI aI))))
  (aF (cG (i := 8) nd rfl (.inl rfl) (bI (F0 T TB) hr tk (aC (fv 2) (aC (fv 3) (aC (fv 6) (aC (fv 7) (aC (bI (fK T) hr tk (aC (fv 1) (aC fI aI))) (aC (tA (bF hr.units) s_eq (bI (fK T) hr tk (aC (fv 1) (aC fI aI))) fI) aI))))))))
  (aF (cG (i := 9) nd rfl (.inl rfl) (cZ (aC (fv 7) (aC fN aI))))
  (aF (bE (bC (bF hr.units) s_eq (fv 7) fI) (aG (cG (i := 9) nd rfl (.inl rfl) (cZ (aC fI (aC (bM (fv 6) fI) aI))))) aV)
  (aF (bE (eB (cN (bI (sR T 20) hr tk (aC (fv 8) (aC (fv 9) aI))))) (aG (aX fB)) aV)
  (aG (bE (eB (cN (bI (sR T 20) hr tk (aC (FW (sQ T) hr T.c_Live (fv 2)) (aC (cS dD hY (Ao (fv 4) rB (gS fI)) (bM (fv 6) fI)) aI))))) (aG (aX fB)) aV))))))))))
  (aG (aX fB))))))))))
end
theorem wQ {K : aA} (h : ex K = true) (i : Nat) {b : Bool} (e : (exs K)[i]? = some b := by rfl) : b = true := bD.mp h b (aZ e)
theorem ob_eq (s : AC) : ob s = hk.obs s.abs := Ls (HandSHeadRun.getT_eq s)
theorem txt {w : World} {K : aA} {h : Heap} {mg : Str -> Option Value} (X : K.In h) (G : h.Ns mainGlobals mg) (c : SaysU fa fn ts ex gn tfs w h K) : Txt w K mg where
  n_isinstance := He.free_ok X G (c.t.d.fact 0 (f := .free "isinstance") rfl)
  n_int := He.free_ok X G (c.t.d.fact 1 (f := .free "int") rfl)
  n_bool := He.free_ok X G (c.t.d.fact 2 (f := .free "bool") rfl)
  n_tuple := He.free_ok X G (c.t.d.fact 3 (f := .free "tuple") rfl)
  n_len := He.free_ok X G (c.t.d.fact 4 (f := .free "len") rfl)
  n_all := He.free_ok X G (c.t.d.fact 5 (f := .free "all") rfl)
  n_str := He.free_ok X G (c.t.d.fact 6 (f := .free "str") rfl)
  lim := Oq (wQ c.more 0) (IC c.t 0 (t := F7) rfl)
  k_LIMITS := c.t.tab 0 (t := F7) rfl
  g_LIMITS := He.glo_ok X G (c.t.d.fact 7 (f := .glo "LIMITS") rfl)
  n_range := He.free_ok X G (c.t.d.fact 8 (f := .free "range") rfl)
  x_NoPen := AD (wQ c.more 1) (He.glo_ok X G (c.t.d.fact 9 (f := .glo "NoPen") rfl))
  x_NoCommand := AD (wQ c.more 2) (He.glo_ok X G (c.t.d.fact 10 (f := .glo "NoCommand") rfl))
  i_DEEPEST := He.int_ok X G (c.t.d.fact 11 (f := .int "DEEPEST" 3) rfl)
  n_list := He.free_ok X G (c.t.d.fact 12 (f := .free "list") rfl)
  n_enumerate := He.free_ok X G (c.t.d.fact 13 (f := .free "enumerate") rfl)
  i_MOST_IN_LIST := He.int_ok X G (c.t.d.fact 14 (f := .int "MOST_IN_LIST" 8) rfl)
  i_MOST_IN_PROCEDURE := He.int_ok X G (c.t.d.fact 15 (f := .int "MOST_IN_PROCEDURE" 12) rfl)
  i_MOST_PROCEDURES := He.int_ok X G (c.t.d.fact 16 (f := .int "MOST_PROCEDURES" 3) rfl)
  xa_NoBook := IL (wQ c.more 3) (He.glo_ok X G (c.t.d.fact 17 (f := .glo "NoBook") rfl))
  fx_NoBook := c.t.d.def_ 0 (d := Aw) rfl
  c_Book := He.cls_ok (c.t.d.fact 18 (f := .cls "Book") rfl)
  a_Book_own := He.noat_ok (c.t.d.fact 19 (f := .noat "Book" "own") rfl)
  c_Execution := He.cls_ok (c.t.d.fact 20 (f := .cls "Execution") rfl)
  a_Execution_own := He.noat_ok (c.t.d.fact 21 (f := .noat "Execution" "own") rfl)
  a_Execution_bits := He.noat_ok (c.t.d.fact 22 (f := .noat "Execution" "bits") rfl)
  a_Execution_taken := He.noat_ok (c.t.d.fact 23 (f := .noat "Execution" "taken") rfl)
  a_Execution_deeds := He.noat_ok (c.t.d.fact 24 (f := .noat "Execution" "deeds") rfl)
  a_Execution_stack := He.noat_ok (c.t.d.fact 25 (f := .noat "Execution" "stack") rfl)
  a_Execution_active := He.noat_ok (c.t.d.fact 26 (f := .noat "Execution" "active") rfl)
  a_Execution_ended := He.noat_ok (c.t.d.fact 27 (f := .noat "Execution" "ended") rfl)
  xa_NoRun := IL (wQ c.more 4) (He.glo_ok X G (c.t.d.fact 28 (f := .glo "NoRun") rfl))
  fx_NoRun := c.t.d.def_ 1 (d := C0) rfl
  x_NoProcedure := AD (wQ c.more 5) (He.glo_ok X G (c.t.d.fact 29 (f := .glo "NoProcedure") rfl))
  T_Execution := ⟨He.cls_ok (c.t.d.fact 30 (f := .cls "Execution") rfl), He.mkr_ok (c.t.d.fact 31 (f := .mkr "Execution") rfl), He.glo_ok X G (c.t.d.fact 32 (f := .glo "Execution") rfl)⟩
  c_Live := He.cls_ok (c.t.d.fact 33 (f := .cls "Live") rfl)
  a_Live_place := He.noat_ok (c.t.d.fact 34 (f := .noat "Live" "place") rfl)
  a_Live_heading := He.noat_ok (c.t.d.fact 35 (f := .noat "Live" "heading") rfl)
  a_Live_mark := He.noat_ok (c.t.d.fact 36 (f := .noat "Live" "mark") rfl)
  a_Live_book := He.noat_ok (c.t.d.fact 37 (f := .noat "Live" "book") rfl)
  x_NoPart := AD (wQ c.more 6) (He.glo_ok X G (c.t.d.fact 38 (f := .glo "NoPart") rfl))
  x_NoNumber := AD (wQ c.more 7) (He.glo_ok X G (c.t.d.fact 39 (f := .glo "NoNumber") rfl))
  nq_Live := wQ c.more 8
  sf_Live := wQ c.more 9
  n_KeyError := He.free_ok X G (c.t.d.fact 40 (f := .free "KeyError") rfl)
  n_ZeroDivisionError := He.free_ok X G (c.t.d.fact 41 (f := .free "ZeroDivisionError") rfl)
  g_NoRun := He.glo_ok X G (c.t.d.fact 42 (f := .glo "NoRun") rfl)
  g_NoPart := He.glo_ok X G (c.t.d.fact 43 (f := .glo "NoPart") rfl)
  g_NoCommand := He.glo_ok X G (c.t.d.fact 44 (f := .glo "NoCommand") rfl)
  xmb := LG (wQ c.more 10)
  T_Book := ⟨He.cls_ok (c.t.d.fact 45 (f := .cls "Book") rfl), He.mkr_ok (c.t.d.fact 46 (f := .mkr "Book") rfl), He.glo_ok X G (c.t.d.fact 47 (f := .glo "Book") rfl)⟩
  T_Live := ⟨He.cls_ok (c.t.d.fact 48 (f := .cls "Live") rfl), He.mkr_ok (c.t.d.fact 49 (f := .mkr "Live") rfl), He.glo_ok X G (c.t.d.fact 50 (f := .glo "Live") rfl)⟩
  t_HOME := fun Bk H => ⟨_, _, rfl, He.tupB_ok (wQ c.more 11) H, Iz⟩
  G_is_integer := He.glo_ok X G (c.t.d.fact 51 (f := .glo "is_integer") rfl)
  f_is_integer := c.t.d.def_ 2 (d := uF) rfl
  G_is_bit := He.glo_ok X G (c.t.d.fact 52 (f := .glo "is_bit") rfl)
  f_is_bit := c.t.d.def_ 3 (d := C3) rfl
  G_is_pen := He.glo_ok X G (c.t.d.fact 53 (f := .glo "is_pen") rfl)
  f_is_pen := c.t.d.def_ 4 (d := C2) rfl
  G_is_command := He.glo_ok X G (c.t.d.fact 54 (f := .glo "is_command") rfl)
  f_is_command := c.t.d.def_ 5 (d := uG) rfl
  G_executed := He.glo_ok X G (c.t.d.fact 55 (f := .glo "executed") rfl)
  f_executed := c.t.d.def_ 6 (d := zK) rfl
  G_check_pen := He.glo_ok X G (c.t.d.fact 56 (f := .glo "check_pen") rfl)
  f_check_pen := c.t.d.def_ 7 (d := wU) rfl
  G_moved := He.glo_ok X G (c.t.d.fact 57 (f := .glo "moved") rfl)
  f_moved := c.t.d.def_ 8 (d := EH) rfl
  G_blocks_of := He.glo_ok X G (c.t.d.fact 58 (f := .glo "blocks_of") rfl)
  f_blocks_of := c.t.d.def_ 9 (d := wV) rfl
  G_with_blocks := He.glo_ok X G (c.t.d.fact 59 (f := .glo "with_blocks") rfl)
  f_with_blocks := c.t.d.def_ 10 (d := tH) rfl
  G_copied_block := He.glo_ok X G (c.t.d.fact 60 (f := .glo "copied_block") rfl)
  f_copied_block := c.t.d.def_ 11 (d := rR) rfl
  G_copied_statement := He.glo_ok X G (c.t.d.fact 61 (f := .glo "copied_statement") rfl)
  f_copied_statement := c.t.d.def_ 12 (d := mO) rfl
  G_well_formed := He.glo_ok X G (c.t.d.fact 62 (f := .glo "well_formed") rfl)
  f_well_formed := c.t.d.def_ 13 (d := tI) rfl
  G_first_fault := He.glo_ok X G (c.t.d.fact 63 (f := .glo "first_fault") rfl)
  f_first_fault := c.t.d.def_ 14 (d := tK) rfl
  M_Book_init := He.meth_ok (c.t.d.fact 64 (f := .meth "Book" "__init__") rfl)
  f_Book_init := c.t.d.def_ 15 (d := xB) rfl
  M_Book_len := He.meth_ok (c.t.d.fact 65 (f := .meth "Book" "__len__") rfl)
  f_Book_len := c.t.d.def_ 16 (d := zN) rfl
  M_Book_bodies := He.meth_ok (c.t.d.fact 66 (f := .meth "Book" "bodies") rfl)
  f_Book_bodies := c.t.d.def_ 17 (d := tL) rfl
  G_has_procedure := He.glo_ok X G (c.t.d.fact 67 (f := .glo "has_procedure") rfl)
  f_has_procedure := c.t.d.def_ 18 (d := pZ) rfl
  M_Execution_init := He.meth_ok (c.t.d.fact 68 (f := .meth "Execution" "__init__") rfl)
  f_Execution_init := c.t.d.def_ 19 (d := oX) rfl
  M_Execution_take := He.meth_ok (c.t.d.fact 69 (f := .meth "Execution" "take") rfl)
  f_Execution_take := c.t.d.def_ 20 (d := oV) rfl
  M_Execution_enter := He.meth_ok (c.t.d.fact 70 (f := .meth "Execution" "enter") rfl)
  f_Execution_enter := c.t.d.def_ 21 (d := nY) rfl
  M_Execution_leave := He.meth_ok (c.t.d.fact 71 (f := .meth "Execution" "leave") rfl)
  f_Execution_leave := c.t.d.def_ 22 (d := nX) rfl
  M_Execution_unwind := He.meth_ok (c.t.d.fact 72 (f := .meth "Execution" "unwind") rfl)
  f_Execution_unwind := c.t.d.def_ 23 (d := mP) rfl
  M_Execution_begin := He.meth_ok (c.t.d.fact 73 (f := .meth "Execution" "begin") rfl)
  f_Execution_begin := c.t.d.def_ 24 (d := nZ) rfl
  M_Execution_step := He.meth_ok (c.t.d.fact 74 (f := .meth "Execution" "step") rfl)
  f_Execution_step := c.t.d.def_ 25 (d := oW) rfl
  G_executed_run := He.glo_ok X G (c.t.d.fact 75 (f := .glo "executed_run") rfl)
  f_executed_run := c.t.d.def_ 26 (d := rQ) rfl
  G_pens_behind := He.glo_ok X G (c.t.d.fact 76 (f := .glo "pens_behind") rfl)
  f_pens_behind := c.t.d.def_ 27 (d := tJ) rfl
  G_ran := He.glo_ok X G (c.t.d.fact 77 (f := .glo "ran") rfl)
  f_ran := c.t.d.def_ 28 (d := Kg) rfl
  G_whole := He.glo_ok X G (c.t.d.fact 78 (f := .glo "whole") rfl)
  f_whole := c.t.d.def_ 29 (d := EG) rfl
  G_within := He.glo_ok X G (c.t.d.fact 79 (f := .glo "within") rfl)
  f_within := c.t.d.def_ 30 (d := C1) rfl
  M_Live_move_to := He.meth_ok (c.t.d.fact 80 (f := .meth "Live" "move_to") rfl)
  f_Live_move_to := c.t.d.def_ 31 (d := rT) rfl
  f_Live_init := c.t.d.def_ 32 (d := wX) rfl
  P_Live_pen := J6 (wQ c.more 12)
  f_Live_pen := c.gns.def_ 0 (d := zJ) rfl
  M_Live_setitem := He.meth_ok (c.t.d.fact 81 (f := .meth "Live" "__setitem__") rfl)
  f_Live_setitem := c.t.d.def_ 33 (d := rS) rfl
  M_Live_iadd := He.meth_ok (c.t.d.fact 82 (f := .meth "Live" "__iadd__") rfl)
  f_Live_iadd := c.t.d.def_ 34 (d := wY) rfl
  M_Live_call := He.meth_ok (c.t.d.fact 83 (f := .meth "Live" "__call__") rfl)
  f_Live_call := c.t.d.def_ 35 (d := wZ) rfl
  G_L_pool := He.glo_ok X G (c.t.d.fact 84 (f := .glo "_law_pool") rfl)
  f_L_pool := c.t.d.def_ 36 (d := C5) rfl
  G_L_draw_2 := He.glo_ok X G (c.t.d.fact 85 (f := .glo "_law_draw") rfl)
  f_L_draw_2 := c.t.d.def_ 37 (d := zM) rfl
  G_L_same_2 := He.glo_ok X G (c.t.d.fact 86 (f := .glo "_law_same") rfl)
  f_L_same_2 := c.t.d.def_ 38 (d := zL) rfl
  G_L_number_3 := He.glo_ok X G (c.t.d.fact 87 (f := .glo "_law_number") rfl)
  f_L_number_3 := c.t.d.def_ 39 (d := uH) rfl
  G_L_work := He.glo_ok X G (c.t.d.fact 88 (f := .glo "_law_work") rfl)
  f_L_work := c.t.d.def_ 40 (d := C4) rfl
  G_L_wrapped := He.glo_ok X G (c.t.d.fact 89 (f := .glo "_law_wrapped") rfl)
  f_L_wrapped := c.t.d.def_ 41 (d := xA) rfl
  G_L_tried := He.glo_ok X G (c.t.d.fact 90 (f := .glo "_law_tried") rfl)
  f_L_tried := c.t.d.def_ 42 (d := Ay) rfl
  G_law_k96 := He.glo_ok X G (c.t.d.fact 91 (f := .glo "law") rfl)
  f_law_k96 := c.t.d.def_ 43 (d := Ax) rfl
  M_Live_kept := He.meth_ok (c.t.d.fact 92 (f := .meth "Live" "kept") rfl)
  f_Live_kept := c.t.d.def_ 44 (d := wW) rfl
  tnd := Of (wQ c.more 13)
end PHZ
namespace PH
open PySem PySem.Spec PyProof.Rows L2
theorem atI0 {α : Type} {x : α} {r : List α} : atI (x :: r) 0 = some x := fQ (n := 0) rfl
theorem atI1 {α : Type} {x y : α} {r : List α} : atI (x :: y :: r) 1 = some y := fQ (n := 1) rfl
theorem atI2 {α : Type} {x y z : α} {r : List α} : atI (x :: y :: z :: r) 2 = some z := fQ (n := 2) rfl
theorem atI3 {α : Type} {x y z w : α} {r : List α} : atI (x :: y :: z :: w :: r) 3 = some w := fQ (n := 3) rfl
theorem dN {x : D} {r : List D} {S : aJ} : bQ (.dat (.tup (x :: r))) (.dat (.int 0)) S = .ok (.dat x) S := Bt atI0
theorem kM {x y : D} {r : List D} {S : aJ} : bQ (.dat (.tup (x :: y :: r))) (.dat (.int 1)) S = .ok (.dat y) S := Bt atI1
theorem uV {x y z : D} {r : List D} {S : aJ} : bQ (.dat (.tup (x :: y :: z :: r))) (.dat (.int 2)) S = .ok (.dat z) S := Bt atI2
theorem MC {x y z w : D} {r : List D} {S : aJ} : bQ (.dat (.tup (x :: y :: z :: w :: r))) (.dat (.int 3)) S = .ok (.dat w) S := Bt atI3
theorem Jf {x : D} {r : List D} {S : aJ} : bQ (.dat (.lst (x :: r))) (.dat (.int 0)) S = .ok (.dat x) S := sW atI0
theorem P7 {x y : D} {r : List D} {S : aJ} : bQ (.dat (.lst (x :: y :: r))) (.dat (.int 1)) S = .ok (.dat y) S := sW atI1
def PoolAt (S : aJ) (p : Nat) (ks : List Int) : Prop := S[p]? = some (.lst (ks.map D.int)) /\ 2 <= ks.length
theorem Jn {S : aJ} {p : Nat} {ks : List Int} {k : Int} {n : Nat} {u : Int} (h : S[p]? = some (.lst (ks.map D.int))) (hk : k = (n : Int)) (hu : ks[n]? = some u) : Jo (.cel p) k S = some (.int u) := by
 subst hk;simp only [Jo, h];rw [if_pos (by omega)]
 simp [hu]
theorem DO {S : aJ} {p : Nat} {ks : List Int} {k : Int} {n : Nat} {u : Int} (h : S[p]? = some (.lst (ks.map D.int))) (hk : k = (n : Int)) (hu : n < ks.length) : setC (.cel p) k (.int u) S = some (S.set p (.lst ((ks.set n u).map D.int))) := by
 subst hk;simp only [setC, h];rw [if_pos ⟨by omega, by simpa using hu⟩]
 simp [List.map_set]
theorem Ks {g : Int -> Int -> Int} {o i e : FE} {ρ : Ev} {S : aJ} {p n : Nat} {k u w : Int} {ks : List Int} (ho : o ρ S = .ok (.cel p) S) (hi : i ρ S = .ok (.dat (.int k)) S) (he : e ρ S = .ok (.dat (.int w)) S) (h : S[p]? = some (.lst (ks.map D.int))) (hk : k = (n : Int)) (hu : ks[n]? = some u) :
  Be g o i e ρ S = .next ρ (S.set p (.lst ((ks.set n (g u w)).map D.int))) := by
 simp only [Be, ho, hi, he, pW, Jn h hk hu, DO h hk (aH.mp hu).1]
theorem Ck {S : aJ} {p : Nat} {ks : List Int} {k : Int} {n : Nat} {u : Int} (h : S[p]? = some (.lst (ks.map D.int))) (hk : k = (n : Int)) (hu : ks[n]? = some u) : bQ (.cel p) (.dat (.int k)) S = .ok (.dat (.int u)) S :=
 K8 h (by rw [fQ hk]; simp [hu])
theorem kT {S : aJ} {p : Nat} {c d : Cell} (h : S[p]? = some c) : (S.set p d)[p]? = some d := by
 rw [aP, if_pos rfl, if_pos (aH.mp h).1]
theorem pw18 {S : aJ} : vD (.dat (.int 10)) (.dat (.int 18)) S = .ok (.dat (.int 1000000000000000000)) S := rfl
theorem dw1 (a : Int) : IntMulOk 7919 a := mulL (by decide) (by decide)
theorem dw2 (a : Int) : IntMulOk a 48271 := mulR (by decide) (by decide)
theorem dw3 (a : Int) : CDiv a 1009 := ⟨by decide, by decide⟩
theorem dw4 (a : Int) : CDiv a 2003 := ⟨by decide, by decide⟩
theorem dw5 (a : Int) : CDiv a 11 := ⟨by decide, by decide⟩
theorem dw6 (a b : Int) : IntMulOk (a % 2147483647) b := by
 have h1 : 0 <= a % 2147483647 := oE _ (by decide)
 have h2 : a % 2147483647 < 2147483647 := pR _ (by decide)
 generalize a % 2147483647 = x at h1 h2;exact mulL (by omega) (by omega)
theorem dw7 : (0 : Int) < 2147483647 := by decide
theorem dw8 : (0 : Int) < 2147483399 := by decide
theorem dw9 {a k : Int} {ks : List Int} {S S1 : aJ} {p : Nat} {u : Int} (h0 : 0 < k) (hS1 : S.set p (.lst ((ks.set 0 (u + 1)).map D.int)) = S1) : ∃ (d : Int) (ks' : List Int), bO (Out.ret (.dat (.int (a % k))) S1) = .ok (.dat (.int d)) (S.set p (.lst (ks'.map D.int))) /\ 0 <= d /\ d < k /\ ks'.length = ks.length :=
 ⟨a % k, ks.set 0 (u + 1), by rw [hS1]; rfl, oE _ (by omega), pR _ h0, by simp⟩
inductive Cmd where
 | go (k : Int) | turn (n : Int) | mirror | scale (k : Int) | aim (a b : Int) | place (a b : Int) | mark | ret | exch
def Cmd.d : Cmd -> D
 | .go k => .tup [.str "go", .int k]
 | .turn k => .tup [.str "turn", .int k]
 | .mirror => .tup [.str "mirror"]
 | .scale k => .tup [.str "scale", .int k]
 | .aim a b => .tup [.str "aim", .int a, .int b]
 | .place a b => .tup [.str "place", .int a, .int b]
 | .mark => .tup [.str "mark"]
 | .ret => .tup [.str "return"]
 | .exch => .tup [.str "exchange"]
def Cmd.Ok : Cmd -> Prop
 | .go k => -9 <= k /\ k <= 9
 | .turn k => 1 <= k /\ k <= 3
 | .scale k => -3 <= k /\ k <= 3
 | .aim a b => (-9 <= a /\ a <= 9) /\ -9 <= b /\ b <= 9
 | .place a b => (-9 <= a /\ a <= 9) /\ -9 <= b /\ b <= 9
 | _ => True
abbrev PL (ks : List Int) : Cell := .lst (ks.map D.int)
theorem PoolAt.next {S : aJ} {p : Nat} {ks ks' : List Int} (h : PoolAt S p ks) (l : ks'.length = ks.length) : PoolAt (S.set p (PL ks')) p ks' := ⟨kT h.1, by rw [l]; exact h.2⟩
inductive Stt where
 | cmd (c : Cmd) | fin (w : Int) | keep (b : List Stt) | again (b : List Stt) | either (a b : List Stt) | call (g : Int) (s : Bool) (a b : List Stt) | bad | odd (x : D)
mutual
def Stt.d : Stt -> D
 | .cmd c => c.d
 | .fin w => .tup [.str "end", .int w]
 | .keep b => .tup [.str "keep", .lst (cR b)]
 | .again b => .tup [.str "again", .lst (cR b)]
 | .either a b => .tup [.str "either", .lst (cR a), .lst (cR b)]
 | .call g s a b => .tup [.str "call", .int g, .bl s, .lst [.lst (cR a), .lst (cR b)]]
 | .bad => .tup [.str "bad"]
 | .odd x => x
def cR : List Stt -> List D
 | [] => []
 | s :: r => s.d :: cR r
end
mutual
/-- of a depth of n at most; calls of the first many -/
def Stt.Ok (many : Int) : Stt -> Nat -> Prop
 | .cmd c, _ => c.Ok
 | .fin w, _ => 0 <= w /\ w <= 1
 | .keep b, n => 0 < n /\ OkL many b (n - 1)
 | .again b, n => 0 < n /\ OkL many b (n - 1)
 | .either a b, n => 0 < n /\ OkL many a (n - 1) /\ OkL many b (n - 1)
 | .call g _ a b, n => (0 < n /\ 0 <= g /\ g < many) /\ OkL many a (n - 1) /\ OkL many b (n - 1)
 | .bad, _ => True
 | .odd _, _ => False
def OkL (many : Int) : List Stt -> Nat -> Prop
 | [], _ => True
 | s :: r, n => (s.Ok many n /\ r.length < 10) /\ OkL many r n
end
def WfNo (many : Int) (x : D) : Prop := ∀ (lv : Int) (S : aJ), iS [.dat x, .dat (.int lv), .dat (.int many)] S = .ok (.dat (.bl false)) S
mutual
/-- the same; values that are no statements may stand in it -/
def Stt.Okx (many : Int) : Stt -> Nat -> Prop
 | .cmd c, _ => c.Ok
 | .fin w, _ => 0 <= w /\ w <= 1
 | .keep b, n => 0 < n /\ A0 many b (n - 1)
 | .again b, n => 0 < n /\ A0 many b (n - 1)
 | .either a b, n => 0 < n /\ A0 many a (n - 1) /\ A0 many b (n - 1)
 | .call g _ a b, n => (0 < n /\ 0 <= g /\ g < many) /\ A0 many a (n - 1) /\ A0 many b (n - 1)
 | .bad, _ => True
 | .odd x, _ => WfNo many x
def A0 (many : Int) : List Stt -> Nat -> Prop
 | [], _ => True
 | s :: r, n => s.Okx many n /\ A0 many r n
end
mutual
theorem Stt.Ok.x {many : Int} : ∀ {s : Stt} {n : Nat}, s.Ok many n -> s.Okx many n
 | .cmd c, _, h => h
 | .fin w, _, h => h
 | .keep b, n, h => ⟨h.1, OkL.x h.2⟩
 | .again b, n, h => ⟨h.1, OkL.x h.2⟩
 | .either a b, n, h => ⟨h.1, OkL.x h.2.1, OkL.x h.2.2⟩
 | .call g _ a b, n, h => ⟨h.1, OkL.x h.2.1, OkL.x h.2.2⟩
 | .bad, _, _ => trivial
 | .odd x, _, h => h.elim
theorem OkL.x {many : Int} : ∀ {l : List Stt} {n : Nat}, OkL many l n -> A0 many l n
 | [], _, _ => trivial
 | s :: r, n, h => ⟨h.1.1.x, OkL.x h.2⟩
end
def Stt.isOdd : Stt -> Bool
 | .odd _ => true
 | _ => false
theorem Stt.Ok.no {many : Int} {s : Stt} {n : Nat} (h : s.Ok many n) : s.isOdd = false := by
 cases s <;> first | rfl | exact h.elim
theorem tG : ∀ l : List Stt, (cR l).length = l.length
 | [] => rfl
 | s :: r => by simp [cR, tG r]
theorem OkL.len {many : Int} : ∀ {l : List Stt} {n : Nat}, OkL many l n -> l.length <= 10
 | [], _, _ => by simp
 | s :: r, n, h => by have := h.1.2; simp; omega
def LS (S : aJ) : Prop := ∀ c ∈ S, ∀ n, c.below n = true
theorem LS.app {S : aJ} {ds : List D} (h : LS S) : LS (S ++ [.lst ds]) := fun c hc n => by
 rcases BO.mp hc with hc | hc
 ·exact h c hc n
 ·rw [hE.mp hc]; rfl
theorem LS.set {S : aJ} {ds : List D} {k : Nat} (h : LS S) : LS (S.set k (.lst ds)) := fun c hc n => by
 rcases jA hc with hc | hc
 ·exact h c hc n
 ·rw [hc]; rfl
theorem LS.take {S : aJ} {n m : Nat} (h : LS S) : ((S.take n).all fun c => c.below m) = true := bD.mpr fun c hc => h c (vK hc) m
theorem cO {i : Int} {S : aJ} : cL [.dat (.int i)] S = .ok (.dat (.bl true)) S := by
 rw [show cL [.dat (.int i)] S = bO (mY [some (.dat (.int i))] S) from rfl]
 unfold mY;simp! [if_true];rfl
theorem Bl {i : Int} {S : aJ} : sT [.dat (.int i)] S = .ok (.dat (.bl (decide (0 <= i) && decide (i <= 1)))) S := by
 rw [show sT [.dat (.int i)] S = bO (xH [some (.dat (.int i))] S) from rfl]
 unfold xH;simp! [cO]
 by_cases h : 0 <= i
 ·simp! [decide_eq_true h]; rfl
 ·simp! [decide_eq_false h]; rfl
theorem qU {S : aJ} : vE (.dat (.str "go")) S = .ok (.dat (.tup [.int 1, .int (-9), .int 9])) S := rfl
theorem qX {S : aJ} : eC true (.dat (.str "go")) S = .ok (.dat (.bl false)) S := rfl
theorem jU {S : aJ} : vE (.dat (.str "turn")) S = .ok (.dat (.tup [.int 1, .int 1, .int 3])) S := rfl
theorem jW {S : aJ} : eC true (.dat (.str "turn")) S = .ok (.dat (.bl false)) S := rfl
theorem gO {S : aJ} : vE (.dat (.str "mirror")) S = .ok (.dat (.tup [.int 0, .int 0, .int 0])) S := rfl
theorem gR {S : aJ} : eC true (.dat (.str "mirror")) S = .ok (.dat (.bl false)) S := rfl
theorem iI {S : aJ} : vE (.dat (.str "scale")) S = .ok (.dat (.tup [.int 1, .int (-3), .int 3])) S := rfl
theorem iK {S : aJ} : eC true (.dat (.str "scale")) S = .ok (.dat (.bl false)) S := rfl
theorem mU {S : aJ} : vE (.dat (.str "aim")) S = .ok (.dat (.tup [.int 2, .int (-9), .int 9])) S := rfl
theorem mV {S : aJ} : eC true (.dat (.str "aim")) S = .ok (.dat (.bl false)) S := rfl
theorem iJ {S : aJ} : vE (.dat (.str "place")) S = .ok (.dat (.tup [.int 2, .int (-9), .int 9])) S := rfl
theorem iL {S : aJ} : eC true (.dat (.str "place")) S = .ok (.dat (.bl false)) S := rfl
theorem jV {S : aJ} : vE (.dat (.str "mark")) S = .ok (.dat (.tup [.int 0, .int 0, .int 0])) S := rfl
theorem jX {S : aJ} : eC true (.dat (.str "mark")) S = .ok (.dat (.bl false)) S := rfl
theorem gN {S : aJ} : vE (.dat (.str "return")) S = .ok (.dat (.tup [.int 0, .int 0, .int 0])) S := rfl
theorem gQ {S : aJ} : eC true (.dat (.str "return")) S = .ok (.dat (.bl false)) S := rfl
theorem eG {S : aJ} : vE (.dat (.str "exchange")) S = .ok (.dat (.tup [.int 0, .int 0, .int 0])) S := rfl
theorem eI {S : aJ} : eC true (.dat (.str "exchange")) S = .ok (.dat (.bl false)) S := rfl
theorem GM {S : aJ} : eC true (.dat (.str "end")) S = .ok (.dat (.bl true)) S := rfl
theorem Ak {S : aJ} : eC true (.dat (.str "keep")) S = .ok (.dat (.bl true)) S := rfl
theorem yG {S : aJ} : eC true (.dat (.str "again")) S = .ok (.dat (.bl true)) S := rfl
theorem qY {S : aJ} : eC true (.dat (.str "either")) S = .ok (.dat (.bl true)) S := rfl
theorem wL {S : aJ} : eC true (.dat (.str "call")) S = .ok (.dat (.bl true)) S := rfl
theorem MI {S : aJ} : eC true (.dat (.str "bad")) S = .ok (.dat (.bl true)) S := rfl
theorem BJ {x : D} {r : List D} : cutD (x :: r) (some 1) none = r := by
 unfold cutD;rw [HT.sIx_none, show ((1 : Int)) = ((1 : Nat) : Int) from rfl, HT.sIx_nat]
 simp
theorem all_nil {S : aJ} : yN (.dat (.lst [])) S = .ok (.dat (.bl true)) S := rfl
theorem ES {a : Bool} {S : aJ} : yN (.dat (.lst [.bl a])) S = .ok (.dat (.bl a)) S := by cases a <;> rfl
theorem EO {a b : Bool} {S : aJ} : yN (.dat (.lst [.bl a, .bl b])) S = .ok (.dat (.bl (a && b))) S := by cases a <;> cases b <;> rfl
theorem inb {i lo hi : Int} {S : aJ} {a b : Option Vl} : (iO (bB cL (aD (aB 4) aL)) (iD Eh Eh (aB 2) (aB 4) (aB 3))) [a, b, some (.dat (.int lo)), some (.dat (.int hi)), some (.dat (.int i))] S = .ok (.dat (.bl (decide (lo <= i) && decide (i <= hi)))) S := by
 simp! [cO]
 by_cases h : lo <= i
 ·simp! [decide_eq_true h]
 ·simp! [decide_eq_false h]
theorem sz {n : Nat} (h : n <= 1000) : n <= sizeLine := by show n <= 16777216; omega
theorem Cm {c : Cmd} {S : aJ} (h : c.Ok) : cQ [.dat c.d] S = .ok (.dat (.bl true)) S := by
 rw [show cQ [.dat c.d] S = bO (fO [some (.dat c.d), none, none, none, none] S) from rfl]
 unfold fO eU;cases c with
 | go k =>
  obtain ⟨h1, h2⟩ := h;simp! [Cmd.d, dN, qU, qX, jU, jW, gO, gR, iI, iK, mU, mV, iJ, iL, jV, jX, gN, gQ, eG, eI, BJ, Cf, mI, rV, cO, all_nil, ES, EO, decide_eq_true h1, decide_eq_true h2, sz];rfl
 | turn k =>
  obtain ⟨h1, h2⟩ := h;simp! [Cmd.d, dN, qU, qX, jU, jW, gO, gR, iI, iK, mU, mV, iJ, iL, jV, jX, gN, gQ, eG, eI, BJ, Cf, mI, rV, cO, all_nil, ES, EO, decide_eq_true h1, decide_eq_true h2, sz];rfl
 | mirror => simp! [Cmd.d, dN, qU, qX, jU, jW, gO, gR, iI, iK, mU, mV, iJ, iL, jV, jX, gN, gQ, eG, eI, BJ, Cf, mI, rV, cO, all_nil, sz]; rfl
 | scale k =>
  obtain ⟨h1, h2⟩ := h;simp! [Cmd.d, dN, qU, qX, jU, jW, gO, gR, iI, iK, mU, mV, iJ, iL, jV, jX, gN, gQ, eG, eI, BJ, Cf, mI, rV, cO, all_nil, ES, EO, decide_eq_true h1, decide_eq_true h2, sz];rfl
 | aim a b =>
  obtain ⟨⟨h1, h2⟩, h3, h4⟩ := h;simp! [Cmd.d, dN, qU, qX, jU, jW, gO, gR, iI, iK, mU, mV, iJ, iL, jV, jX, gN, gQ, eG, eI, BJ, Cf, mI, rV, cO, all_nil, ES, EO, decide_eq_true h1, decide_eq_true h2, decide_eq_true h3, decide_eq_true h4, sz];rfl
 | place a b =>
  obtain ⟨⟨h1, h2⟩, h3, h4⟩ := h;simp! [Cmd.d, dN, qU, qX, jU, jW, gO, gR, iI, iK, mU, mV, iJ, iL, jV, jX, gN, gQ, eG, eI, BJ, Cf, mI, rV, cO, all_nil, ES, EO, decide_eq_true h1, decide_eq_true h2, decide_eq_true h3, decide_eq_true h4, sz];rfl
 | mark => simp! [Cmd.d, dN, qU, qX, jU, jW, gO, gR, iI, iK, mU, mV, iJ, iL, jV, jX, gN, gQ, eG, eI, BJ, Cf, mI, rV, cO, all_nil, sz]; rfl
 | ret => simp! [Cmd.d, dN, qU, qX, jU, jW, gO, gR, iI, iK, mU, mV, iJ, iL, jV, jX, gN, gQ, eG, eI, BJ, Cf, mI, rV, cO, all_nil, sz]; rfl
 | exch => simp! [Cmd.d, dN, qU, qX, jU, jW, gO, gR, iI, iK, mU, mV, iJ, iL, jV, jX, gN, gQ, eG, eI, BJ, Cf, mI, rV, cO, all_nil, sz]; rfl
theorem iC {z : Str} {r : List D} {S : aJ} (h : eC true (.dat (.str z)) S = .ok (.dat (.bl true)) S) : cQ [.dat (.tup (.str z :: r))] S = .ok (.dat (.bl false)) S := by
 rw [show cQ [.dat (.tup (.str z :: r))] S = bO (fO [some (.dat (.tup (.str z :: r))), none, none, none, none] S) from rfl]
 unfold fO eU;simp! [dN, h];rw [decide_eq_false (by simp; omega)]
 simp! [dN, h];rfl
def Stt.blocks : Stt -> List (List Stt)
 | .keep b => [b]
 | .again b => [b]
 | .either a b => [a, b]
 | .call _ _ a b => [a, b]
 | _ => []
def bls (bs : List (List Stt)) : List D := bs.map fun b => .lst (cR b)
theorem tV {s : Stt} {S : aJ} (ho : s.isOdd = false) : jJ [.dat s.d] S = .ok (.dat (.lst (bls s.blocks))) S := by
 rw [show jJ [.dat s.d] S = bO (oY [some (.dat s.d), none] S) from rfl]
 unfold oY;cases s with
 | cmd c => cases c <;> (simp! [Stt.d, Cmd.d, dN]; rfl)
 | fin w => simp! [Stt.d, dN]; rfl
 | keep b => simp! [Stt.d, dN, kM]; rfl
 | again b => simp! [Stt.d, dN, kM]; rfl
 | either a b => simp! [Stt.d, dN, kM, uV]; rfl
 | call g s a b => simp! [Stt.d, dN, kM, uV, MC]; rfl
 | bad => simp! [Stt.d, dN]; rfl
 | odd x => cases ho
theorem DI {s : Stt} {S : aJ} (ho : s.isOdd = false) : lA [.dat s.d, .dat (.lst (bls s.blocks))] S = .ok (.dat s.d) S := by
 rw [show lA [.dat s.d, .dat (.lst (bls s.blocks))] S = bO (lD [some (.dat s.d), some (.dat (.lst (bls s.blocks))), none] S) from rfl]
 unfold lD;cases s with
 | cmd c => cases c <;> (simp! [Stt.d, Cmd.d, dN]; rfl)
 | fin w => simp! [Stt.d, dN]; rfl
 | keep b => simp! [Stt.d, Stt.blocks, bls, aQ, bR, dN, Jf]; rfl
 | again b => simp! [Stt.d, Stt.blocks, bls, aQ, bR, dN, Jf]; rfl
 | either a b => simp! [Stt.d, Stt.blocks, bls, aQ, bR, dN, Jf, P7]; rfl
 | call g s a b => simp! [Stt.d, Stt.blocks, bls, aQ, bR, dN, kM, uV]; rfl
 | bad => simp! [Stt.d, dN]; rfl
 | odd x => cases ho
def Stt.wf (lv : Int) : Stt -> Bool
 | .cmd _ => true
 | .fin _ => true
 | .bad => false
 | .odd _ => false
 | _ => !decide (lv = 3)
theorem isb {i : Int} (h : 0 <= i /\ i <= 1) : (decide (0 <= i) && decide (i <= 1)) = true := by simp [h.1, h.2]
theorem DJ {s : Stt} {lv many : Int} {n : Nat} {S : aJ} (h : s.Okx many n) : iS [.dat s.d, .dat (.int lv), .dat (.int many)] S = .ok (.dat (.bl (s.wf lv))) S := by
 by_cases ho : s.isOdd = true
 ·cases s <;> first | (cases ho; done) | exact h lv S
 rw [show iS [.dat s.d, .dat (.int lv), .dat (.int many)] S = bO (lE [some (.dat s.d), some (.dat (.int lv)), some (.dat (.int many)), none] S) from rfl]
 unfold lE;cases s with
 | cmd c => simp! [Stt.d, Cm h]; rfl
 | fin w => simp! [Stt.d, iC GM, dN, kM, Bl, isb h]; rfl
 | bad => simp! [Stt.d, iC MI]; rfl
 | odd x => exact absurd rfl ho
 | keep b =>
  by_cases hl : lv = 3
  ·simp! [Stt.d, iC Ak, dN, kM, decide_eq_true hl]; simp [Stt.wf, hl]; rfl
  ·simp! [Stt.d, iC Ak, dN, kM, decide_eq_false hl]; simp [Stt.wf, hl]; rfl
 | again b =>
  by_cases hl : lv = 3
  ·simp! [Stt.d, iC yG, dN, kM, decide_eq_true hl]; simp [Stt.wf, hl]; rfl
  ·simp! [Stt.d, iC yG, dN, kM, decide_eq_false hl]; simp [Stt.wf, hl]; rfl
 | either a b =>
  by_cases hl : lv = 3
  ·simp! [Stt.d, iC qY, dN, kM, uV, decide_eq_true hl]; simp [Stt.wf, hl]; rfl
  ·simp! [Stt.d, iC qY, dN, kM, uV, decide_eq_false hl]; simp [Stt.wf, hl]; rfl
 | call g b a c =>
  obtain ⟨⟨_, h1, h2⟩, _⟩ := h
  by_cases hl : lv = 3
  ·simp! [Stt.d, iC wL, dN, kM, uV, MC, decide_eq_true hl]; simp [Stt.wf, hl]; rfl
  ·simp! [Stt.d, iC wL, dN, kM, uV, MC, decide_eq_false hl, cO, decide_eq_true h1, decide_eq_true h2, Jf, P7]; simp [Stt.wf, hl]; rfl
inductive FR where
 | fault (p : List Int) (m : Int) | okk (m : Int)
abbrev tupI (p : List Int) : D := .tup (p.map D.int)
def FR.d : FR -> D
 | .fault p m => .tup [tupI p, .int m]
 | .okk m => .tup [.non, .int m]
def FR.then (r : FR) (k : Int -> FR) : FR := match r with
 | .fault p m => .fault p m
 | .okk m => k m
mutual
/-- what stands in the blocks of s, at the path here -/
def Bu (lv : Int) (here : List Int) : Stt -> Int -> FR
 | .keep b, met => uZ (lv + 1) (here ++ [0]) 0 b met
 | .again b, met => uZ (lv + 1) (here ++ [0]) 0 b met
 | .either a b, met => (uZ (lv + 1) (here ++ [0]) 0 a met).then (uZ (lv + 1) (here ++ [1]) 0 b)
 | .call _ _ a b, met => (uZ (lv + 1) (here ++ [0]) 0 a met).then (uZ (lv + 1) (here ++ [1]) 0 b)
 | _, met => .okk met
def uZ (lv : Int) (path : List Int) (at_ : Int) : List Stt -> Int -> FR
 | [], met => .okk met
 | s :: r, met => if at_ = 8 \/ met = 12 \/ s.wf lv = false then .fault (path ++ [at_]) met else
  (Bu lv (path ++ [at_]) s (met + 1)).then (uZ lv path (at_ + 1) r)
end
def DB (n : Nat) : Prop := ∀ {S : aJ} {l : List Stt} {lv many met : Int} {path : List Int} {k : Nat}, A0 many l k -> 0 <= lv -> lv <= 3 -> path.length <= 2 * lv.toNat -> 4 - lv.toNat <= n ->
 cJ n [.dat (.lst (cR l)), .dat (.int lv), .dat (.int many), .dat (tupI path), .dat (.int met)] S = .ok (.dat (uZ lv path 0 l met).d) S
theorem EW {cl : Bool} {p : List Int} {i : Int} {S : aJ} (h : p.length <= 100) : eR cl (.dat (tupI p)) (.dat (.tup [.int i])) S = .ok (.dat (tupI (p ++ [i]))) S := by
 rw [KH (sz (by simp; omega))]
 simp [tupI]
theorem FR.then_okk {m : Int} {k : Int -> FR} : (FR.okk m).then k = k m := rfl
theorem FR.then_fault {p : List Int} {m : Int} {k : Int -> FR} : (FR.fault p m).then k = .fault p m := rfl
theorem ff_in {n : Nat} (ih : DB n) {S : aJ} {s : Stt} {lv many met : Int} {path : List Int} {k : Nat} {a b c : Option Vl} (h : s.Okx many k) (h0 : 0 <= lv) (h3 : lv < 3) (hp : path.length <= 2 * lv.toNat + 1) (hn : 4 - (lv + 1).toNat <= n) :
  loop (.tp [8, 9]) (fE (cJ n)) (dH 0 (bls s.blocks)) [a, some (.dat (.int lv)), some (.dat (.int many)), b, some (.dat (.int met)), c, some (.dat s.d), some (.dat (tupI path)), none, none, none] S =
   match Bu lv path s met with
   | .fault p m => .ret (.dat (.tup [tupI p, .int m])) S
   | .okk m => .next [a, some (.dat (.int lv)), some (.dat (.int many)), b, some (.dat (.int m)), c, some (.dat s.d), some (.dat (tupI path)), none, none, none] S := by
 have turn : ∀ {l : List Stt} {met : Int} {i : Int}, A0 many l (k - 1) -> cJ n [.dat (.lst (cR l)), .dat (.int (lv + 1)), .dat (.int many), .dat (tupI (path ++ [i])), .dat (.int met)] S = .ok (.dat (uZ (lv + 1) (path ++ [i]) 0 l met).d) S := fun hl => ih hl (by omega) (by omega) (by simp; omega) hn
 have one : ∀ {l : List Stt} {r : List D} {met : Int} {i : Int}, A0 many l (k - 1) -> loop (.tp [8, 9]) (fE (cJ n)) (.tup [.int i, .lst (cR l)] :: r) [a, some (.dat (.int lv)), some (.dat (.int many)), b, some (.dat (.int met)), c, some (.dat s.d), some (.dat (tupI path)), none, none, none] S =
   match uZ (lv + 1) (path ++ [i]) 0 l met with
   | .fault p m => .ret (.dat (.tup [tupI p, .int m])) S
   | .okk m => loop (.tp [8, 9]) (fE (cJ n)) r [a, some (.dat (.int lv)), some (.dat (.int many)), b, some (.dat (.int m)), c, some (.dat s.d), some (.dat (tupI path)), none, none, none] S := fun {l r met i} hl => by
  have e := turn (met := met) (i := i) hl;rw [loop];simp only [rV, jR, aN, cM, if_true, bZ, dY];rw [fE];simp! [EW (show path.length <= 100 by omega), e]
  cases q : uZ (lv + 1) (path ++ [i]) 0 l met with
  | fault p m => simp! [FR.d, E7]
  | okk m => simp! [FR.d, E7]
 cases s with
 | cmd c => simp only [Stt.blocks, bls, bR, dH, loop, Bu]
 | fin w => simp only [Stt.blocks, bls, bR, dH, loop, Bu]
 | bad => simp only [Stt.blocks, bls, bR, dH, loop, Bu]
 | odd w => simp only [Stt.blocks, bls, bR, dH, loop, Bu]
 | keep x =>
  simp only [Stt.blocks, bls, bR, aQ, dH, Bu, pD, jZ, wM];rw [one h.2];cases uZ (lv + 1) (path ++ [0]) 0 x met <;> rfl
 | again x =>
  simp only [Stt.blocks, bls, bR, aQ, dH, Bu, pD, jZ, wM];rw [one h.2];cases uZ (lv + 1) (path ++ [0]) 0 x met <;> rfl
 | either x y =>
  simp only [Stt.blocks, bls, bR, aQ, dH, Bu, pD, jZ, wM];rw [one h.2.1];cases uZ (lv + 1) (path ++ [0]) 0 x met with
  | fault p m => rfl
  | okk m =>
   simp only [FR.then_okk];rw [one h.2.2];cases uZ (lv + 1) (path ++ [1]) 0 y m <;> rfl
 | call g f x y =>
  simp only [Stt.blocks, bls, bR, aQ, dH, Bu, pD, jZ, wM];rw [one h.2.1];cases uZ (lv + 1) (path ++ [0]) 0 x met with
  | fault p m => rfl
  | okk m =>
   simp only [FR.then_okk];rw [one h.2.2];cases uZ (lv + 1) (path ++ [1]) 0 y m <;> rfl
theorem KN {n : Nat} (ih : DB n) {S : aJ} {lv many : Int} {path : List Int} {k : Nat} {a : Option Vl} (h0 : 0 <= lv) (h3 : lv <= 3) (hp : path.length <= 2 * lv.toNat) (hn : 4 - (lv + 1).toNat <= n) :
  ∀ (l : List Stt) (at_ : Nat) (met : Int), A0 many l k -> loop (.tp [5, 6]) (iX (cJ n)) (dH at_ (cR l)) [a, some (.dat (.int lv)), some (.dat (.int many)), some (.dat (tupI path)), some (.dat (.int met)), none, none, none, none, none, none] S =
   match uZ lv path (at_ : Nat) l met with
   | .fault p m => .ret (.dat (.tup [tupI p, .int m])) S
   | .okk m => .next [a, some (.dat (.int lv)), some (.dat (.int many)), some (.dat (tupI path)), some (.dat (.int m)), none, none, none, none, none, none] S
 | [], at_, met, _ => rfl
 | s :: r, at_, met, h => by
  have rest := KN ih (S := S) (many := many) (k := k) (a := a) h0 h3 hp hn r (at_ + 1);simp only [cR, dH];rw [loop];simp only [rV, jR, aN, cM, if_true, bZ, dY];rw [iX];simp! [EW (show path.length <= 100 by omega)]
  by_cases h8 : ((at_ : Nat) : Int) = 8
  ·simp! [decide_eq_true h8]
   unfold uZ;rw [if_pos (.inl h8)]
  ·simp! [decide_eq_false h8]
   by_cases hm : met = 12
   ·simp! [decide_eq_true hm]
    unfold uZ;rw [if_pos (.inr (.inl hm))]
   ·simp! [decide_eq_false hm, DJ h.1]
    cases hw : s.wf lv with
    | false =>
     simp! [if_true];unfold uZ;rw [if_pos (.inr (.inr hw))]
    | true =>
     have hlv : Bu lv (path ++ [((at_ : Nat) : Int)]) s (met + 1) = .okk (met + 1) /\ s.blocks = [] \/ lv < 3 := by
      cases s with
      | cmd c => exact .inl ⟨rfl, rfl⟩
      | fin w => exact .inl ⟨rfl, rfl⟩
      | bad => cases hw
      | odd x => cases hw
      | keep b => refine .inr ?_; simp [Stt.wf] at hw; omega
      | again b => refine .inr ?_; simp [Stt.wf] at hw; omega
      | either a b => refine .inr ?_; simp [Stt.wf] at hw; omega
      | call g f a b => refine .inr ?_; simp [Stt.wf] at hw; omega
     have ea : ∀ x y z : Option Vl, HY (fun x y => x + y) 4 (mC (.int 1)) [a, some (.dat (.int lv)), some (.dat (.int many)), some (.dat (tupI path)), some (.dat (.int met)), x, y, z, none, none, none] S = .next [a, some (.dat (.int lv)), some (.dat (.int many)), some (.dat (tupI path)), some (.dat (.int (met + 1))), x, y, z, none, none, none] S := fun _ _ _ => rfl
     have e2 : uZ lv path ((at_ : Nat) : Int) (s :: r) met = (Bu lv (path ++ [((at_ : Nat) : Int)]) s (met + 1)).then (uZ lv path (((at_ + 1 : Nat) : Int)) r) := by
      rw [uZ, if_neg (by rintro (h | h | h) <;> first | exact h8 h | exact hm h | (rw [hw] at h; cases h))]
      rfl
     rw [e2];have ho : s.isOdd = false := by cases s <;> first | rfl | (cases hw; done)
     simp! [ea, tV ho];rcases hlv with ⟨q1, q2⟩ | hlv
     ·rw [q1, q2]
      simp! [bls, bR, dH, loop, FR.then_okk];exact rest (met + 1) h.2
     ·rw [ff_in ih h.1 h0 hlv (by simp; omega) hn]
      cases q : Bu lv (path ++ [((at_ : Nat) : Int)]) s (met + 1) with
      | fault p m => simp! [FR.then_fault]
      | okk m =>
       simp! [FR.then_okk];exact rest m h.2
theorem KS (n : Nat) : DB n := by
 induction n with
 | zero =>
  intro S l lv many met path k hl h0 h3 hp hn;omega
 | succ n ih =>
  intro S l lv many met path k hl h0 h3 hp hn;rw [show cJ (n + 1) [.dat (.lst (cR l)), .dat (.int lv), .dat (.int many), .dat (tupI path), .dat (.int met)] S = bO (lG (cJ n) [some (.dat (.lst (cR l))), some (.dat (.int lv)), some (.dat (.int many)), some (.dat (tupI path)), some (.dat (.int met)), none, none, none, none, none, none] S) from rfl]
  unfold lG;have e := KN ih (S := S) (a := some (.dat (.lst (cR l)))) h0 h3 hp (by omega) l 0 met hl
  rw [jZ] at e;simp! [e];cases q : uZ lv path 0 l met with
  | fault p m => simp! [if_true]; rfl
  | okk m => simp! [if_true]; rfl
theorem Ah {α : Type} {t : Tg} {e : FE} {ρ : Ev} {S : aJ} {f g : α -> D} : ∀ {xs : List α}, (∀ x ∈ xs, ∃ ρ1, rV t (.dat (f x)) ρ = some ρ1 /\ e ρ1 S = .ok (.dat (g x)) S) -> mI t gX e ρ (xs.map f) S = .ok (xs.map g) S
 | [], _ => rfl
 | x :: xs, h => by
  obtain ⟨ρ1, h1, h2⟩ := h x (aY ..);have ih := Ah (xs := xs) fun y hy => h y (aM _ hy)
  rw [aQ, mI];simp only [h1, O4, h2, if_true, ih, aQ]
theorem hO {α : Type} {cl : Bool} {t : Tg} {e : FE} {ρ : Ev} {S : aJ} {f g : α -> D} {xs : List α} {vs : List Nat} (hl : xs.length <= sizeLine) (h : ∀ x ∈ xs, ∃ ρ1, rV t (.dat (f x)) (wipeE ρ vs) = some ρ1 /\ e ρ1 S = .ok (.dat (g x)) S) : Cf cl t gX e ρ vs (xs.map f) S = newL cl (xs.map g) S := by
 unfold Cf;rw [bA, if_pos hl, Ah h]
theorem tF : ∀ l : List Stt, cR l = l.map Stt.d
 | [] => rfl
 | s :: r => by rw [cR, tF r]; rfl
theorem C7 {many : Int} {s : Stt} {k : Nat} (h : s.Ok many k) : ∀ b ∈ s.blocks, 0 < k /\ OkL many b (k - 1) := by
 intro b hb;cases s with
 | cmd c => cases hb
 | fin w => cases hb
 | bad => cases hb
 | odd x => cases hb
 | keep x => simp [Stt.blocks] at hb; subst hb; exact h
 | again x => simp [Stt.blocks] at hb; subst hb; exact h
 | either x y => simp [Stt.blocks] at hb; rcases hb with rfl | rfl; exact ⟨h.1, h.2.1⟩; exact ⟨h.1, h.2.2⟩
 | call g f x y => simp [Stt.blocks] at hb; rcases hb with rfl | rfl; exact ⟨h.1.1, h.2.1⟩; exact ⟨h.1.1, h.2.2⟩
theorem OkL.mem {many : Int} : ∀ {l : List Stt} {k : Nat}, OkL many l k -> ∀ s ∈ l, s.Ok many k
 | [], _, _, s, hs => by cases hs
 | x :: r, k, h, s, hs => by
  rcases bN.mp hs with rfl | hs
  ·exact h.1.1
  ·exact OkL.mem h.2 s hs
theorem Fc {s : Stt} : s.blocks.length <= 2 := by cases s <;> simp [Stt.blocks]
def QI (n : Nat) : Prop := (∀ {S : aJ} {many : Int} {s : Stt} {k : Nat}, s.Ok many k -> 2 * k + 1 <= n -> gK n [.dat s.d] S = .ok (.dat s.d) S) /\ ∀ {S : aJ} {many : Int} {l : List Stt} {k : Nat}, OkL many l k -> 2 * k + 2 <= n -> dR n [.dat (.lst (cR l))] S = .ok (.dat (.lst (cR l))) S
theorem NJ (n : Nat) : QI n := by
 induction n with
 | zero => exact ⟨fun _ h => by omega, fun _ h => by omega⟩
 | succ n ih =>
  constructor
  ·intro S many s k h hn
   rw [show gK (n + 1) [.dat s.d] S = bO (gV (dR n) [some (.dat s.d), none] S) from rfl]
   unfold gV;simp! [tV h.no];rw [show bls s.blocks = s.blocks.map (fun b => .lst (cR b)) from rfl, hO (g := fun b => .lst (cR b)) (sz (by have := Fc (s := s); omega)) fun b hb => ⟨_, rfl, ?_⟩]
   ·simp! [show s.blocks.map (fun b => D.lst (cR b)) = bls s.blocks from rfl, DI h.no]
    rfl
   ·obtain ⟨h1, h2⟩ := C7 h b hb
    simp! [ih.2 h2 (by omega)]
  ·intro S many l k h hn
   rw [show dR (n + 1) [.dat (.lst (cR l))] S = bO (kF (gK n) [some (.dat (.lst (cR l))), none] S) from rfl]
   unfold kF;simp! [tF];rw [hO (g := Stt.d) (sz (by have := h.len; omega)) fun s hs => ⟨_, rfl, ?_⟩]
   ·rfl
   ·simp! [ih.1 (h.mem s hs) (by omega)]
def uK (p : Int) : List (List Stt) -> Option (Int × List Int)
 | [] => none
 | b :: r => match uZ 0 [] 0 b 0 with
  | .fault q _ => some (p, q)
  | .okk _ => uK (p + 1) r
def F3 (i : Int) (q : List Int) : Er := ⟨"NoBook", ["path", "procedure"], [tupI q, .int i]⟩
theorem Bo {S : aJ} {many : Int} {k : Nat} {a : Option Vl} {bs0 : List D} (hm : many = (bs0.length : Int)) : ∀ (bs : List (List Stt)) (p : Nat), (∀ b ∈ bs, OkL many b k) ->
  match uK (p : Nat) bs with
  | none => loop (.tp [2, 3]) dE (dH p (bls bs)) [a, some (.dat (.lst bs0)), none, none, none, none] S = .next [a, some (.dat (.lst bs0)), none, none, none, none] S
  | some (i, q) => ∃ ρ', loop (.tp [2, 3]) dE (dH p (bls bs)) [a, some (.dat (.lst bs0)), none, none, none, none] S = .err (F3 i q) ρ' S
 | [], p, _ => rfl
 | b :: r, p, h => by
  have ih := Bo (S := S) (k := k) (a := a) hm r (p + 1) fun b hb => h b (aM _ hb)
  have hb := h b (aY ..);have e1 : cJ 10 [.dat (.lst (cR b)), .dat (.int 0), .dat (.int (bs0.length : Int)), .dat (.tup []), .dat (.int 0)] S = .ok (.dat (uZ 0 [] 0 b 0).d) S := by
   rw [<- hm];exact KS 10 (path := []) hb.x (by omega) (by omega) (by simp) (by simp)
  have el : loop (.tp [2, 3]) dE (dH p (bls (b :: r))) [a, some (.dat (.lst bs0)), none, none, none, none] S = (match dE [a, some (.dat (.lst bs0)), some (.dat (.int (p : Nat))), some (.dat (.lst (cR b))), none, none] S with
   | .next ρ2 S2 => loop (.tp [2, 3]) dE (dH (p + 1) (bls r)) ρ2 S2
   | .cnt ρ2 S2 => loop (.tp [2, 3]) dE (dH (p + 1) (bls r)) ρ2 S2
   | .brk ρ2 S2 => .next ρ2 S2
   | .ret d S2 => .ret d S2
   | .err e ρ2 S2 => .err e ρ2 S2
   | .stuck => .stuck) := rfl
  rw [el, dE];simp! [e1];rw [uK];cases q : uZ 0 [] 0 b 0 with
  | fault pp mm =>
   simp! [FR.d, E7];exact ⟨_, rfl⟩
  | okk mm =>
   simp! [FR.d, E7];rw [<- dE];exact ih
def kS (bs : List (List Stt)) : D := .ins "Book" ["own"] [.lst (bls bs)]
theorem JO {d : Vl} : ∀ {ρ : Ev} {i : Nat}, i < ρ.length -> lk (ρ.set i (some d)) i = some d
 | [], i, h => by simp at h
 | x :: r, 0, h => rfl
 | x :: r, i + 1, h => JO (ρ := r) (by simpa using h)
theorem Gm {ρ : Ev} {i : Nat} : (wipeE ρ [i]).length = ρ.length := by simp [wipeE]
theorem uI {cl : Bool} {S : aJ} {many : Int} {k i : Nat} {bs : List (List Stt)} {ρ : Ev} (hb : ∀ b ∈ bs, OkL many b k) (hk : k <= 9) (hl : bs.length <= 10) (h : i < ρ.length) : Cf cl (.nm i) gX (bB (dR 20) (aD (aB i) aL)) ρ [i] (bls bs) S = newL cl (bls bs) S := by
 rw [show bls bs = bs.map (fun b => .lst (cR b)) from rfl, hO (g := fun b => .lst (cR b)) (sz (by omega)) fun b hb' => ?_]
 have e2 := JO (d := .dat (.lst (cR b))) (ρ := wipeE ρ [i]) (i := i) (by rw [Gm]; exact h)
 refine ⟨(wipeE ρ [i]).set i (some (.dat (.lst (cR b)))), rfl, ?_⟩
 simp (config := { implicitDefEqProofs := false }) only [FP, FN, O5, e2, eN, Ct, Js, Cs];exact (NJ 20).2 (hb b hb') (by omega)
theorem MJ {S : aJ} {many : Int} {k n : Nat} {bs : List (List Stt)} (hb : ∀ b ∈ bs, OkL many b k) (hk : k <= 9) (hm : many = (bs.length : Int)) (h1 : 1 <= bs.length) (h3 : bs.length <= 3) (hn : S[n]? = some (.ins "Book" [])) :
  eK [.cel n, .dat (.lst (bls bs))] S = match uK 0 bs with
   | none => .ok (.dat .non) (S.set n (.ins "Book" [("own", .dat (.lst (bls bs)))]))
   | some (i, q) => .err (F3 i q) S := by
 rw [show eK [.cel n, .dat (.lst (bls bs))] S = bO (pB [some (.cel n), some (.dat (.lst (bls bs))), none, none, none, none] S) from rfl]
 unfold pB;have hl : (bls bs).length = bs.length := by simp [bls]
 have e := Bo (S := S) (a := some (.cel n)) (bs0 := bls bs) (by rw [hl]; exact hm) bs 0 hb
 rw [jZ] at e;simp! [hl, decide_eq_true (show (1 : Int) <= (bs.length : Int) by omega), decide_eq_true (show (bs.length : Int) <= 3 by omega)]
 cases q : uK 0 bs with
 | none =>
  rw [q] at e;simp! [e, uI hb hk (show bs.length <= 10 by omega), eF hn (by simp)]
  rfl
 | some x =>
  obtain ⟨i, p⟩ := x;rw [q] at e;obtain ⟨ρ', e⟩ := e;simp! [e];rfl
theorem JP {S : aJ} {bs : List (List Stt)} (hl : bs.length <= 10) : Bw "Book" nQ (.dat (kS bs)) S = .ok (.dat (.int (bs.length : Int))) S := by
 have e : nQ [.dat (kS bs)] S = .ok (.dat (.int (bs.length : Int))) S := by
  rw [show nQ [.dat (kS bs)] S = bO (rK [some (.dat (kS bs))] S) from rfl]
  unfold rK kS;simp! [pP, eZ];simp [bls];rfl
 rw [Bw, if_pos (by simp [fR, kS, pE]), e, Os, if_pos (by omega)]
theorem I9 {S : aJ} {many : Int} {k : Nat} {bs : List (List Stt)} (hb : ∀ b ∈ bs, OkL many b k) (hk : k <= 9) (hl : bs.length <= 10) : lC [.dat (kS bs)] S = .ok (.dat (.lst (bls bs))) S := by
 rw [show lC [.dat (kS bs)] S = bO (lH [some (.dat (kS bs)), none] S) from rfl]
 unfold lH kS;simp! [pP, eZ, uI hb hk hl];rfl
theorem Lx {S : aJ} {many : Int} {k : Nat} {bs : List (List Stt)} (ls : LS S) (hb : ∀ b ∈ bs, OkL many b k) (hk : k <= 9) (hm : many = (bs.length : Int)) (h1 : 1 <= bs.length) (h3 : bs.length <= 3) :
  Aj false "Book" eK [.dat (.lst (bls bs))] S = match uK 0 bs with
   | none => .ok (.dat (kS bs)) S
   | some (i, q) => .err (F3 i q) S := by
 have t : ((S ++ [Cell.ins "Book" []]).take S.length) = S := by simp
 have ls' := ls.take (n := S.length) (m := S.length);rw [List.take_length] at ls';unfold Aj;rw [MJ hb hk hm h1 h3 (by simp)]
 cases q : uK 0 bs with
 | none =>
  dsimp only [made];rw [fF _ _ (bX _), Nat.sub_self];simp [C9, kS, ls']
 | some x =>
  obtain ⟨i, p⟩ := x;dsimp only [made];rw [t, if_pos ls']
end PH
namespace PH
open PySem PySem.Spec PyProof PyProof.Rows L2
mutual
/-- the height -/
def D.ht : D -> Nat
 | .lst xs => D.hts xs + 1
 | .tup xs => D.hts xs + 1
 | _ => 0
def D.hts : List D -> Nat
 | [] => 0
 | x :: r => max (D.ht x) (D.hts r)
end
mutual
/-- no instances, no dicts; texts that may be compared -/
def D.Pl : D -> Prop
 | .lst xs => xs.length <= 1000 /\ D.Pls xs
 | .tup xs => xs.length <= 1000 /\ D.Pls xs
 | .str x => PyData.strOk x = true
 | .ins _ _ _ => False
 | .dct => False
 | .opq _ => False
 | _ => True
def D.Pls : List D -> Prop
 | [] => True
 | x :: r => D.Pl x /\ D.Pls r
end
theorem FH : ∀ {xs : List D} {x : D}, x ∈ xs -> x.ht <= D.hts xs
 | y :: r, x, h => by
  rcases bN.mp h with rfl | h
  ·simp [D.hts]; omega
  ·have := FH h; simp [D.hts]; omega
theorem Ey : ∀ {xs : List D} {x : D}, D.Pls xs -> x ∈ xs -> x.Pl
 | y :: r, x, hp, h => by
  rcases bN.mp h with rfl | h
  ·exact hp.1
  ·exact Ey hp.2 h
theorem all_true {α : Type} {S : aJ} (xs : List α) : yN (.dat (.lst (xs.map fun _ => D.bl true))) S = .ok (.dat (.bl true)) S := by
 have : ∀ xs : List α, xK (xs.map fun _ => D.bl true) = some (xs.map fun _ => true) := fun xs => by
  induction xs with
  | nil => rfl
  | cons x r ih => simp only [aQ, xK, ih]
 simp only [yN, nJ, this]
 congr 3
 simp
theorem vX {lo : Int} {n : Nat} : iB lo (n + 1) = .int lo :: iB (lo + 1) n := by
 unfold iB;rw [Fq, aQ, hI]
 congr 1
 ·simp
 ·apply eO
  intro k _;simp only [Function.comp]
  congr 1
  omega
abbrev rm (S : aJ) (q : Nat) (m : Int) : aJ := S.set q (.lst [.int m])
theorem D7 {bs : List (List Stt)} : (bls bs).length = bs.length := by simp [bls]
theorem EI {ns : List Int} {lo hi : Option Int} : ∃ ms : List Int, cutD (ns.map D.int) lo hi = ms.map D.int /\ ms.length <= ns.length := by
 refine ⟨(ns.drop (HT.sIx (ns.map D.int).length 0 lo)).take (HT.sIx (ns.map D.int).length (ns.map D.int).length hi - HT.sIx (ns.map D.int).length 0 lo), ?_, ?_⟩
 ·simp only [cutD, List.map_take, List.map_drop]
 ·simp; omega
theorem Li {ns : List Int} {S : aJ} (hn : ns.length <= 63) : ∃ ks : List Int, nP [.scr ns] S = .ok (.cel S.length) (S ++ [PL ks]) /\ 2 <= ks.length := by
 obtain ⟨ms, e, hl⟩ := EI (ns := ns) (lo := none) (hi := some 63);rw [show nP [.scr ns] S = bO (qD [some (.scr ns), none] S) from rfl]
 unfold qD;simp! [e];rw [hO (g := D.int) (sz (by omega)) fun i hi => ⟨_, rfl, ?_⟩]
 ·cases ms with
  | nil =>
   refine ⟨[0, 0], ?_, by simp⟩
   simp! [bR, List.isEmpty_nil, sY (show [D.int 0].length + [D.int 0].length <= sizeLine from sz (by simp))]
   rfl
  | cons i r =>
   refine ⟨0 :: i :: r, ?_, by simp⟩
   simp! [aQ, List.isEmpty_cons, sY (show [D.int 0].length + (D.int i :: r.map D.int).length <= sizeLine from sz (by simp at *; omega))]
   rfl
 ·simp! [if_true]
section
variable {p q c N : Nat} {many r l : Int} {S : aJ}
theorem uO {S : aJ} {i j : Nat} {x : Cell} (h : i ≠ j) : (S.set i x)[j]? = S[j]? := by rw [aP, if_neg h]
end
mutual
def Stt.Gd (many : Int) : Stt -> Nat -> Prop
 | .cmd c, _ => c.Ok
 | .fin w, _ => 0 <= w /\ w <= 1
 | .keep b, n => 0 < n /\ GdL many b (n - 1)
 | .again b, n => 0 < n /\ GdL many b (n - 1)
 | .either a b, n => 0 < n /\ GdL many a (n - 1) /\ GdL many b (n - 1)
 | .call g _ a b, n => (0 < n /\ 0 <= g /\ g < many) /\ GdL many a (n - 1) /\ GdL many b (n - 1)
 | .bad, _ => False
 | .odd _, _ => False
def GdL (many : Int) : List Stt -> Nat -> Prop
 | [], _ => True
 | s :: r, n => s.Gd many n /\ GdL many r n
end
mutual
def Stt.size : Stt -> Nat
 | .keep b => fX b + 1
 | .again b => fX b + 1
 | .either a b => fX a + fX b + 1
 | .call _ _ a b => fX a + fX b + 1
 | _ => 1
def fX : List Stt -> Nat
 | [] => 0
 | s :: r => s.size + fX r
end
theorem size_pos (s : Stt) : 1 <= s.size := by cases s <;> simp [Stt.size]
theorem xV : ∀ l : List Stt, l.length <= fX l
 | [] => bX _
 | s :: r => by have := xV r; have := size_pos s; simp [fX]; omega
mutual
theorem Stt.Gd.ok {many : Int} : ∀ {s : Stt} {n : Nat}, s.Gd many n -> s.size <= 11 -> s.Ok many n
 | .cmd c, n, h, _ => h
 | .fin w, n, h, _ => h
 | .keep b, n, h, hs => ⟨h.1, GdL.ok h.2 (by simp [Stt.size] at hs; omega)⟩
 | .again b, n, h, hs => ⟨h.1, GdL.ok h.2 (by simp [Stt.size] at hs; omega)⟩
 | .either a b, n, h, hs => ⟨h.1, GdL.ok h.2.1 (by simp [Stt.size] at hs; omega), GdL.ok h.2.2 (by simp [Stt.size] at hs; omega)⟩
 | .call g _ a b, n, h, hs => ⟨h.1, GdL.ok h.2.1 (by simp [Stt.size] at hs; omega), GdL.ok h.2.2 (by simp [Stt.size] at hs; omega)⟩
 | .bad, n, h, _ => h.elim
 | .odd _, n, h, _ => h.elim
theorem GdL.ok {many : Int} : ∀ {l : List Stt} {n : Nat}, GdL many l n -> fX l <= 10 -> OkL many l n
 | [], n, _, _ => trivial
 | s :: r, n, h, hs => by
  have := xV r;have := size_pos s;simp only [fX] at hs;exact ⟨⟨Stt.Gd.ok h.1 (by omega), by omega⟩, GdL.ok h.2 (by omega)⟩
end
mutual
theorem KO {many : Int} : ∀ {s : Stt} {n : Nat} {lv met : Int} {here : List Int}, s.Gd many n -> 0 <= lv -> lv + n <= 3 -> s.size <= 9 -> met + s.size <= 13 -> 0 <= met -> Bu lv here s met = .okk (met + s.size - 1)
 | .cmd c, n, lv, met, here, h, h0, h3, h9, h12, hm => by simp [Bu, Stt.size]
 | .fin c, n, lv, met, here, h, h0, h3, h9, h12, hm => by simp [Bu, Stt.size]
 | .bad, n, lv, met, here, h, h0, h3, h9, h12, hm => h.elim
 | .odd _, n, lv, met, here, h, h0, h3, h9, h12, hm => h.elim
 | .keep b, n, lv, met, here, h, h0, h3, h9, h12, hm => by
  have := h.1;simp only [Stt.size] at h9 h12;rw [Bu, lV (n := n - 1) h.2 (by omega) (by omega) (by omega) (by omega) hm (by omega), Stt.size]
  congr 1
  omega
 | .again b, n, lv, met, here, h, h0, h3, h9, h12, hm => by
  have := h.1;simp only [Stt.size] at h9 h12;rw [Bu, lV (n := n - 1) h.2 (by omega) (by omega) (by omega) (by omega) hm (by omega), Stt.size]
  congr 1
  omega
 | .either a b, n, lv, met, here, h, h0, h3, h9, h12, hm => by
  have := h.1;simp only [Stt.size] at h9 h12;rw [Bu, lV (n := n - 1) h.2.1 (by omega) (by omega) (by omega) (by omega) hm (by omega), FR.then_okk, lV (n := n - 1) h.2.2 (by omega) (by omega) (by omega) (by omega) (by omega) (by omega), Stt.size]
  congr 1
  omega
 | .call g f a b, n, lv, met, here, h, h0, h3, h9, h12, hm => by
  have := h.1.1;simp only [Stt.size] at h9 h12;rw [Bu, lV (n := n - 1) h.2.1 (by omega) (by omega) (by omega) (by omega) hm (by omega), FR.then_okk, lV (n := n - 1) h.2.2 (by omega) (by omega) (by omega) (by omega) (by omega) (by omega), Stt.size]
  congr 1
  omega
theorem lV {many : Int} : ∀ {l : List Stt} {n : Nat} {lv at_ met : Int} {path : List Int}, GdL many l n -> 0 <= lv -> lv + n <= 3 -> at_ + fX l <= 8 -> met + fX l <= 12 -> 0 <= met -> 0 <= at_ -> uZ lv path at_ l met = .okk (met + fX l)
 | [], n, lv, at_, met, path, h, h0, h3, h8, h12, hm, ha => by simp [uZ, fX]
 | s :: r, n, lv, at_, met, path, h, h0, h3, h8, h12, hm, ha => by
  have hp := size_pos s;simp only [fX] at h8 h12;have hw : s.wf lv = true := by
   cases s with
   | cmd c => rfl
   | fin c => rfl
   | bad => exact h.1.elim
   | odd x => exact h.1.elim
   | keep b => have := h.1.1; simp [Stt.wf]; omega
   | again b => have := h.1.1; simp [Stt.wf]; omega
   | either a b => have := h.1.1; simp [Stt.wf]; omega
   | call g f a b => have := h.1.1.1; simp [Stt.wf]; omega
  rw [uZ, if_neg (by rintro (e | e | e) <;> first | omega | (rw [hw] at e; cases e)), KO (n := n) h.1 h0 h3 (by omega) (by omega) (by omega), FR.then_okk, lV (n := n) h.2 h0 h3 (by omega) (by omega) (by omega) (by omega), fX]
  congr 1
  omega
end
theorem ds1 {s : Stt} : [s.d] = cR [s] := rfl
structure Bk (p n N : Nat) (S0 : aJ) (many l : Int) (bs : List (List Stt)) (T : aJ) : Prop where
 ls : LS T
 n2 : 2 <= N
 hp : p < n
 len : n + 2 <= T.length
 pool : ∃ ks, T[p]? = some (PL ks) /\ ks.length = N
 call : T[n]? = some (PL [l, many])
 bod : T[n + 1]? = some (.lst (bls bs))
 old : ∀ i, i < n -> i ≠ p -> T[i]? = S0[i]?
structure Good (bs : List (List Stt)) : Prop where
 l1 : 1 <= bs.length
 l3 : bs.length <= 3
 gd : ∀ b ∈ bs, GdL (bs.length : Int) b 3 /\ fX b <= 8
theorem Good.ok {bs : List (List Stt)} (h : Good bs) : ∀ b ∈ bs, OkL (bs.length : Int) b 3 := fun b hb => (h.gd b hb).1.ok (by have := (h.gd b hb).2; omega)
theorem good_none : ∀ {bs : List (List Stt)} {p : Int} {many : Int}, (∀ b ∈ bs, GdL many b 3 /\ fX b <= 8) -> uK p bs = none
 | [], p, many, _ => rfl
 | b :: r, p, many, h => by
  obtain ⟨h1, h2⟩ := h b (aY ..);rw [uK, lV (n := 3) h1 (by omega) (by omega) (by omega) (by omega) (by omega) (by omega)]
  exact good_none fun b hb => h b (aM _ hb)
theorem Good.none {bs : List (List Stt)} (h : Good bs) : uK 0 bs = none := good_none h.gd
theorem HX {S : aJ} {bs : List (List Stt)} (ls : LS S) (h : Good bs) : Aj false "Book" eK [.dat (.lst (bls bs))] S = .ok (.dat (kS bs)) S := by
 rw [Lx ls h.ok (by omega) rfl h.l1 h.l3, h.none]
inductive Bd where
 | blk (b : List Stt) | no (x : D)
def pre (i : Int) (p : List Int × Stt) : List Int × Stt := (i :: p.1, p.2)
theorem take_set {T : aJ} {n c : Nat} {x : Cell} (h : n <= c) : (T.set c x).take n = T.take n := by
 apply qJ
 intro i;rw [dX, dX]
 by_cases hi : i < n
 ·rw [if_pos hi, if_pos hi, uO (by omega)]
 ·rw [if_neg hi, if_neg hi]
theorem GdL.okTop {many : Int} : ∀ {l : List Stt} {n : Nat}, GdL many l n -> (∀ s ∈ l, s.size <= 9) -> l.length <= 10 -> OkL many l n
 | [], n, _, _, _ => trivial
 | s :: r, n, h, h9, hl => by
  simp only [aN] at hl;exact ⟨⟨Stt.Gd.ok h.1 (by have := h9 s (aY ..); omega), by omega⟩, GdL.okTop h.2 (fun s hs => h9 s (aM _ hs)) (by omega)⟩
structure Good2 (bs : List (List Stt)) : Prop where
 l1 : 1 <= bs.length
 l3 : bs.length <= 3
 gd : ∀ b ∈ bs, GdL (bs.length : Int) b 3 /\ b.length <= 8 /\ fX b <= 12 /\ ∀ s ∈ b, s.size <= 9
theorem DN : ∀ {l : List Stt} {s : Stt}, s ∈ l -> s.size <= fX l
 | x :: r, s, h => by
  rcases bN.mp h with rfl | h
  ·simp [fX]
  ·have := DN h; simp [fX]; omega
theorem Good.two {bs : List (List Stt)} (h : Good bs) : Good2 bs := ⟨h.l1, h.l3, fun b hb => by
 obtain ⟨h1, h2⟩ := h.gd b hb;have := xV b;exact ⟨h1, by omega, by omega, fun s hs => by have := DN hs; omega⟩⟩
theorem Good2.ok {bs : List (List Stt)} (h : Good2 bs) : ∀ b ∈ bs, OkL (bs.length : Int) b 3 := fun b hb => by
 obtain ⟨h1, h2, h3, h4⟩ := h.gd b hb;exact h1.okTop h4 (by omega)
def Cmd.word : Cmd -> Str
 | .go _ => "go"
 | .turn _ => "turn"
 | .mirror => "mirror"
 | .scale _ => "scale"
 | .aim _ _ => "aim"
 | .place _ _ => "place"
 | .mark => "mark"
 | .ret => "return"
 | .exch => "exchange"
def Stt.word : Stt -> Str
 | .cmd c => c.word
 | .fin _ => "end"
 | .keep _ => "keep"
 | .again _ => "again"
 | .either _ _ => "either"
 | .call _ _ _ _ => "call"
 | _ => "bad"
theorem MB {s : Stt} {S : aJ} (h : s.isOdd = false) : bQ (.dat s.d) (.dat (.int 0)) S = .ok (.dat (.str s.word)) S := by
 cases s with
 | cmd c => cases c <;> rfl
 | odd x => cases h
 | _ => rfl
def stZ : List Int -> List Stt -> Option Stt
 | [], _ => none
 | [i], l => if 0 <= i then l[i.toNat]? else none
 | i :: j :: r, l => if 0 <= i /\ 0 <= j then (match l[i.toNat]? with
  | some s => (match s.blocks[j.toNat]? with
   | some b => stZ r b
   | none => none)
  | none => none) else none
theorem NO {S : aJ} {a0 a1 : Option Vl} {many : Int} : ∀ (m : Nat) (π : List Int) (l : List Stt) (k n : Nat) (x : Vl) (s : Stt), π.length <= m -> OkL many l k -> n % 2 = 0 -> stZ π l = some s ->
  ∃ (b : Vl), loop (.tp [4, 5]) iG (dH n (π.map D.int)) [a0, a1, some x, some (.dat (.lst (cR l))), none, none] S = .next [a0, a1, some (.dat s.d), some b, none, none] S /\ ∃ j, j <= k /\ s.Ok many j
 | m, [], l, k, n, x, s, _, _, _, h => by cases h
 | m, [i], l, k, n, x, s, hm, ho, hn, h => by
  simp only [stZ] at h;split at h
  ·rename_i hi
   have hlt : i.toNat < l.length := (aH.mp h).1;have hs := ho.mem s (aZ h);have hix : atI (cR l) i = some s.d := by
    rw [fQ (n := i.toNat) (by omega), tF, bG, h]
    rfl
   rw [aQ, dH, loop];simp only [rV, jR, aN, cM, if_true, bZ, dY];rw [iG];simp! [cO, decide_eq_true hi, tG, decide_eq_true (show i < (l.length : Int) by omega), qZ (show (0 : Int) < 2 by decide), decide_eq_true (show ((n : Nat) : Int) % 2 = 0 by omega), sW hix, tV hs.no, bR, dH, loop]
   exact ⟨_, rfl, k, bX _, hs⟩
  ·cases h
 | 0, i :: j :: r, l, k, n, x, s, hm, _, _, _ => by simp at hm
 | m + 1, i :: j :: r, l, k, n, x, s, hm, ho, hn, h => by
  simp only [stZ] at h;split at h
  ·rename_i hij
   cases q : l[i.toNat]? with
   | none => rw [q] at h; cases h
   | some t =>
    rw [q] at h;dsimp only at h;cases q2 : t.blocks[j.toNat]? with
    | none => rw [q2] at h; cases h
    | some b =>
     rw [q2] at h;dsimp only at h;have hlt : i.toNat < l.length := (aH.mp q).1;have hlt2 : j.toNat < t.blocks.length := (aH.mp q2).1;have ht := ho.mem t (aZ q);obtain ⟨hk, hb⟩ := C7 ht b (aZ q2);have hix : atI (cR l) i = some t.d := by
      rw [fQ (n := i.toNat) (by omega), tF, bG, q]
      rfl
     have hix2 : atI (bls t.blocks) j = some (.lst (cR b)) := by
      rw [fQ (n := j.toNat) (by omega)]
      simp [bls, q2]
     simp only [aN] at hm;obtain ⟨c, e, j', h1, h2⟩ := NO (S := S) (a0 := a0) (a1 := a1) m r b (k - 1) (n + 1 + 1) (.dat t.d) s (by omega) hb (by omega) h
     refine ⟨c, ?_, j', by omega, h2⟩
     rw [aQ, aQ, dH, loop];simp only [rV, jR, aN, cM, if_true, bZ, dY];rw [iG];simp! [cO, decide_eq_true hij.1, tG, decide_eq_true (show i < (l.length : Int) by omega), qZ (show (0 : Int) < 2 by decide), decide_eq_true (show ((n : Nat) : Int) % 2 = 0 by omega), sW hix, tV ht.no]
     rw [dH, loop];simp only [rV, jR, aN, cM, if_true, bZ, dY];simp! [cO, decide_eq_true hij.2, D7, decide_eq_true (show j < (t.blocks.length : Int) by omega), qZ (show (0 : Int) < 2 by decide), decide_eq_false (show ¬ ((n + 1 : Nat) : Int) % 2 = 0 by omega), sW hix2]
     rw [<- iG];exact e
  ·cases h
theorem Jk {S : aJ} {bs : List (List Stt)} {p : Int} (hl : bs.length <= 10) : iY [.dat (kS bs), .dat (.int p)] S = .ok (.dat (.bl (decide (0 <= p) && decide (p < (bs.length : Int))))) S := by
 rw [A1];unfold iZ;simp! [cO, JP hl]
 by_cases h : 0 <= p
 ·simp! [decide_eq_true h, JP hl]; rfl
 ·simp! [decide_eq_false h]; rfl
mutual
def repS (x : D) (k : Nat) : Stt -> Stt
 | .keep b => .keep (repL x k b)
 | .again b => .again (repL x k b)
 | .either a b => if k < fX a then .either (repL x k a) b else .either a (repL x (k - fX a) b)
 | .call g f a b => if k < fX a then .call g f (repL x k a) b else .call g f a (repL x (k - fX a) b)
 | s => s
def repL (x : D) (k : Nat) : List Stt -> List Stt
 | [] => []
 | s :: r => if k = 0 then .odd x :: r else if k < s.size then repS x (k - 1) s :: r else s :: repL x (k - s.size) r
end
def sg (p : List Int × Stt) : List Int × Bool := (p.1, p.2.isOdd)
inductive Deed where
 | cmd (c : Cmd) | op | cl
def Deed.d : Deed -> D
 | .cmd c => c.d
 | .op => .tup [.str "open"]
 | .cl => .tup [.str "close"]
abbrev iP := Int × Bool × List Stt × List Stt
def QB (c : iP) : D := (Stt.call c.1 c.2.1 c.2.2.1 c.2.2.2).d
inductive Task where
 | lst (l : List Stt) (i : Nat) | close | again (b : List Stt) | call (p : Nat) (st : Option iP)
def Task.d : Task -> D
 | .lst l i => .tup [.str "list", .lst (cR l), .int (i : Int)]
 | .close => .tup [.str "close"]
 | .again b => .tup [.str "again", .lst (cR b)]
 | .call p none => .tup [.str "call", .int (p : Int), .non]
 | .call p (some c) => .tup [.str "call", .int (p : Int), QB c]
structure Mc where
 bs : List (List Stt)
 bits : List Int
 taken : Nat
 deeds : List Deed
 stk : List Task
 act : List (List Nat)
 ended : Int
def xQ {α : Type} (f : α -> D) (l : List α) : List D := l.reverse.map f
theorem rvD_cons {α : Type} {f : α -> D} {x : α} {l : List α} : xQ f (x :: l) = xQ f l ++ [f x] := by simp [xQ]
theorem oK {α : Type} {f : α -> D} {l : List α} : (xQ f l).length = l.length := by simp [xQ]
abbrev Aa (n : Nat) : D := .int (n : Int)
def FF (n : Nat) (m : Mc) : Cell := .ins "Execution" [("own", .dat (.lst (bls m.bs))), ("bits", .dat (.lst (m.bits.map D.int))), ("taken", .dat (.int (m.taken : Int))), ("deeds", .cel (n + 1)), ("stack", .cel (n + 2)), ("active", .cels (dO (n + 3) m.act.length)), ("ended", .dat (.int m.ended))]
def dJ (S0 : aJ) (m : Mc) : aJ := S0 ++ (FF S0.length m :: .lst (m.deeds.map Deed.d) :: .lst (xQ Task.d m.stk) :: m.act.map fun a => .lst (xQ Aa a))
section
variable {S0 : aJ} {m : Mc}
theorem pM : (dJ S0 m)[S0.length]? = some (FF S0.length m) := by simp [dJ]
theorem As : (dJ S0 m)[S0.length + 1]? = some (.lst (m.deeds.map Deed.d)) := by
 rw [dJ, aW (by omega), show S0.length + 1 - S0.length = 1 by omega]; rfl
theorem tE : (dJ S0 m)[S0.length + 2]? = some (.lst (xQ Task.d m.stk)) := by
 rw [dJ, aW (by omega), show S0.length + 2 - S0.length = 2 by omega]; rfl
theorem Au {p : Nat} {a : List Nat} (h : m.act[p]? = some a) : (dJ S0 m)[S0.length + 3 + p]? = some (.lst (xQ Aa a)) := by
 rw [dJ, aW (by omega), show S0.length + 3 + p - S0.length = p + 1 + 1 + 1 by omega, kK, kK, kK, bG, h]
 rfl
theorem GV {c : Cell} : (dJ S0 m).set S0.length c = S0 ++ (c :: .lst (m.deeds.map Deed.d) :: .lst (xQ Task.d m.stk) :: m.act.map fun a => .lst (xQ Aa a)) := by simp [dJ]
theorem N9 {t : Nat} : (dJ S0 m).set S0.length (FF S0.length { m with taken := t }) = dJ S0 { m with taken := t } := by rw [GV]; rfl
theorem NA {w : Int} : (dJ S0 m).set S0.length (FF S0.length { m with ended := w }) = dJ S0 { m with ended := w } := by rw [GV]; rfl
theorem NB {ds : List Deed} : (dJ S0 m).set (S0.length + 1) (.lst (ds.map Deed.d)) = dJ S0 { m with deeds := ds } := by
 rw [dJ, fF _ _ (by omega), show S0.length + 1 - S0.length = 1 by omega]; rfl
theorem D2 {ks : List Task} : (dJ S0 m).set (S0.length + 2) (.lst (xQ Task.d ks)) = dJ S0 { m with stk := ks } := by
 rw [dJ, fF _ _ (by omega), show S0.length + 2 - S0.length = 2 by omega]; rfl
theorem GU {p : Nat} {a : List Nat} : (dJ S0 m).set (S0.length + 3 + p) (.lst (xQ Aa a)) = dJ S0 { m with act := m.act.set p a } := by
 rw [dJ, fF _ _ (by omega), show S0.length + 3 + p - S0.length = p + 1 + 1 + 1 by omega, bZ, bZ, bZ]
 simp [dJ, FF, List.map_set]
theorem Q3 : uC "Execution" "own" (.cel S0.length) (dJ S0 m) = .ok (.dat (.lst (bls m.bs))) (dJ S0 m) := jY pM rfl
theorem Cv : uC "Execution" "bits" (.cel S0.length) (dJ S0 m) = .ok (.dat (.lst (m.bits.map D.int))) (dJ S0 m) := jY pM rfl
theorem lU : uC "Execution" "taken" (.cel S0.length) (dJ S0 m) = .ok (.dat (.int (m.taken : Int))) (dJ S0 m) := jY pM rfl
theorem nW : uC "Execution" "deeds" (.cel S0.length) (dJ S0 m) = .ok (.cel (S0.length + 1)) (dJ S0 m) := jY pM rfl
theorem eJ : uC "Execution" "stack" (.cel S0.length) (dJ S0 m) = .ok (.cel (S0.length + 2)) (dJ S0 m) := jY pM rfl
theorem yK : uC "Execution" "active" (.cel S0.length) (dJ S0 m) = .ok (.cels (dO (S0.length + 3) m.act.length)) (dJ S0 m) := jY pM rfl
theorem KL : uC "Execution" "ended" (.cel S0.length) (dJ S0 m) = .ok (.dat (.int m.ended)) (dJ S0 m) := jY pM rfl
theorem yF {p : Nat} (h : p < m.act.length) : bQ (.cels (dO (S0.length + 3) m.act.length)) (.dat (.int (p : Int))) (dJ S0 m) = .ok (.cel (S0.length + 3 + p)) (dJ S0 m) := by
 have : atI (dO (S0.length + 3) m.act.length) (p : Int) = some (S0.length + 3 + p) := by
  rw [fQ (n := p) rfl];simp [h]
 simp only [bQ, this]
theorem wJ {f : Str} (h : ∀ x ∈ (["own", "bits", "taken", "deeds", "stack", "active", "ended"] : List Str), x ≠ f) : fR (dJ S0 m) "Execution" f (.cel S0.length) = true := by
 have e := pM (S0 := S0) (m := m);simp only [fR, e, FF];simp [h]
theorem Gz {ρ : Ev} {w : Int} : gC "Execution" "ended" ρ (.dat (.int w)) (.cel S0.length) (dJ S0 m) = .next ρ (dJ S0 { m with ended := w }) := by
 rw [eF (fs := [("own", .dat (.lst (bls m.bs))), ("bits", .dat (.lst (m.bits.map D.int))), ("taken", .dat (.int (m.taken : Int))), ("deeds", .cel (S0.length + 1)), ("stack", .cel (S0.length + 2)), ("active", .cels (dO (S0.length + 3) m.act.length)), ("ended", .dat (.int m.ended))]) pM (by simp)]
 congr 1
 simp only [gG, pE, String.reduceEq, if_false, if_true];exact NA (S0 := S0) (m := m) (w := w)
theorem IB {ρ : Ev} {o e : FE} (ho : o ρ (dJ S0 m) = .ok (.cel S0.length) (dJ S0 m)) (he : e ρ (dJ S0 m) = .ok (.dat (.int 1)) (dJ S0 m)) : Bf (fun x y => x + y) "Execution" "taken" o e ρ (dJ S0 m) = .next ρ (dJ S0 { m with taken := m.taken + 1 }) := by
 rw [NN (w := 1) (u := (m.taken : Int)) ho he pM rfl (by simp)]
 congr 1
 simp only [gG, pE, String.reduceEq, if_false, if_true];exact N9 (S0 := S0) (m := m) (t := m.taken + 1)
end
theorem NU {n : Nat} (h : n < 10000000) : n < sizeLine := Nat.lt_trans h (by decide)
structure Mc.Fit (m : Mc) : Prop where
 d : m.deeds.length < 4000000
 k : m.stk.length < 4000000
 a : ∀ a ∈ m.act, a.length < 4000000
section
variable {S0 : aJ} {m : Mc}
theorem nA {ρ : Ev} {b : FE} {t : Task} (F : m.stk.length < 5000000) (hb : b ρ (dJ S0 m) = .ok (.dat t.d) (dJ S0 m)) : zY b ρ (.cel (S0.length + 2)) (dJ S0 m) = .ok (.dat .non) (dJ S0 { m with stk := t :: m.stk }) := by
 rw [rA tE, hb, eN, sX tE (by rw [oK]; exact NU (by omega)), <- rvD_cons, D2]
theorem nF {ρ : Ev} {b : FE} {t : Deed} (F : m.deeds.length < 5000000) (hb : b ρ (dJ S0 m) = .ok (.dat t.d) (dJ S0 m)) : zY b ρ (.cel (S0.length + 1)) (dJ S0 m) = .ok (.dat .non) (dJ S0 { m with deeds := m.deeds ++ [t] }) := by
 rw [rA As, hb, eN, sX As (by rw [bA]; exact NU (by omega)), show m.deeds.map Deed.d ++ [t.d] = (m.deeds ++ [t]).map Deed.d by simp, NB]
theorem NP {ρ : Ev} {b : FE} {p k : Nat} {a : List Nat} (h : m.act[p]? = some a) (F : a.length < 5000000) (hb : b ρ (dJ S0 m) = .ok (.dat (.int (k : Int))) (dJ S0 m)) : zY b ρ (.cel (S0.length + 3 + p)) (dJ S0 m) = .ok (.dat .non) (dJ S0 { m with act := m.act.set p (k :: a) }) := by
 rw [rA (Au h), hb, eN, sX (Au h) (by rw [oK]; exact NU (by omega)), show xQ Aa a ++ [.int (k : Int)] = xQ Aa (k :: a) from rvD_cons.symm, GU]
theorem vZ {t : Task} {r : List Task} (h : m.stk = t :: r) : tD (.cel (S0.length + 2)) (dJ S0 m) = .ok (.dat t.d) (dJ S0 { m with stk := r }) := by
 have e := tE (S0 := S0) (m := m);rw [h, rvD_cons] at e;simp only [tD, e];rw [show (xQ Task.d r ++ [t.d])[(xQ Task.d r ++ [t.d]).length - 1]? = some t.d by simp]
 dsimp only;rw [nD, D2]
theorem G7 {p k : Nat} {a : List Nat} (h : m.act[p]? = some (k :: a)) : tD (.cel (S0.length + 3 + p)) (dJ S0 m) = .ok (.dat (.int (k : Int))) (dJ S0 { m with act := m.act.set p a }) := by
 have e := Au (S0 := S0) h;rw [rvD_cons] at e;simp only [tD, e];rw [show (xQ Aa a ++ [Aa k])[(xQ Aa a ++ [Aa k]).length - 1]? = some (Aa k) by simp]
 dsimp only;rw [nD, GU]
end
def rO (i : Int) : Er := ⟨"NoRun", ["index"], [.int i]⟩
theorem Fv {S0 : aJ} {m : Mc} (h : m.taken = m.bits.length) : cX [.cel S0.length] (dJ S0 m) = .err (rO (m.taken : Int)) (dJ S0 m) := by
 rw [qG];unfold gD;simp! [lU, Cv, bA, decide_eq_true (show ((m.taken : Nat) : Int) = (m.bits.length : Int) by omega)]
 rfl
theorem Fu {S0 : aJ} {m : Mc} {b : Int} (h : m.bits[m.taken]? = some b) : cX [.cel S0.length] (dJ S0 m) = .ok (.dat (.int b)) (dJ S0 { m with taken := m.taken + 1 }) := by
 have hl := (aH.mp h).1;have hix : atI (m.bits.map D.int) (((m.taken + 1 : Nat) : Int) - 1) = some (.int b) := by
  rw [fQ (n := m.taken) (by omega), bG, h]; rfl
 have ea := IB (S0 := S0) (m := m) (ρ := [some (.cel S0.length)]) (o := aB 0) (e := mC (.int 1)) rfl rfl;have hf := lU (S0 := S0) (m := { m with taken := m.taken + 1 })
 have hb := Cv (S0 := S0) (m := { m with taken := m.taken + 1 })
 rw [qG];unfold gD;simp! [lU, Cv, bA, decide_eq_false (show ¬ ((m.taken : Nat) : Int) = (m.bits.length : Int) by omega), ea, hf, hb, sW hix]
 rfl
def Fw : Option iP -> D
 | none => .non
 | some c => QB c
theorem Fb {p : Nat} {st : Option iP} : (Task.call p st).d = .tup [.str "call", .int (p : Int), Fw st] := by cases st <;> rfl
def Mc.free (m : Mc) (p : Nat) : Prop := ∀ a k, m.act[p]? = some (k :: a) -> k ≠ m.taken
def Mc.enter (m : Mc) (p : Nat) (a : List Nat) (b : List Stt) (st : Option iP) : Mc := { m with act := m.act.set p (m.taken :: a), stk := .lst b 0 :: .call p st :: m.stk }
theorem GE {S0 : aJ} {m : Mc} {p : Nat} {a : List Nat} (h : m.act[p]? = some a) : eY (.cel (S0.length + 3 + p)) (dJ S0 m) = .ok (.dat (.int (a.length : Int))) (dJ S0 m) := by rw [Cq (Au h), oK]
theorem atI_last {α : Type} {xs : List α} {x : α} : atI (xs ++ [x]) (-1) = some x := by
 have e : ixN (xs ++ [x]).length (-1) = some xs.length := by
  unfold ixN;rw [if_neg (by omega), if_pos (by simp; omega)]
  congr 1
  simp;omega
 unfold atI;rw [e];simp
theorem Dl {S0 : aJ} {m : Mc} {p k : Nat} {a : List Nat} (h : m.act[p]? = some (k :: a)) : bQ (.cel (S0.length + 3 + p)) (.dat (.int (-1))) (dJ S0 m) = .ok (.dat (.int (k : Int))) (dJ S0 m) := by
 refine K8 (Au h) ?_
 rw [rvD_cons];exact atI_last
theorem EF {S0 : aJ} {m : Mc} {p : Nat} {a : List Nat} {b : List Stt} {st : Option iP} (F : m.Fit) (ha : m.act[p]? = some a) (hb : m.bs[p]? = some b) (hf : m.free p) : dF [.cel S0.length, .dat (.int (p : Int)), .dat (Fw st)] (dJ S0 m) = .ok (.dat .non) (dJ S0 (m.enter p a b st)) := by
 have hpl := (aH.mp ha).1;have hbx : atI (bls m.bs) (p : Int) = some (.lst (cR b)) := by
  rw [fQ (n := p) rfl];simp [bls, hb]
 have Fa := F.a a (aZ ha);have Fk := F.k;rw [pC];unfold fP;have e1 := NP (S0 := S0) (m := m) (k := m.taken) (ρ := [some (.cel S0.length), some (.dat (.int (p : Int))), some (.dat (Fw st)), some (.cel (S0.length + 3 + p))]) (b := dG "Execution" "taken" (aB 0)) ha (by omega) (by simp! [lU])
 have e2 := nA (S0 := S0) (m := { m with act := m.act.set p (m.taken :: a) }) (ρ := [some (.cel S0.length), some (.dat (.int (p : Int))), some (.dat (Fw st)), some (.cel (S0.length + 3 + p))]) (b := cK (aD (mC (.str "call")) (aD (aB 1) (aD (aB 2) aL)))) (t := .call p st) (show m.stk.length < 5000000 by omega) (by simp! [Fb])
 have hbx' := hbx;have e3 := nA (S0 := S0) (m := { m with act := m.act.set p (m.taken :: a), stk := .call p st :: m.stk }) (ρ := [some (.cel S0.length), some (.dat (.int (p : Int))), some (.dat (Fw st)), some (.cel (S0.length + 3 + p))]) (b := cK (aD (mC (.str "list")) (aD (aS bQ (dG "Execution" "own" (aB 0)) (aB 1)) (aD (mC (.int 0)) aL)))) (t := .lst b 0) (by simp; omega) (by simp! [Q3, sW hbx]; rfl)
 have f2 := eJ (S0 := S0) (m := { m with act := m.act.set p (m.taken :: a) })
 have f3 := eJ (S0 := S0) (m := { m with act := m.act.set p (m.taken :: a), stk := .call p st :: m.stk })
 simp! [yK, yF hpl, GE ha];cases a with
 | nil =>
  simp! [cM, jZ, yK, yF hpl, e1, f2, e2, f3, e3];rfl
 | cons k a =>
  have hne : ¬ ((k : Nat) : Int) = (m.taken : Int) := fun e => hf a k ha (by omega)
  have hpos : (0 : Int) < ((a.length + 1 : Nat) : Int) := by omega
  simp! [aN, decide_eq_true hpos, Dl ha, lU, decide_eq_false hne, yK, yF hpl, e1, f2, e2, f3, e3];rfl
theorem Kc {S0 : aJ} {m : Mc} {p : Nat} {a : List Nat} {st : Option iP} (ha : m.act[p]? = some (m.taken :: a)) : dF [.cel S0.length, .dat (.int (p : Int)), .dat (Fw st)] (dJ S0 m) = .err (rO (-2)) (dJ S0 m) := by
 have hpl := (aH.mp ha).1;rw [pC];unfold fP;simp! [yK, yF hpl, GE ha, aN, decide_eq_true (show (0 : Int) < ((a.length + 1 : Nat) : Int) by omega), Dl ha, lU]
 rfl
def Mc.leave (m : Mc) (p : Nat) (a : List Nat) (st : Option iP) (way : Int) : Mc := match st with
 | none => { m with act := m.act.set p a, ended := way }
 | some c => { m with act := m.act.set p a, deeds := m.deeds ++ (if c.2.1 then [.cl] else []), stk := .lst (if way = 0 then c.2.2.1 else c.2.2.2) 0 :: m.stk }
theorem P6 {c : iP} {S : aJ} : bQ (.dat (QB c)) (.dat (.int 2)) S = .ok (.dat (.bl c.2.1)) S := uV
theorem P5 {c : iP} {S : aJ} : bQ (.dat (QB c)) (.dat (.int 3)) S = .ok (.dat (.lst [.lst (cR c.2.2.1), .lst (cR c.2.2.2)])) S := MC
theorem Jh {c : iP} : isNon (.dat (QB c)) = false := rfl
theorem Di {S0 : aJ} {m : Mc} {p k : Nat} {a : List Nat} {st : Option iP} {way : Int} (F : m.Fit) (ha : m.act[p]? = some (k :: a)) (hw : way = 0 \/ way = 1) : fL [.cel S0.length, .dat (.int (p : Int)), .dat (Fw st), .dat (.int way)] (dJ S0 m) = .ok (.dat .non) (dJ S0 (m.leave p a st way)) := by
 have hpl := (aH.mp ha).1;have Fk := F.k;have Fd := F.d;rw [xM];unfold hQ;cases st with
 | none =>
  have e1 := Gz (S0 := S0) (m := { m with act := m.act.set p a }) (ρ := [some (.cel S0.length), some (.dat (.int (p : Int))), some (.dat .non), some (.dat (.int way))]) (w := way)
  simp! [Fw, yK, yF hpl, G7 ha, e1];rfl
 | some c =>
  have hz : ∀ S, bQ (.dat (.lst [.lst (cR c.2.2.1), .lst (cR c.2.2.2)])) (.dat (.int way)) S = .ok (.dat (.lst (cR (if way = 0 then c.2.2.1 else c.2.2.2)))) S := fun S => by
   rcases hw with rfl | rfl
   ·exact Jf
   ·exact P7
  have e1 := nF (S0 := S0) (m := { m with act := m.act.set p a }) (ρ := [some (.cel S0.length), some (.dat (.int (p : Int))), some (.dat (QB c)), some (.dat (.int way))]) (b := cK (aD (mC (.str "close")) aL)) (t := .cl) (show m.deeds.length < 5000000 by omega) (by simp! [Deed.d])
  have e2 := fun ds => nA (S0 := S0) (m := { m with act := m.act.set p a, deeds := ds }) (ρ := [some (.cel S0.length), some (.dat (.int (p : Int))), some (.dat (QB c)), some (.dat (.int way))]) (b := cK (aD (mC (.str "list")) (aD (aS bQ (aS bQ (aB 2) (mC (.int 3))) (aB 3)) (aD (mC (.int 0)) aL)))) (t := .lst (if way = 0 then c.2.2.1 else c.2.2.2) 0) (show m.stk.length < 5000000 by omega) (by simp! [P5, hz]; rfl)
  have f1 := nW (S0 := S0) (m := { m with act := m.act.set p a })
  have f2 := fun ds => eJ (S0 := S0) (m := { m with act := m.act.set p a, deeds := ds })
  have e2' := e2 m.deeds;have f2' := f2 m.deeds;simp! [Fw, yK, yF hpl, G7 ha, Jh, P6];cases q : c.2.1 with
  | true =>
   simp! [f1, e1, f2, e2];simp only [Mc.leave, q];rfl
  | false =>
   simp! [f2', e2'];simp only [Mc.leave, q];simp;rfl
def yW : List Task -> List Deed -> Option (List Deed × Nat × Option iP × List Task)
 | [], _ => none
 | .call p st :: r, ds => some (ds, p, st, r)
 | .close :: r, ds => yW r (ds ++ [.cl])
 | .lst _ _ :: r, ds => yW r ds
 | .again _ :: r, ds => yW r ds
def Task.word : Task -> Str
 | .lst _ _ => "list"
 | .close => "close"
 | .again _ => "again"
 | .call _ _ => "call"
theorem oQ {t : Task} {S : aJ} : bQ (.dat t.d) (.dat (.int 0)) S = .ok (.dat (.str t.word)) S := by
 cases t with
 | call p st => cases st <;> rfl
 | _ => rfl
theorem A4 {mt : FT} {mb : FS} {k : Nat} {ρ ρ' : Ev} {S S' : aJ} (h1 : mt ρ S = .ok true S) (h2 : mb ρ S = .next ρ' S') : oH mt mb (k + 1) ρ S = oH mt mb k ρ' S' := by
 rw [oH, h1, pW, if_pos rfl, h2]
theorem IM {mt : FT} {mb : FS} {k : Nat} {ρ : Ev} {S : aJ} (h1 : mt ρ S = .ok false S) : oH mt mb (k + 1) ρ S = .next ρ S := by
 rw [oH, h1, pW, if_neg (by simp)]
theorem vM {S0 : aJ} {way : Vl} : ∀ (ts : List Task) (t : Task) (m : Mc) (ds : List Deed) (p : Nat) (st : Option iP) (r : List Task) (k : Nat), m.stk = ts -> yW (t :: ts) m.deeds = some (ds, p, st, r) -> ts.length < k -> m.deeds.length + ts.length < 4500000 ->
  oH (mB (aS GT (aS bQ (aB 2) (mC (.int 0))) (mC (.str "call")))) cV k [some (.cel S0.length), some way, some (.dat t.d)] (dJ S0 m) = .next [some (.cel S0.length), some way, some (.dat (Task.call p st).d)] (dJ S0 { m with stk := r, deeds := ds })
 | ts, .call p' st', m, ds, p, st, r, k, hs, hu, hk, hd => by
  obtain ⟨k, rfl⟩ : ∃ k', k = k' + 1 := ⟨k - 1, by omega⟩
  simp only [yW] at hu;cases hu;rw [IM (by simp! [oQ, Task.word])]
  subst hs;rfl
 | [], .close, m, ds, p, st, r, k, hs, hu, hk, hd => by simp [yW] at hu
 | [], .lst _ _, m, ds, p, st, r, k, hs, hu, hk, hd => by simp [yW] at hu
 | [], .again _, m, ds, p, st, r, k, hs, hu, hk, hd => by simp [yW] at hu
 | t' :: ts, .close, m, ds, p, st, r, k, hs, hu, hk, hd => by
  simp only [aN] at hk hd;obtain ⟨k, rfl⟩ : ∃ k', k = k' + 1 := ⟨k - 1, by omega⟩
  have e1 := nF (S0 := S0) (m := m) (ρ := [some (.cel S0.length), some way, some (.dat Task.close.d)]) (b := aB 2) (t := .cl) (by omega) rfl
  have f2 := eJ (S0 := S0) (m := { m with deeds := m.deeds ++ [.cl] })
  have e2 := vZ (S0 := S0) (m := { m with deeds := m.deeds ++ [.cl] }) (t := t') (r := ts) hs
  rw [A4 (ρ' := [some (.cel S0.length), some way, some (.dat t'.d)]) (S' := dJ S0 { m with deeds := m.deeds ++ [.cl], stk := ts }) (by simp! [oQ, Task.word]) (by unfold cV; simp! [oQ, Task.word, nW, e1, f2, e2])]
  exact vM ts t' { m with deeds := m.deeds ++ [.cl], stk := ts } ds p st r k rfl (by simpa [yW] using hu) (by omega) (by simp; omega)
 | t' :: ts, .lst l i, m, ds, p, st, r, k, hs, hu, hk, hd => by
  simp only [aN] at hk hd;obtain ⟨k, rfl⟩ : ∃ k', k = k' + 1 := ⟨k - 1, by omega⟩
  have e2 := vZ (S0 := S0) (m := m) (t := t') (r := ts) hs;rw [A4 (ρ' := [some (.cel S0.length), some way, some (.dat t'.d)]) (S' := dJ S0 { m with stk := ts }) (by simp! [oQ, Task.word]) (by unfold cV; simp! [oQ, Task.word, eJ, e2])]
  exact vM ts t' { m with stk := ts } ds p st r k rfl (by simpa [yW] using hu) (by omega) (by simp; omega)
 | t' :: ts, .again l, m, ds, p, st, r, k, hs, hu, hk, hd => by
  simp only [aN] at hk hd;obtain ⟨k, rfl⟩ : ∃ k', k = k' + 1 := ⟨k - 1, by omega⟩
  have e2 := vZ (S0 := S0) (m := m) (t := t') (r := ts) hs;rw [A4 (ρ' := [some (.cel S0.length), some way, some (.dat t'.d)]) (S' := dJ S0 { m with stk := ts }) (by simp! [oQ, Task.word]) (by unfold cV; simp! [oQ, Task.word, eJ, e2])]
  exact vM ts t' { m with stk := ts } ds p st r k rfl (by simpa [yW] using hu) (by omega) (by simp; omega)
theorem Dq {p : Nat} {st : Option iP} {S : aJ} : bQ (.dat (Task.call p st).d) (.dat (.int 1)) S = .ok (.dat (.int (p : Int))) S := by rw [Fb]; exact kM
theorem Do {p : Nat} {st : Option iP} {S : aJ} : bQ (.dat (Task.call p st).d) (.dat (.int 2)) S = .ok (.dat (Fw st)) S := by rw [Fb]; exact uV
theorem vN : ∀ {ts : List Task} {d0 ds : List Deed} {p : Nat} {st : Option iP} {r : List Task}, yW ts d0 = some (ds, p, st, r) -> ds.length + r.length < d0.length + ts.length /\ r.length < ts.length
 | .call p st :: r, d0, ds, p', st', r', h => by simp [yW] at h; obtain ⟨rfl, rfl, rfl, rfl⟩ := h; simp
 | .close :: r, d0, ds, p', st', r', h => by
  have := vN (ts := r) (show yW r (d0 ++ [.cl]) = _ from h)
  simp at this ⊢;omega
 | .lst _ _ :: r, d0, ds, p', st', r', h => by
  have := vN (ts := r) (show yW r d0 = _ from h)
  simp;omega
 | .again _ :: r, d0, ds, p', st', r', h => by
  have := vN (ts := r) (show yW r d0 = _ from h)
  simp;omega
structure Mc.Sm (m : Mc) : Prop where
 k : m.stk.length < 900000
 d : m.deeds.length < 900000
 a : ∀ a ∈ m.act, a.length < 900000
theorem Mc.Sm.fit {m : Mc} (h : m.Sm) : m.Fit := ⟨by have := h.d; omega, by have := h.k; omega, fun a ha => by have := h.a a ha; omega⟩
theorem Gn {S0 : aJ} {m : Mc} {way : Int} {ds : List Deed} {p k : Nat} {st : Option iP} {r : List Task} {a : List Nat} (F : m.Sm) (hu : yW m.stk m.deeds = some (ds, p, st, r)) (ha : m.act[p]? = some (k :: a)) (hw : way = 0 \/ way = 1) :
  gM [.cel S0.length, .dat (.int way)] (dJ S0 m) = .ok (.dat .non) (dJ S0 (({ m with stk := r, deeds := ds } : Mc).leave p a st way)) := by
 have Fk := F.k;have Fd := F.d;cases hs : m.stk with
 | nil => rw [hs] at hu; simp [yW] at hu
 | cons t ts =>
  rw [hs] at hu;have hlen := vN hu;rw [hs] at Fk;simp only [aN] at Fk hlen;have e1 := vZ (S0 := S0) hs;have e2 := vM (S0 := S0) (way := .dat (.int way)) ts t { m with stk := ts } ds p st r 1000000 rfl hu (by omega) (by simp; omega)
  have e3 := Di (S0 := S0) (m := { m with stk := r, deeds := ds }) (st := st) (way := way) ⟨by simp; omega, by simp; omega, F.fit.a⟩ ha hw
  have hi := wJ (S0 := S0) (m := { m with stk := r, deeds := ds }) (f := "leave") (by decide)
  rw [vJ];unfold gW;simp! [eJ, e1, yC, e2, eW hi, Dq, Do, e3];rfl
inductive SR where
 | ok (m : Mc) | err (i : Int) (m : Mc) | no
def kD (s : Stt) (m : Mc) : SR := match s with
 | .cmd c => .ok { m with deeds := m.deeds ++ [.cmd c] }
 | .fin w => (match yW m.stk m.deeds with
  | some (ds, p, st, r) => (match m.act[p]? with
   | some (_ :: a) => .ok (({ m with stk := r, deeds := ds } : Mc).leave p a st w)
   | _ => .no)
  | none => .no)
 | .keep b => .ok { m with deeds := m.deeds ++ [.op], stk := .lst b 0 :: .close :: m.stk }
 | .either x y => (match m.bits[m.taken]? with
  | none => .err (m.taken : Int) m
  | some b => .ok { m with taken := m.taken + 1, stk := .lst (if b = 0 then x else y) 0 :: m.stk })
 | .again b => .ok { m with stk := .again b :: m.stk }
 | .call g f x y => (match m.act[g.toNat]?, m.bs[g.toNat]? with
  | some a, some b => if a.head? = some m.taken then .err (-2) { m with deeds := m.deeds ++ (if f then [.op] else []) } else .ok (({ m with deeds := m.deeds ++ (if f then [.op] else []) } : Mc).enter g.toNat a b (some (g, f, x, y)))
  | _, _ => .no)
 | _ => .no
def uD (m : Mc) : SR := match m.stk with
 | [] => .no
 | .lst l i :: r => (match l[i]? with
  | none => .ok { m with stk := r }
  | some s => kD s { m with stk := .lst l (i + 1) :: r })
 | .close :: r => .ok { m with stk := r, deeds := m.deeds ++ [.cl] }
 | .again b :: r => (match m.bits[m.taken]? with
  | none => .err (m.taken : Int) { m with stk := r }
  | some x => if x = 1 then .ok { m with taken := m.taken + 1, stk := .lst b 0 :: .again b :: r } else .ok { m with taken := m.taken + 1, stk := r })
 | .call p st :: r => (match m.act[p]? with
  | some (_ :: a) => .ok (({ m with stk := r } : Mc).leave p a st 0)
  | _ => .no)
def QH (r : Res Vl) (S0 : aJ) (x : SR) : Prop := match x with
 | .ok m => r = .ok (.dat .non) (dJ S0 m)
 | .err i m => r = .err (rO i) (dJ S0 m)
 | .no => True
structure Mc.Wf (m : Mc) : Prop where
 t : m.taken <= m.bits.length
 b : ∀ b ∈ m.bits, b = 0 \/ b = 1
theorem Ku {S0 : aJ} {m m' : Mc} {ρ : Ev} {b : FE} {t : Task} (F : m'.stk.length < 5000000) (hb : b ρ (dJ S0 m) = .ok (.dat t.d) (dJ S0 m')) : zY b ρ (.cel (S0.length + 2)) (dJ S0 m) = .ok (.dat .non) (dJ S0 { m' with stk := t :: m'.stk }) := by
 rw [rA tE, hb, eN, sX tE (by rw [oK]; exact NU (by omega)), <- rvD_cons, D2]
theorem Kt {S0 : aJ} {m m' : Mc} {ρ : Ev} {b : FE} {e : Er} (hb : b ρ (dJ S0 m) = .err e (dJ S0 m')) : zY b ρ (.cel (S0.length + 2)) (dJ S0 m) = .err e (dJ S0 m') := by
 rw [rA tE, hb, An]
theorem Kr {S0 : aJ} {m : Mc} {s : Stt} {many : Int} {k : Nat} (ho : s.Ok many k) (F : m.Sm) (W : m.Wf) : QH (hL [.cel S0.length, .dat s.d] (dJ S0 m)) S0 (kD s m) := by
 have Fk := F.k;have Fd := F.d;rw [xN];unfold hR;cases s with
 | bad => trivial
 | odd x => trivial
 | cmd c =>
  have e1 := nF (S0 := S0) (m := m) (ρ := [some (.cel S0.length), some (.dat c.d), some (.dat (.str (Stt.cmd c).word))]) (b := aB 1) (t := .cmd c) (by omega) rfl
  have hw : ∀ S, bQ (.dat c.d) (.dat (.int 0)) S = .ok (.dat (.str (Stt.cmd c).word)) S := fun S => MB (s := .cmd c) rfl
  show _ = _
  simp! [Stt.d, hw, Cm ho, nW, e1];rfl
 | fin w =>
  simp only [kD];cases hu : yW m.stk m.deeds with
  | none => trivial
  | some x =>
   obtain ⟨ds, p, st, r⟩ := x;dsimp only;cases ha : m.act[p]? with
   | none => trivial
   | some l =>
    cases l with
    | nil => trivial
    | cons k0 a =>
     have e1 := Gn (S0 := S0) (way := w) F hu ha (by obtain ⟨h1, h2⟩ := ho; omega)
     have hi := wJ (S0 := S0) (m := m) (f := "unwind") (by decide)
     show _ = _
     simp! [Stt.d, dN, kM, iC GM, eW hi, e1];rfl
 | keep b =>
  have e1 := nF (S0 := S0) (m := m) (ρ := [some (.cel S0.length), some (.dat (.tup [.str "keep", .lst (cR b)])), some (.dat (.str "keep"))]) (b := cK (aD (mC (.str "open")) aL)) (t := .op) (by omega) (by simp! [Deed.d])
  have e2 := nA (S0 := S0) (m := { m with deeds := m.deeds ++ [.op] }) (ρ := [some (.cel S0.length), some (.dat (.tup [.str "keep", .lst (cR b)])), some (.dat (.str "keep"))]) (b := cK (aD (mC (.str "close")) aL)) (t := .close) (show m.stk.length < 5000000 by omega) (by simp! [Task.d])
  have e3 := nA (S0 := S0) (m := { m with deeds := m.deeds ++ [.op], stk := .close :: m.stk }) (ρ := [some (.cel S0.length), some (.dat (.tup [.str "keep", .lst (cR b)])), some (.dat (.str "keep"))]) (b := cK (aD (mC (.str "list")) (aD (aS bQ (aB 1) (mC (.int 1))) (aD (mC (.int 0)) aL)))) (t := .lst b 0) (by simp; omega) (by simp! [kM]; rfl)
  have f2 := eJ (S0 := S0) (m := { m with deeds := m.deeds ++ [.op] })
  have f3 := eJ (S0 := S0) (m := { m with deeds := m.deeds ++ [.op], stk := .close :: m.stk })
  show _ = _
  simp! [Stt.d, dN, iC Ak, nW, e1, f2, e2, f3, e3];rfl
 | either x y =>
  simp only [kD];have hi := wJ (S0 := S0) (m := m) (f := "take") (by decide)
  cases hb : m.bits[m.taken]? with
  | none =>
   have e1 := Fv (S0 := S0) (m := m) (by have := W.t; have := qH.mp hb; omega)
   have e2 := Kt (S0 := S0) (m := m) (m' := m) (e := rO (m.taken : Int)) (ρ := [some (.cel S0.length), some (.dat (.tup [.str "either", .lst (cR x), .lst (cR y)])), some (.dat (.str "either"))]) (b := cK (aD (mC (.str "list")) (aD (aS bQ (aB 1) (aS (eR false) (mC (.int 1)) (fM "Execution" "take" cX (aB 0) aL))) (aD (mC (.int 0)) aL)))) (by simp! [eW hi, e1])
   show _ = _
   simp! [Stt.d, dN, iC qY, eJ, e2];rfl
  | some b =>
   have e1 := Fu (S0 := S0) hb;have hix : ∀ S, bQ (.dat (.tup [.str "either", .lst (cR x), .lst (cR y)])) (.dat (.int (1 + b))) S = .ok (.dat (.lst (cR (if b = 0 then x else y)))) S := fun S => by
    rcases W.b b (aZ hb) with rfl | rfl
    ·exact kM
    ·exact uV
   have e2 := Ku (S0 := S0) (m := m) (m' := { m with taken := m.taken + 1 }) (ρ := [some (.cel S0.length), some (.dat (.tup [.str "either", .lst (cR x), .lst (cR y)])), some (.dat (.str "either"))]) (b := cK (aD (mC (.str "list")) (aD (aS bQ (aB 1) (aS (eR false) (mC (.int 1)) (fM "Execution" "take" cX (aB 0) aL))) (aD (mC (.int 0)) aL)))) (t := .lst (if b = 0 then x else y) 0) (show m.stk.length < 5000000 by omega) (by simp! [eW hi, e1, hix]; rfl)
   show _ = _
   simp! [Stt.d, dN, iC qY, eJ, e2];rfl
 | again b =>
  have e2 := nA (S0 := S0) (m := m) (ρ := [some (.cel S0.length), some (.dat (.tup [.str "again", .lst (cR b)])), some (.dat (.str "again"))]) (b := cK (aD (mC (.str "again")) (aD (aS bQ (aB 1) (mC (.int 1))) aL))) (t := .again b) (by omega) (by simp! [kM]; rfl)
  show _ = _
  simp! [Stt.d, dN, iC yG, eJ, e2];rfl
 | call g f x y =>
  obtain ⟨⟨_, g0, g1⟩, _⟩ := ho;simp only [kD];have hgn : g = (g.toNat : Int) := by omega
  cases ha : m.act[g.toNat]? with
  | none => trivial
  | some a =>
   cases hb : m.bs[g.toNat]? with
   | none => trivial
   | some b =>
    dsimp only;have main : ∀ ds : List Deed, ds.length <= m.deeds.length + 1 -> QH (dF [.cel S0.length, .dat (.int g), .dat (Fw (some (g, f, x, y)))] (dJ S0 { m with deeds := ds })) S0 (if a.head? = some m.taken then .err (-2) { m with deeds := ds } else .ok (({ m with deeds := ds } : Mc).enter g.toNat a b (some (g, f, x, y)))) := fun ds hds => by
     rw [show (D.int g) = D.int ((g.toNat : Nat) : Int) by rw [<- hgn]]
     split
     ·rename_i hh
      cases a with
      | nil => simp at hh
      | cons k0 a =>
       simp at hh;subst hh;exact Kc (m := { m with deeds := ds }) ha
     ·rename_i hh
      refine EF (m := { m with deeds := ds }) ⟨by simp; omega, by simp; omega, F.fit.a⟩ ha hb (fun a' k' h' e => hh ?_)
      have h2 : m.act[g.toNat]? = some (k' :: a') := h';rw [ha] at h2;cases h2;simp [e]
    have hd : (Stt.call g f x y).d = Fw (some (g, f, x, y)) := rfl;have hsd : Fw (some (g, f, x, y)) = .tup [.str "call", .int g, .bl f, .lst [.lst (cR x), .lst (cR y)]] := rfl;have hi := fun ds => wJ (S0 := S0) (m := { m with deeds := ds }) (f := "enter") (by decide)
    cases f with
    | false =>
     have mm := main m.deeds (by omega)
     have hi0 := hi m.deeds;simp only [Bool.false_eq_true, if_false, bJ];rw [hsd] at mm;simp! [Stt.d, dN, kM, uV, iC wL, eW hi0]
     revert mm
     split
     ·intro mm
      have mm' : _ = _ := mm
      show _ = _
      simp! [mm'];rfl
     ·intro mm
      have mm' : _ = _ := mm
      show _ = _
      simp! [mm'];rfl
    | true =>
     have mm := main (m.deeds ++ [.op]) (by simp)
     have e1 := nF (S0 := S0) (m := m) (ρ := [some (.cel S0.length), some (.dat (.tup [.str "call", .int g, .bl true, .lst [.lst (cR x), .lst (cR y)]])), some (.dat (.str "call"))]) (b := cK (aD (mC (.str "open")) aL)) (t := .op) (by omega) (by simp! [Deed.d])
     simp only [if_true];rw [hsd] at mm;simp! [Stt.d, dN, kM, uV, iC wL, nW, e1, eW (hi (m.deeds ++ [.op]))]
     revert mm
     split
     ·intro mm
      have mm' : _ = _ := mm
      show _ = _
      simp! [mm'];rfl
     ·intro mm
      have mm' : _ = _ := mm
      show _ = _
      simp! [mm'];rfl
def L1 (many : Int) (b : List Stt) : Prop := ∃ k, OkL many b k
def Task.OkT (many : Int) : Task -> Prop
 | .lst l _ => L1 many l
 | .close => True
 | .again b => L1 many b
 | .call _ none => True
 | .call _ (some c) => L1 many c.2.2.1 /\ L1 many c.2.2.2
theorem LP {S0 : aJ} {m : Mc} {many : Int} (T : ∀ t ∈ m.stk, t.OkT many) (F : m.Sm) (W : m.Wf) : QH (iH [.cel S0.length] (dJ S0 m)) S0 (uD m) := by
 have Fk := F.k;have Fd := F.d;rw [yT];unfold iM;cases hs : m.stk with
 | nil => simp only [uD, hs]; trivial
 | cons t r =>
  have hT := T t (by rw [hs]; exact aY ..)
  rw [hs] at Fk;simp only [aN] at Fk;have ep := vZ (S0 := S0) hs;simp only [uD, hs];cases t with
  | lst l i =>
   obtain ⟨k, hl⟩ := hT;dsimp only;have h1 : ∀ S, bQ (.dat (Task.lst l i).d) (.dat (.int 1)) S = .ok (.dat (.lst (cR l))) S := fun _ => kM
   have h2 : ∀ S, bQ (.dat (Task.lst l i).d) (.dat (.int 2)) S = .ok (.dat (.int (i : Int))) S := fun _ => uV
   cases hi : l[i]? with
   | none =>
    have := qH.mp hi
    show _ = _
    simp! [eJ, ep, oQ, Task.word, h1, h2, tG, decide_eq_false (show ¬ ((i : Nat) : Int) < (l.length : Int) by omega)]
    rfl
   | some s =>
    have hil := (aH.mp hi).1;have hs' := hl.mem s (aZ hi);have hix : atI (cR l) (i : Int) = some s.d := by
     rw [fQ (n := i) rfl, tF, bG, hi]; rfl
    have e1 := nA (S0 := S0) (m := { m with stk := r }) (ρ := [some (.cel S0.length), some (.dat (Task.lst l i).d)]) (b := cK (aD (mC (.str "list")) (aD (aS bQ (aB 1) (mC (.int 1))) (aD (aS (eR false) (aS bQ (aB 1) (mC (.int 2))) (mC (.int 1))) aL)))) (t := .lst l (i + 1)) (show r.length < 5000000 by omega) (by simp! [h1, h2]; rfl)
    have f1 := eJ (S0 := S0) (m := { m with stk := r })
    have hi' := wJ (S0 := S0) (m := { m with stk := .lst l (i + 1) :: r }) (f := "begin") (by decide)
    have bg := Kr (S0 := S0) (m := { m with stk := .lst l (i + 1) :: r }) hs' ⟨by simp; omega, by simp; omega, F.a⟩ ⟨W.t, W.b⟩
    simp! [eJ, ep, oQ, Task.word, h1, h2, tG, decide_eq_true (show ((i : Nat) : Int) < (l.length : Int) by omega), f1, e1, sW hix, eW hi']
    revert bg
    cases kD s { m with stk := .lst l (i + 1) :: r } with
    | no => intro _; trivial
    | ok m' => intro bg; have bg' : _ = _ := bg; show _ = _; simp! [bg']; rfl
    | err j m' => intro bg; have bg' : _ = _ := bg; show _ = _; simp! [bg']; rfl
  | close =>
   dsimp only;have e1 := nF (S0 := S0) (m := { m with stk := r }) (ρ := [some (.cel S0.length), some (.dat Task.close.d)]) (b := aB 1) (t := .cl) (show m.deeds.length < 5000000 by omega) rfl
   have f1 := nW (S0 := S0) (m := { m with stk := r })
   show _ = _
   simp! [eJ, ep, oQ, Task.word, f1, e1];rfl
  | again b =>
   dsimp only;have h1 : ∀ S, bQ (.dat (Task.again b).d) (.dat (.int 1)) S = .ok (.dat (.lst (cR b))) S := fun _ => kM
   have hi := wJ (S0 := S0) (m := { m with stk := r }) (f := "take") (by decide)
   cases hb : m.bits[m.taken]? with
   | none =>
    have e1 := Fv (S0 := S0) (m := { m with stk := r }) (by have := W.t; have := qH.mp hb; show m.taken = m.bits.length; omega)
    show _ = _
    simp! [eJ, ep, oQ, Task.word, eW hi, e1];rfl
   | some x =>
    have e1 := Fu (S0 := S0) (m := { m with stk := r }) hb
    rcases W.b x (aZ hb) with rfl | rfl
    ·show _ = _
     simp! [eJ, ep, oQ, Task.word, eW hi, e1];rfl
    ·have e2 := nA (S0 := S0) (m := { m with stk := r, taken := m.taken + 1 }) (ρ := [some (.cel S0.length), some (.dat (Task.again b).d)]) (b := aB 1) (t := .again b) (show r.length < 5000000 by omega) rfl
     have f2 := eJ (S0 := S0) (m := { m with stk := r, taken := m.taken + 1 })
     have e3 := nA (S0 := S0) (m := { m with stk := .again b :: r, taken := m.taken + 1 }) (ρ := [some (.cel S0.length), some (.dat (Task.again b).d)]) (b := cK (aD (mC (.str "list")) (aD (aS bQ (aB 1) (mC (.int 1))) (aD (mC (.int 0)) aL)))) (t := .lst b 0) (by simp; omega) (by simp! [h1]; rfl)
     have f3 := eJ (S0 := S0) (m := { m with stk := .again b :: r, taken := m.taken + 1 })
     show _ = _
     simp! [eJ, ep, oQ, Task.word, eW hi, e1, f2, e2, f3, e3];rfl
  | call p st =>
   dsimp only;cases ha : m.act[p]? with
   | none => trivial
   | some l =>
    cases l with
    | nil => trivial
    | cons k a =>
     have hi := wJ (S0 := S0) (m := { m with stk := r }) (f := "leave") (by decide)
     have e1 := Di (S0 := S0) (m := { m with stk := r }) (st := st) (way := 0) ⟨by simp; omega, by simp; omega, F.fit.a⟩ ha (.inl rfl)
     show _ = _
     simp! [eJ, ep, oQ, Task.word, eW hi, Dq, Do, e1];rfl
structure Mc.Keep (many : Int) (m m' : Mc) : Prop where
 bs : m'.bs = m.bs
 bits : m'.bits = m.bits
 tot : m'.stk.length + m'.deeds.length <= m.stk.length + m.deeds.length + 3
 act : ∀ a ∈ m'.act, ∃ b ∈ m.act, a.length <= b.length + 1
 al : m'.act.length = m.act.length
 tk : ∀ t ∈ m'.stk, t.OkT many
 wf : m'.Wf
theorem D9 {l : List (List Nat)} {p : Nat} {a b : List Nat} (h : l[p]? = some b) (hl : a.length <= b.length + 1) : ∀ c ∈ l.set p a, ∃ d ∈ l, c.length <= d.length + 1 := fun c hc => by
 rcases jA hc with hc | hc
 ·exact ⟨c, hc, by omega⟩
 ·rw [hc]; exact ⟨b, aZ h, hl⟩
theorem mF {l : List (List Nat)} : ∀ c ∈ l, ∃ d ∈ l, c.length <= d.length + 1 := fun c hc => ⟨c, hc, by omega⟩
theorem OkL.b {many : Int} {l : List Stt} {k : Nat} (h : OkL many l k) : L1 many l := ⟨k, h⟩
theorem Af {many : Int} {m0 m : Mc} {p k : Nat} {a : List Nat} {st : Option iP} {way : Int} (hb : m.bs = m0.bs) (hi : m.bits = m0.bits) (ht : m.stk.length + m.deeds.length + 1 <= m0.stk.length + m0.deeds.length + 1) (hact : m.act = m0.act) (ha : m.act[p]? = some (k :: a)) (T : ∀ t ∈ m.stk, t.OkT many) (hst : (Task.call p st).OkT many) (W : m.Wf) : Mc.Keep many m0 (m.leave p a st way) := by
 cases st with
 | none => exact ⟨hb, hi, by simp only [Mc.leave]; omega, by simp only [Mc.leave]; rw [hact] at ha ⊢; exact D9 ha (by simp; omega), by simp [Mc.leave, hact], T, ⟨W.t, W.b⟩⟩
 | some c =>
  refine ⟨hb, hi, ?_, by simp only [Mc.leave]; rw [hact] at ha ⊢; exact D9 ha (by simp; omega), by simp [Mc.leave, hact], fun t h => ?_, ⟨W.t, W.b⟩⟩
  ·simp only [Mc.leave, aN, cA]
   split <;> simp <;> omega
  ·simp only [Mc.leave] at h
   rcases bN.mp h with rfl | h
   ·show L1 many _
    split
    ·exact hst.1
    ·exact hst.2
   ·exact T t h
theorem A5 : ∀ {ts : List Task} {d0 ds : List Deed} {p : Nat} {st : Option iP} {r : List Task}, yW ts d0 = some (ds, p, st, r) -> Task.call p st ∈ ts /\ ∀ t ∈ r, t ∈ ts
 | .call p st :: r, d0, ds, p', st', r', h => by simp [yW] at h; obtain ⟨rfl, rfl, rfl, rfl⟩ := h; exact ⟨by simp, fun t ht => by simp [ht]⟩
 | .close :: r, d0, ds, p', st', r', h => by
  obtain ⟨h1, h2⟩ := A5 (ts := r) (show yW r (d0 ++ [.cl]) = _ from h)
  exact ⟨aM _ h1, fun t ht => aM _ (h2 t ht)⟩
 | .lst _ _ :: r, d0, ds, p', st', r', h => by
  obtain ⟨h1, h2⟩ := A5 (ts := r) (show yW r d0 = _ from h)
  exact ⟨aM _ h1, fun t ht => aM _ (h2 t ht)⟩
 | .again _ :: r, d0, ds, p', st', r', h => by
  obtain ⟨h1, h2⟩ := A5 (ts := r) (show yW r d0 = _ from h)
  exact ⟨aM _ h1, fun t ht => aM _ (h2 t ht)⟩
theorem Fe {many : Int} {m m' : Mc} {s : Stt} {k : Nat} (ho : s.Ok many k) (hB : ∀ b ∈ m.bs, L1 many b) (T : ∀ t ∈ m.stk, t.OkT many) (W : m.Wf) (h : kD s m = .ok m') : Mc.Keep many m m' := by
 cases s with
 | bad => cases h
 | odd x => cases h
 | cmd c => cases h; exact ⟨rfl, rfl, by simp; omega, mF, rfl, T, ⟨W.t, W.b⟩⟩
 | fin w =>
  simp only [kD] at h;cases hu : yW m.stk m.deeds with
  | none => rw [hu] at h; cases h
  | some x =>
   obtain ⟨ds, p, st, r⟩ := x;rw [hu] at h;dsimp only at h;cases ha : m.act[p]? with
   | none => rw [ha] at h; cases h
   | some l =>
    rw [ha] at h;cases l with
    | nil => cases h
    | cons k0 a =>
     cases h;have hl := vN hu;obtain ⟨u1, u2⟩ := A5 hu;exact Af (m0 := m) (m := { m with stk := r, deeds := ds }) rfl rfl (by simp; omega) rfl ha (fun t ht => T t (u2 t ht)) (T _ u1) ⟨W.t, W.b⟩
 | keep b =>
  cases h;refine ⟨rfl, rfl, by simp; omega, mF, rfl, fun t ht => ?_, ⟨W.t, W.b⟩⟩
  simp only [bN] at ht;rcases ht with rfl | rfl | ht
  ·exact ho.2.b
  ·trivial
  ·exact T t ht
 | either x y =>
  simp only [kD] at h;cases hb : m.bits[m.taken]? with
  | none => rw [hb] at h; cases h
  | some b =>
   rw [hb] at h;cases h;have hl := (aH.mp hb).1;refine ⟨rfl, rfl, by simp; omega, mF, rfl, fun t ht => ?_, ⟨hl, W.b⟩⟩
   rcases bN.mp ht with rfl | ht
   ·show L1 many _
    split
    ·exact ho.2.1.b
    ·exact ho.2.2.b
   ·exact T t ht
 | again b =>
  cases h;refine ⟨rfl, rfl, by simp; omega, mF, rfl, fun t ht => ?_, ⟨W.t, W.b⟩⟩
  rcases bN.mp ht with rfl | ht
  ·exact ho.2.b
  ·exact T t ht
 | call g f x y =>
  simp only [kD] at h;cases ha : m.act[g.toNat]? with
  | none => rw [ha] at h; cases h
  | some a =>
   cases hb : m.bs[g.toNat]? with
   | none => rw [ha, hb] at h; cases h
   | some b =>
    rw [ha, hb] at h;dsimp only at h;split at h
    ·cases h
    ·cases h
     refine ⟨rfl, rfl, ?_, ?_, by simp [Mc.enter], fun t ht => ?_, ⟨W.t, W.b⟩⟩
     ·simp only [Mc.enter, aN, cA]
      split <;> simp <;> omega
     ·exact D9 ha (by simp)
     ·simp only [Mc.enter, bN] at ht
      rcases ht with rfl | rfl | ht
      ·exact hB b (aZ hb)
      ·exact ⟨ho.2.1.b, ho.2.2.b⟩
      ·exact T t ht
theorem Gw {many : Int} {m m' : Mc} (hB : ∀ b ∈ m.bs, L1 many b) (T : ∀ t ∈ m.stk, t.OkT many) (W : m.Wf) (h : uD m = .ok m') : Mc.Keep many m m' := by
 cases hs : m.stk with
 | nil => simp only [uD, hs] at h; cases h
 | cons t r =>
  have hT := T t (by rw [hs]; exact aY ..)
  have hr : ∀ t ∈ r, t.OkT many := fun t ht => T t (by rw [hs]; exact aM _ ht)
  have hl : m.stk.length = r.length + 1 := by rw [hs]; rfl
  simp only [uD, hs] at h;cases t with
  | lst l i =>
   obtain ⟨k, hlk⟩ := hT;dsimp only at h;cases hi : l[i]? with
   | none => rw [hi] at h; cases h; exact ⟨rfl, rfl, by simp; omega, mF, rfl, hr, ⟨W.t, W.b⟩⟩
   | some s =>
    rw [hi] at h;have kk := Fe (m := { m with stk := .lst l (i + 1) :: r }) (hlk.mem s (aZ hi)) hB (fun t ht => by
     rcases bN.mp ht with rfl | ht
     ·exact ⟨k, hlk⟩
     ·exact hr t ht) ⟨W.t, W.b⟩ h
    exact ⟨kk.bs, kk.bits, by have := kk.tot; simp at this; omega, kk.act, kk.al, kk.tk, kk.wf⟩
  | close => cases h; exact ⟨rfl, rfl, by simp; omega, mF, rfl, hr, ⟨W.t, W.b⟩⟩
  | again b =>
   dsimp only at h;cases hb : m.bits[m.taken]? with
   | none => rw [hb] at h; cases h
   | some x =>
    rw [hb] at h;have hbl := (aH.mp hb).1;dsimp only at h;split at h
    ·cases h
     refine ⟨rfl, rfl, by simp; omega, mF, rfl, fun t ht => ?_, ⟨hbl, W.b⟩⟩
     simp only [bN] at ht;rcases ht with rfl | rfl | ht
     ·exact hT
     ·exact hT
     ·exact hr t ht
    ·cases h
     exact ⟨rfl, rfl, by simp; omega, mF, rfl, hr, ⟨hbl, W.b⟩⟩
  | call p st =>
   dsimp only at h;cases ha : m.act[p]? with
   | none => rw [ha] at h; cases h
   | some l =>
    rw [ha] at h;cases l with
    | nil => cases h
    | cons k a =>
     cases h;exact Af (m0 := m) (m := { m with stk := r }) rfl rfl (by simp; omega) rfl ha hr hT ⟨W.t, W.b⟩
def runM : Nat -> Mc -> SR
 | 0, _ => .no
 | k + 1, m => match m.stk with
  | [] => .ok m
  | _ :: _ => match uD m with
   | .ok m' => runM k m'
   | .err i m' => .err i m'
   | .no => .no
theorem DV {S0 : aJ} {many : Int} {a b c d e : Option Vl} : ∀ (k fuel : Nat) (m : Mc), k <= fuel -> (∀ b ∈ m.bs, L1 many b) -> (∀ t ∈ m.stk, t.OkT many) -> m.Wf -> m.stk.length + m.deeds.length + 3 * k <= 800000 -> (∀ a ∈ m.act, a.length + k <= 800000) ->
  match runM k m with
  | .ok m' => oH (mB (aS OB (m1 eY (dG "Execution" "stack" (aB 5))) (mC (.int 0)))) dP fuel [a, b, c, d, e, some (.cel S0.length)] (dJ S0 m) = .next [a, b, c, d, e, some (.cel S0.length)] (dJ S0 m')
  | .err i m' => ∃ ρ', oH (mB (aS OB (m1 eY (dG "Execution" "stack" (aB 5))) (mC (.int 0)))) dP fuel [a, b, c, d, e, some (.cel S0.length)] (dJ S0 m) = .err (rO i) ρ' (dJ S0 m')
  | .no => True
 | 0, fuel, m, _, _, _, _, _, _ => trivial
 | k + 1, fuel, m, hf, hB, hT, W, ht, ha => by
  obtain ⟨f, rfl⟩ : ∃ f, fuel = f + 1 := ⟨fuel - 1, by omega⟩
  unfold runM;cases hs : m.stk with
  | nil =>
   dsimp only;have hl : eY (.cel (S0.length + 2)) (dJ S0 m) = .ok (.dat (.int 0)) (dJ S0 m) := by rw [Cq tE, oK, hs]; rfl
   exact IM (by simp! [eJ, hl])
  | cons t r =>
   dsimp only;have hl : eY (.cel (S0.length + 2)) (dJ S0 m) = .ok (.dat (.int ((r.length + 1 : Nat) : Int))) (dJ S0 m) := by rw [Cq tE, oK, hs]; rfl
   have h1 : (mB (aS OB (m1 eY (dG "Execution" "stack" (aB 5))) (mC (.int 0)))) [a, b, c, d, e, some (.cel S0.length)] (dJ S0 m) = .ok true (dJ S0 m) := by simp! [eJ, hl, decide_eq_true (show (0 : Int) < ((r.length + 1 : Nat) : Int) by omega)]
   have st := LP (S0 := S0) hT ⟨by omega, by omega, fun a h => by have := ha a h; omega⟩ W
   have hi := wJ (S0 := S0) (m := m) (f := "step") (by decide)
   revert st
   cases q : uD m with
   | no => intro _; trivial
   | ok m' =>
    intro st;have st' : _ = _ := st;have K := Gw hB hT W q;have ih := DV (S0 := S0) (a := a) (b := b) (c := c) (d := d) (e := e) k f m' (by omega) (by rw [K.bs]; exact hB) K.tk K.wf (by have := K.tot; omega) (fun a h => by obtain ⟨b, h1, h2⟩ := K.act a h; have := ha b h1; omega)
    dsimp only;rw [A4 h1 (ρ' := [a, b, c, d, e, some (.cel S0.length)]) (S' := dJ S0 m') (by unfold dP; simp! [eW hi, st'])]
    exact ih
   | err i m' =>
    intro st;have st' : _ = _ := st;dsimp only;refine ⟨[a, b, c, d, e, some (.cel S0.length)], ?_⟩
    rw [oH, h1, pW, if_pos rfl, show dP [a, b, c, d, e, some (.cel S0.length)] (dJ S0 m) = .err (rO i) [a, b, c, d, e, some (.cel S0.length)] (dJ S0 m') by unfold dP; simp! [eW hi, st']]
theorem Ag {m : Mc} {p : Nat} {a : List Nat} {st : Option iP} {way : Int} : (m.leave p a st way).bits = m.bits /\ (m.leave p a st way).bs = m.bs := by cases st <;> exact ⟨rfl, rfl⟩
theorem Ff {s : Stt} {m m' : Mc} (h : kD s m = .ok m') : m'.bits = m.bits /\ m'.bs = m.bs := by
 cases s with
 | bad => cases h
 | odd x => cases h
 | cmd c => cases h; exact ⟨rfl, rfl⟩
 | keep b => cases h; exact ⟨rfl, rfl⟩
 | again b => cases h; exact ⟨rfl, rfl⟩
 | fin w =>
  simp only [kD] at h;split at h
  ·split at h
   ·cases h; exact Ag
   ·cases h
  ·cases h
 | either x y =>
  simp only [kD] at h;split at h
  ·cases h
  ·cases h; exact ⟨rfl, rfl⟩
 | call g f x y =>
  simp only [kD] at h;split at h
  ·split at h
   ·cases h
   ·cases h; exact ⟨rfl, rfl⟩
  ·cases h
theorem Gx {m m' : Mc} (h : uD m = .ok m') : m'.bits = m.bits /\ m'.bs = m.bs := by
 unfold uD at h;split at h
 ·cases h
 ·split at h
  ·cases h; exact ⟨rfl, rfl⟩
  ·have := Ff h; exact this
 ·cases h; exact ⟨rfl, rfl⟩
 ·split at h
  ·cases h
  ·split at h
   ·cases h; exact ⟨rfl, rfl⟩
   ·cases h; exact ⟨rfl, rfl⟩
 ·split at h
  ·cases h; exact Ag
  ·cases h
theorem DW : ∀ {k : Nat} {m m' : Mc}, runM k m = .ok m' -> m'.bits = m.bits /\ m'.bs = m.bs
 | 0, m, m', h => by cases h
 | k + 1, m, m', h => by
  unfold runM at h;split at h
  ·cases h; exact ⟨rfl, rfl⟩
  ·split at h
   ·rename_i m1 q
    have h1 := Gx q;have h2 := DW h;exact ⟨h2.1.trans h1.1, h2.2.trans h1.2⟩
   ·cases h
   ·cases h
def wG (bs : List (List Stt)) (bits : List Int) : Mc := ⟨bs, bits, 0, [], [], bL bs.length [], 0⟩
theorem setX {S0 : aJ} {fs : List (Str × Vl)} {ext : List Cell} {f : Str} {d : Vl} {ρ : Ev} (hl : fs.length < 1000) : gC "Execution" f ρ d (.cel S0.length) (S0 ++ (.ins "Execution" fs :: ext)) = .next ρ (S0 ++ (.ins "Execution" (gG f d fs) :: ext)) := by
 rw [eF (fs := fs) (by simp) hl]
 simp
theorem MK {S0 : aJ} {bs : List (List Stt)} {bits : List Int} (hl : bs.length <= 10) : Aj true "Execution" gA [.dat (.lst (bls bs)), .dat (.lst (bits.map D.int))] S0 = .ok (.cel S0.length) (dJ S0 (wG bs bits)) := by
 have e : gA [.cel S0.length, .dat (.lst (bls bs)), .dat (.lst (bits.map D.int))] (S0 ++ [.ins "Execution" []]) = .ok (.dat .non) (dJ S0 (wG bs bits)) := by
  rw [yU];unfold iN;have hsz : (bls bs).length <= sizeLine := sz (by rw [D7]; omega)
  have s1 : ∀ {ρ : Ev} {d : Vl} {ext : List Cell} {f : Str}, gC "Execution" f ρ d (.cel S0.length) (S0 ++ (.ins "Execution" [] :: ext)) = .next ρ (S0 ++ (.ins "Execution" [(f, d)] :: ext)) := setX (by simp)
  simp! [s1, setX, aN, cM, gG, cA, List.append_assoc, rZ, oC, K0 hsz, D7]
  show _ = Res.ok _ (S0 ++ _)
  simp only [bO, wG, FF, List.length_replicate, List.map_replicate, bR];rfl
 unfold Aj;rw [e];rfl
def startM (bs : List (List Stt)) (bits : List Int) (p : Nat) (b : List Stt) : Mc := (wG bs bits).enter p [] b none
theorem C8 {S : aJ} {a0 a1 a2 a5 : Option Vl} : ∀ (bs : List Int) (i : Nat), (∀ b ∈ bs, b = 0 \/ b = 1) -> loop (.tp [3, 4]) fW (dH i (bs.map D.int)) [a0, a1, a2, none, none, a5] S = .next [a0, a1, a2, none, none, a5] S
 | [], i, _ => rfl
 | b :: r, i, h => by
  have hb : (decide (0 <= b) && decide (b <= 1)) = true := by rcases h b (aY ..) with rfl | rfl <;> rfl
  rw [aQ, dH, loop];simp only [rV, jR, aN, cM, if_true, bZ, dY];rw [fW];simp! [Bl, hb];rw [<- fW];exact C8 r (i + 1) fun b hb => h b (aM _ hb)
def Kv (r : SR) (S : aJ) : Res Vl := match r with
 | .ok m => if m.taken < m.bits.length then .err (rO (m.taken : Int)) S else .ok (.dat (.tup [.int m.ended, .lst (m.deeds.map Deed.d)])) S
 | .err i _ => .err (rO i) S
 | .no => .stuck
theorem D1 {S0 : aJ} {m : Mc} : (dJ S0 m).take S0.length = S0 := by simp [dJ]
theorem N8 {S0 : aJ} {bs : List (List Stt)} {bits : List Int} {p k : Nat} {b : List Stt} (ls : LS S0) (G : Good2 bs) (hb : bs[p]? = some b) (hbits : ∀ b ∈ bits, b = 0 \/ b = 1) (hk : k <= 100000) (hr : runM k (startM bs bits p b) ≠ .no) :
  dQ [.dat (kS bs), .dat (.int (p : Int)), .dat (.lst (bits.map D.int))] S0 = Kv (runM k (startM bs bits p b)) S0 := by
 have hp := (aH.mp hb).1;have hl3 := G.l3;have hl : bs.length <= 10 := by omega
 have lsb : (S0.all fun c => c.below S0.length) = true := bD.mpr fun c hc => ls c hc _
 have e1 := EF (S0 := S0) (m := wG bs bits) (p := p) (a := []) (b := b) (st := none) ⟨by simp [wG], by simp [wG], fun a h => by simp [wG] at h; obtain ⟨_, rfl⟩ := h; simp⟩ (by simp [wG, hp]) hb (fun a k h => by simp [wG, hp] at h)
 have hB : ∀ b ∈ bs, L1 (bs.length : Int) b := fun b hb => (G.ok b hb).b
 have hi := wJ (S0 := S0) (m := wG bs bits) (f := "enter") (by decide)
 have hib : ∀ S, fR S "Book" "bodies" (.dat (kS bs)) = true := fun _ => rfl
 have lp := DV (S0 := S0) (many := (bs.length : Int)) (a := some (.dat (kS bs))) (b := some (.dat (.int (p : Int)))) (c := some (.dat (.lst (bits.map D.int)))) (d := none) (e := none) k 1000000 (startM bs bits p b) (by omega) hB (fun t ht => by
  simp only [startM, Mc.enter, wG, bN, B9, or_false] at ht;rcases ht with rfl | rfl
  ·exact hB b (aZ hb)
  ·trivial) ⟨vL _, hbits⟩ (by simp [startM, Mc.enter, wG]; omega) (fun a ha => by
  have ha' : a ∈ (bL bs.length ([] : List Nat)).set p [0] := ha;rcases jA ha' with h | h
  ·rw [(List.mem_replicate.mp h).2]; simp; omega
  ·rw [h]; simp; omega)
 rw [B6];unfold kE;simp! [Jk hl, decide_eq_true (show (0 : Int) <= (p : Int) by omega), decide_eq_true (show (p : Int) < (bs.length : Int) by omega), C8 bits 0 hbits, eW (hib S0), I9 G.ok (show 3 <= 9 by omega) hl, MK hl, eW hi, show D.non = Fw none from rfl, e1, yC]
 rw [show dJ S0 ((wG bs bits).enter p [] b none) = dJ S0 (startM bs bits p b) from rfl]
 revert lp hr
 cases q : runM k (startM bs bits p b) with
 | no => intro hr; exact absurd rfl hr
 | err i m' =>
  intro _ lp;obtain ⟨ρ', e2⟩ := lp;simp! [e2];dsimp only [bO, trunc, Kv];rw [D1, if_pos lsb]
 | ok m' =>
  intro _ e2;have e2' : _ = _ := e2;have hbits' : m'.bits = bits := (DW q).1;simp! [e2', lU, bA]
  by_cases ht : m'.taken < m'.bits.length
  ·simp! [decide_eq_true (show ((m'.taken : Nat) : Int) < (bits.length : Int) by rw [<- hbits']; omega), lU]
   dsimp only [bO, trunc, Kv];rw [D1, if_pos lsb, if_pos ht];rfl
  ·simp! [decide_eq_false (show ¬ ((m'.taken : Nat) : Int) < (bits.length : Int) by rw [<- hbits']; omega), KL, nW, K5 (As (S0 := S0) (m := m'))]
   dsimp only [bO, trunc, Kv];rw [take_set (by omega), D1, if_neg ht, show (Vl.below S0.length (Vl.dat (D.tup [D.int m'.ended, D.lst (m'.deeds.map Deed.d)])) && S0.all fun c => c.below S0.length) = true by rw [lsb]; rfl, if_pos rfl]
def Bn (n : Nat) (i : Int) : Prop := i.natAbs < 2 ^ n
structure Pen where
 x : Int
 y : Int
 u : Int
 v : Int
 p : Int
 q : Int
def Pen.ns (z : Pen) : List Int := [z.x, z.y, z.u, z.v, z.p, z.q]
abbrev Pen.ds (z : Pen) : List D := [.int z.x, .int z.y, .int z.u, .int z.v, .int z.p, .int z.q]
abbrev Pen.d (z : Pen) : D := .tup z.ds
def BU : Nat -> Int × Int -> Int × Int
 | 0, w => w
 | n + 1, w => BU n (-w.2, w.1)
def Cmd.run : Cmd -> Pen -> Pen
 | .go k, z => { z with x := z.x + k * z.u, y := z.y + k * z.v }
 | .turn k, z => { z with u := (BU k.toNat (z.u, z.v)).1, v := (BU k.toNat (z.u, z.v)).2 }
 | .mirror, z => { z with v := -z.v }
 | .scale k, z => { z with u := k * z.u, v := k * z.v }
 | .aim a b, z => { z with u := a, v := b }
 | .place a b, z => { z with x := a, y := b }
 | .mark, z => { z with p := z.x, q := z.y }
 | .ret, z => { z with x := z.p, y := z.q }
 | .exch, z => ⟨z.p, z.q, z.u, z.v, z.x, z.y⟩
theorem mul9 {k j : Int} (h : -9 <= k /\ k <= 9) : IntMulOk k j := mulL (by omega) (by omega)
def dot (f : Nat -> Int) : Nat -> Int
 | 0 => 0
 | n + 1 => dot f n + f n
theorem mulB {a b : Nat} {i j : Int} (ha : Bn a i) (hb : Bn b j) (h0 : 0 < a) (h1 : 0 < b) (h : a + b <= 1000000) : IntMulOk i j := (wide_mul ha hb h0 h1 h).ok
theorem Bn.mul {a b : Nat} {i j : Int} (ha : Bn a i) (hb : Bn b j) : Bn (a + b) (i * j) := wide_lt ha hb
theorem Bn.zero {a : Nat} : Bn a 0 := by
 show 0 < 2 ^ a
 exact Nat.two_pow_pos a
theorem Bn.dot {a : Nat} {f : Nat -> Int} : ∀ {n : Nat}, (∀ j, j < n -> Bn a (f j)) -> (dot f n).natAbs <= n * 2 ^ a
 | 0, _ => by simp [PH.dot]
 | n + 1, h => by
  have h1 := Bn.dot (n := n) fun j hj => h j (by omega)
  have h2 : (f n).natAbs < 2 ^ a := h n (by omega)
  have e : PH.dot f (n + 1) = PH.dot f n + f n := rfl;rw [e, Nat.succ_mul];omega
theorem Bn.dot7 {a : Nat} {f : Nat -> Int} (h : ∀ j, j < 7 -> Bn a (f j)) : Bn (a + 3) (PH.dot f 7) := by
 have := Bn.dot h;have p : 0 < 2 ^ a := Nat.two_pow_pos a
 show (PH.dot f 7).natAbs < 2 ^ (a + 3)
 rw [Nat.pow_add];omega
def gt (M : List Int) (i : Nat) : Int := M.getD i 0
theorem Bp {M : List Int} {a n : Nat} (h : ∀ x ∈ M, Bn a x) : Bn a (gt M n) := by
 by_cases hn : n < M.length
 ·have e : gt M n = M[n] := by
   unfold gt;rw [aU, cU hn];rfl
  rw [e];exact h _ (rX hn)
 ·have e : gt M n = 0 := by
   unfold gt;rw [aU, List.getElem?_eq_none (by omega)]
   rfl
  rw [e];exact Bn.zero
theorem Da {M : List Int} {n : Nat} (h : M.length = n) : (aO n).map (gt M) = M := by
 apply List.ext_getElem
 ·simp [h]
 ·intro i h1 h2
  rw [List.getElem_map, List.getElem_range];unfold gt;rw [aU, cU h2];rfl
def imgAt (M : List Int) (z : Pen) (i : Nat) : Int := dot (fun j => gt M (7 * i + j) * gt ((1 : Int) :: z.ns) j) 7
theorem Ke : ∀ n : Nat, dot (fun _ => 0) n = 0
 | 0 => rfl
 | n + 1 => by
  show dot (fun _ => 0) n + 0 = 0
  rw [Ke n]; rfl
def delta (i j : Nat) : Int := if i = j then 1 else 0
@[irreducible] def mx (f : Nat -> Nat -> Int) : List Int := (aO 49).map fun t => f (t / 7) (t % 7)
theorem Ab (f : Nat -> Nat -> Int) : (mx f).length = 49 := by
 unfold mx;simp
theorem Jl {f : Nat -> Int} {n t : Nat} (h : t < n) : gt ((aO n).map f) t = f t := by
 unfold gt;rw [aU, bG, xP h];rfl
theorem O3 {f : Nat -> Nat -> Int} {i j : Nat} (hi : i < 7) (hj : j < 7) : gt (mx f) (7 * i + j) = f i j := by
 unfold mx;rw [Jl (by omega), show (7 * i + j) / 7 = i by omega, show (7 * i + j) % 7 = j by omega]
theorem Og {f g : Nat -> Nat -> Int} (h : ∀ i j, i < 7 -> j < 7 -> f i j = g i j) : mx f = mx g := by
 unfold mx
 apply eO
 intro t ht;have := eD.mp ht;exact h _ _ (by omega) (by omega)
theorem Nj {M : List Int} (h : M.length = 49) : mx (fun i j => gt M (7 * i + j)) = M := by
 rw [<- Da h];unfold mx
 apply eO
 intro t ht;have ht := eD.mp ht;rw [Da h]
 show gt M (7 * (t / 7) + t % 7) = gt M t
 rw [show 7 * (t / 7) + t % 7 = t by omega]
theorem mx_eq {M N : List Int} (hM : M.length = 49) (hN : N.length = 49) (h : ∀ i j, i < 7 -> j < 7 -> gt M (7 * i + j) = gt N (7 * i + j)) : M = N := by
 rw [<- Nj hM, <- Nj hN];exact Og h
theorem JK {f : Nat -> Nat -> Int} {a : Nat} (h : ∀ i j, i < 7 -> j < 7 -> Bn a (f i j)) : ∀ x ∈ mx f, Bn a x := fun x hx => by
 unfold mx at hx;obtain ⟨t, ht, rfl⟩ := kX.mp hx;have := eD.mp ht;exact h _ _ (by omega) (by omega)
def rows (f : Nat -> Nat -> Int) (n : Nat) : List Int := (aO n).flatMap fun i => (aO 7).map (f i)
theorem xX (f : Nat -> Nat -> Int) (n : Nat) : rows f (n + 1) = rows f n ++ (aO 7).map (f n) := by
 unfold rows;rw [show aO (n + 1) = aO n ++ [n] from List.range_succ, List.flatMap_append]
 simp only [List.flatMap_cons, List.flatMap_nil, bJ]
theorem DY (f : Nat -> Nat -> Int) : ∀ n, (rows f n).length = 7 * n
 | 0 => rfl
 | n + 1 => by rw [xX, cA, DY f n]; simp; omega
theorem DX (f : Nat -> Nat -> Int) : ∀ n, rows f n = (aO (7 * n)).map fun t => f (t / 7) (t % 7)
 | 0 => rfl
 | n + 1 => by
  rw [xX, DX f n, show 7 * (n + 1) = 7 * n + 7 by omega, List.range_add, fT, hI]
  congr 1
  apply eO
  intro j hj;have := eD.mp hj
  show f n j = f ((7 * n + j) / 7) ((7 * n + j) % 7)
  rw [show (7 * n + j) / 7 = n by omega, show (7 * n + j) % 7 = j by omega]
theorem G0 (f : Nat -> Nat -> Int) : rows f 7 = mx f := by
 unfold mx;exact DX f 7
def xC (A B : List Int) : List Int := mx fun i j => dot (fun k => gt B (7 * i + k) * gt A (7 * k + j)) 7
theorem C6 (A B : List Int) : (xC A B).length = 49 := Ab _
theorem EK {A B : List Int} {a b : Nat} (ha : ∀ x ∈ A, Bn a x) (hb : ∀ x ∈ B, Bn b x) : ∀ x ∈ xC A B, Bn (a + b + 3) x := JK fun i j _ _ => Bn.dot7 fun k _ => by
 rw [Nat.add_comm a b];exact Bn.mul (Bp hb) (Bp ha)
@[irreducible] def unitM : List Int := mx delta
theorem vO : unitM.length = 49 := by
 unfold unitM;exact Ab _
theorem Gp : ((aO 49).map fun t : Nat => (if decide ((0 + (t : Int)) % 8 = 0) = true then (1 : Int) else 0)) = unitM := by
 unfold unitM mx
 decide
def zeroP : Pen := ⟨0, 0, 0, 0, 0, 0⟩
def oI (j : Nat) : Pen := ⟨delta 0 j, delta 1 j, delta 2 j, delta 3 j, delta 4 j, delta 5 j⟩
def vc (z : Pen) (i : Nat) : Int := gt ((1 : Int) :: z.ns) i
def kW (r : Pen -> Pen) (i j : Nat) : Int := if j = 0 then vc (r zeroP) i else vc (r (oI (j - 1))) i - vc (r zeroP) i
@[irreducible] def probeM (r : Pen -> Pen) : List Int := mx (kW r)
theorem Ex (r : Pen -> Pen) : (probeM r).length = 49 := by
 unfold probeM;exact Ab _
def OH (r : Pen -> Pen) (M : List Int) : Prop := M.length = 49 /\ ∀ z i, i < 7 -> vc (r z) i = imgAt M z i
theorem IJ {j : Nat} (h : j < 7) : j = 0 \/ j = 1 \/ j = 2 \/ j = 3 \/ j = 4 \/ j = 5 \/ j = 6 := by omega
def Cmd.mat (m : Cmd) : List Int := probeM m.run
theorem Cmd.mat_bd {m : Cmd} (ok : m.Ok) : ∀ x ∈ m.mat, Bn 5 x := by
 unfold Cmd.mat probeM;refine JK fun i j hi hj => ?_
 cases m with
 | turn k =>
  have hk : k = 1 \/ k = 2 \/ k = 3 := by have := ok.1; have := ok.2; omega
  rcases hk with e | e | e <;> subst e <;> rcases IJ hi with h | h | h | h | h | h | h <;> subst h <;> rcases IJ hj with h | h | h | h | h | h | h <;> subst h <;> simp [Bn, kW, vc, gt, Cmd.run, zeroP, oI, delta, Pen.ns, BU]
 | go k =>
  have := ok.1; have := ok.2;rcases IJ hi with h | h | h | h | h | h | h <;> subst h <;> rcases IJ hj with h | h | h | h | h | h | h <;> subst h <;> simp [Bn, kW, vc, gt, Cmd.run, zeroP, oI, delta, Pen.ns] <;> omega
 | scale k =>
  have := ok.1; have := ok.2;rcases IJ hi with h | h | h | h | h | h | h <;> subst h <;> rcases IJ hj with h | h | h | h | h | h | h <;> subst h <;> simp [Bn, kW, vc, gt, Cmd.run, zeroP, oI, delta, Pen.ns] <;> omega
 | aim a b =>
  have := ok.1.1; have := ok.1.2; have := ok.2.1; have := ok.2.2;rcases IJ hi with h | h | h | h | h | h | h <;> subst h <;> rcases IJ hj with h | h | h | h | h | h | h <;> subst h <;> simp [Bn, kW, vc, gt, Cmd.run, zeroP, oI, delta, Pen.ns] <;> omega
 | place a b =>
  have := ok.1.1; have := ok.1.2; have := ok.2.1; have := ok.2.2;rcases IJ hi with h | h | h | h | h | h | h <;> subst h <;> rcases IJ hj with h | h | h | h | h | h | h <;> subst h <;> simp [Bn, kW, vc, gt, Cmd.run, zeroP, oI, delta, Pen.ns] <;> omega
 | _ => rcases IJ hi with h | h | h | h | h | h | h <;> subst h <;> rcases IJ hj with h | h | h | h | h | h | h <;> subst h <;> simp [Bn, kW, vc, gt, Cmd.run, zeroP, oI, delta, Pen.ns]
theorem mW {i j k l m n : Nat} {a b c d e f : D} {ρ : Ev} {S : aJ} : Jd (.tp [i, j, k, l, m, n]) ρ (.dat (.tup [a, b, c, d, e, f])) S = .next ((((((ρ.set i (some (.dat a))).set j (some (.dat b))).set k (some (.dat c))).set l (some (.dat d))).set m (some (.dat e))).set n (some (.dat f))) S := rfl
theorem Ds {z : Pen} {S : aJ} : lQ [.dat z.d] S = .ok (.dat (.bl true)) S := by
 rw [L6];unfold qC;simp! [Cf, mI, rV, cO, sz, aN, cM, bZ, dY];rfl
theorem BS {S : aJ} {a0 a1 a2 a3 a6 a7 a8 : Option Vl} : ∀ (n : Nat) (lo : Int) (w : Int × Int), loop (.nm 9) jO (iB lo n) [a0, a1, a2, a3, some (.dat (.int w.1)), some (.dat (.int w.2)), a6, a7, a8, none] S = .next [a0, a1, a2, a3, some (.dat (.int (BU n w).1)), some (.dat (.int (BU n w).2)), a6, a7, a8, none] S
 | 0, lo, w => rfl
 | n + 1, lo, w => by
  have := BS (S := S) (a0 := a0) (a1 := a1) (a2 := a2) (a3 := a3) (a6 := a6) (a7 := a7) (a8 := a8) n (lo + 1) (-w.2, w.1);rw [vX, loop];simp only [rV, jR];rw [jO];simp! [if_true];rw [<- jO];exact this
theorem oU {c : Cmd} {z : Pen} {S : aJ} (h : c.Ok) : jB [.dat z.d, .dat c.d] S = .ok (.dat (c.run z).d) S := by
 rw [Fj];unfold rF;cases c with
 | go k =>
  simp! [mW, Pen.d, Pen.ds, Cmd.d, dN, kM, nS (mul9 h)];rfl
 | turn k =>
  obtain ⟨h1, h2⟩ := h;simp! [mW, Pen.d, Pen.ds, Cmd.d, dN, kM, oR (show -(2 ^ 62) <= k by omega) (show k < 2 ^ 62 by omega), BS (k.toNat) 0 (z.u, z.v)]
  rfl
 | mirror => simp! [mW, Pen.d, Pen.ds, Cmd.d, dN]; rfl
 | scale k =>
  simp! [mW, Pen.d, Pen.ds, Cmd.d, dN, kM, nS (mul9 (show -9 <= k /\ k <= 9 by have := h.1; have := h.2; omega))]
  rfl
 | aim a b => simp! [mW, Pen.d, Pen.ds, Cmd.d, dN, kM, uV]; rfl
 | place a b => simp! [mW, Pen.d, Pen.ds, Cmd.d, dN, kM, uV]; rfl
 | mark => simp! [mW, Pen.d, Pen.ds, Cmd.d, dN]; rfl
 | ret => simp! [mW, Pen.d, Pen.ds, Cmd.d, dN]; rfl
 | exch => simp! [mW, Pen.d, Pen.ds, Cmd.d, dN]; rfl
def kL (S0 : aJ) (xs ys : List D) : aJ := S0 ++ [.lst xs, .lst ys]
section
variable {S0 : aJ} {xs ys : List D}
theorem IW : (kL S0 xs ys)[S0.length]? = some (.lst xs) := by simp [kL]
theorem IV : (kL S0 xs ys)[S0.length + 1]? = some (.lst ys) := by simp [kL]
theorem OL {c : List D} : (kL S0 xs ys).set S0.length (.lst c) = kL S0 c ys := by simp [kL]
theorem IR {c : List D} : (kL S0 xs ys).set (S0.length + 1) (.lst c) = kL S0 xs c := by
 rw [kL, fF _ _ (by omega), show S0.length + 1 - S0.length = 1 by omega]; rfl
theorem IQ {c : Cell} : ((kL S0 xs ys).set S0.length c).take S0.length = S0 := by simp [kL]
theorem IU {ρ : Ev} {b : FE} {d : D} (F : xs.length < 5000000) (hb : b ρ (kL S0 xs ys) = .ok (.dat d) (kL S0 xs ys)) : zY b ρ (.cel S0.length) (kL S0 xs ys) = .ok (.dat .non) (kL S0 (xs ++ [d]) ys) := by
 rw [rA IW, hb, eN, sX IW (NU (by omega)), OL]
theorem IT {ρ : Ev} {b : FE} {d : D} (F : ys.length < 5000000) (hb : b ρ (kL S0 xs ys) = .ok (.dat d) (kL S0 xs ys)) : zY b ρ (.cel (S0.length + 1)) (kL S0 xs ys) = .ok (.dat .non) (kL S0 xs (ys ++ [d])) := by
 rw [rA IV, hb, eN, sX IV (NU (by omega)), IR]
theorem IS {d : D} : tD (.cel (S0.length + 1)) (kL S0 xs (ys ++ [d])) = .ok (.dat d) (kL S0 xs ys) := by
 simp only [tD, IV];rw [show (ys ++ [d])[(ys ++ [d]).length - 1]? = some d by simp]
 dsimp only;rw [nD, IR]
theorem LL : S0 ++ [.lst xs] ++ [.lst ys] = kL S0 xs ys := by simp [kL]
end
theorem QA {a b c d e f : D} : cutD [a, b, c, d, e, f] none (some 4) = [a, b, c, d] := by
 unfold cutD;rw [HT.sIx_none, show ((4 : Int)) = ((4 : Nat) : Int) from rfl, HT.sIx_nat]
 simp
theorem cut_4 {a b c d e f : D} : cutD [a, b, c, d, e, f] (some 4) none = [e, f] := by
 unfold cutD;rw [HT.sIx_none, show ((4 : Int)) = ((4 : Nat) : Int) from rfl, HT.sIx_nat]
 simp
structure Ps where
 pens : List Pen
 z : Pen
 stk : List Pen
def Nv (t z : Pen) : Pen := ⟨t.x, t.y, t.u, t.v, z.p, z.q⟩
def Kf : Deed -> Ps -> Option Ps
 | .cmd c, s => some ⟨s.pens ++ [c.run s.z], c.run s.z, s.stk⟩
 | .op, s => some ⟨s.pens, s.z, s.z :: s.stk⟩
 | .cl, s => match s.stk with
  | [] => none
  | t :: k => some ⟨s.pens, Nv t s.z, k⟩
def yO : List Deed -> Ps -> Option Ps
 | [], s => some s
 | d :: r, s => match Kf d s with
  | none => none
  | some s' => yO r s'
def Deed.Ok : Deed -> Prop
 | .cmd c => c.Ok
 | _ => True
theorem GX {c : Cmd} {S : aJ} : bQ (.dat c.d) (.dat (.int 0)) S = .ok (.dat (.str c.word)) S := by
 cases c <;> exact dN
theorem A3 {c : Cmd} {w : Str} (h : w = "open" \/ w = "close" \/ w = "hold" \/ w = "shut") : decide (c.word = w) = false := by
 rcases h with rfl | rfl | rfl | rfl <;> cases c <;> rfl
def t4 (z : Pen) : D := .tup [.int z.x, .int z.y, .int z.u, .int z.v]
theorem A7 {S0 : aJ} {a0 : Option Vl} : ∀ (ds : List Deed) (s s' : Ps), (∀ d ∈ ds, d.Ok) -> yO ds s = some s' -> s.pens.length + s.stk.length + ds.length <= 1000000 ->
  loop (.nm 4) dZ (ds.map Deed.d) [a0, some (.dat s.z.d), some (.cel S0.length), some (.cel (S0.length + 1)), none] (kL S0 (s.pens.map Pen.d) (xQ t4 s.stk)) = .next [a0, some (.dat s'.z.d), some (.cel S0.length), some (.cel (S0.length + 1)), none] (kL S0 (s'.pens.map Pen.d) (xQ t4 s'.stk))
 | [], s, s', _, h, _ => by cases h; rfl
 | d :: r, s, s', ok, h, hl => by
  rw [aN] at hl;have okd := ok d (aY ..);rw [aQ, loop];simp only [rV, jR];rw [dZ];cases d with
  | cmd c =>
   have ih := A7 (S0 := S0) (a0 := a0) r ⟨s.pens ++ [c.run s.z], c.run s.z, s.stk⟩ s' (fun d hd => ok d (aM _ hd)) h (by simp; omega)
   simp! [Deed.d, GX, A3 (c := c) (w := "open") (.inl rfl), A3 (c := c) (w := "close") (.inr (.inl rfl)), oU (show c.Ok from okd), IU (d := (c.run s.z).d) (S0 := S0) (xs := s.pens.map Pen.d) (ys := xQ t4 s.stk) (by rw [bA]; omega)]
   rw [<- dZ, <- ih];simp only [fT, aQ, bR]
  | op =>
   have ih := A7 (S0 := S0) (a0 := a0) r ⟨s.pens, s.z, s.z :: s.stk⟩ s' (fun d hd => ok d (aM _ hd)) h (by simp; omega)
   have hb : ∀ {x : Option Vl}, Ca false (aB 1) zX (gH (mC (.int 4))) [a0, some (.dat s.z.d), some (.cel S0.length), some (.cel (S0.length + 1)), x] (kL S0 (s.pens.map Pen.d) (xQ t4 s.stk)) = .ok (.dat (t4 s.z)) (kL S0 (s.pens.map Pen.d) (xQ t4 s.stk)) := by
    intro x;simp! [Pen.d, Pen.ds, QA];rfl
   simp! [Deed.d, dN, IT (by rw [oK]; omega) hb]
   rw [<- dZ, <- ih];simp only [rvD_cons, t4]
  | cl =>
   cases hk : s.stk with
   | nil => simp [yO, Kf, hk] at h
   | cons t k =>
    simp only [yO, Kf, hk] at h;have ih := A7 (S0 := S0) (a0 := a0) r ⟨s.pens, Nv t s.z, k⟩ s' (fun d hd => ok d (aM _ hd)) h (by simp; rw [hk] at hl; simp at hl; omega)
    rw [rvD_cons];simp! [Deed.d, dN, IS, cut_4, t4, KH, aN, cM, sz, rZ, oC];rw [<- dZ, <- ih];rfl
theorem pb_ok {S : aJ} {ds : List Deed} {z : Pen} {s' : Ps} (ls : LS S) (ok : ∀ d ∈ ds, d.Ok) (h : yO ds ⟨[], z, []⟩ = some s') (hl : ds.length <= 900000) :
  iT [.dat (.lst (ds.map Deed.d)), .dat z.d] S = .ok (.dat (.tup [.lst (s'.pens.map Pen.d), s'.z.d])) S := by
 have lp := A7 (S0 := S) (a0 := some (.dat (.lst (ds.map Deed.d)))) ds ⟨[], z, []⟩ s' ok h (by simp; omega)
 have lsb : (S.all fun c => c.below S.length) = true := bD.mpr fun c hc => ls c hc _
 simp only [bR, xQ, List.reverse_nil] at lp;rw [BM];unfold lF;simp! [cA, aN, cM, pD, LL, lp, K5 (IW (S0 := S))];dsimp only [bO, trunc];rw [IQ, show (Vl.below S.length (Vl.dat (D.tup [D.lst (s'.pens.map Pen.d), s'.z.d])) && S.all fun c => c.below S.length) = true by rw [lsb]; rfl, if_pos rfl]
abbrev mD (M : List Int) : D := .lst (M.map D.int)
theorem Jm {M : List Int} {i : Nat} (h : i < M.length) : (M.map D.int)[i]? = some (.int (gt M i)) := by
 rw [bG, cU h]
 show some (D.int M[i]) = some (D.int (M.getD i 0))
 rw [aU, cU h];rfl
theorem ixM {M : List Int} {t : Int} {n : Nat} {S : aJ} (e : t = (n : Int)) (h : n < M.length) : bQ (.dat (mD M)) (.dat (.int t)) S = .ok (.dat (.int (gt M n))) S := by
 rw [e];exact sW (atI_nat (Jm h))
theorem NI {M : List Int} {lo hi : Option Int} : cutD (M.map D.int) lo hi = ((M.drop (HT.sIx M.length 0 lo)).take (HT.sIx M.length M.length hi - HT.sIx M.length 0 lo)).map D.int := by
 unfold cutD;rw [bA, <- List.map_drop, <- List.map_take]
theorem cut7 {M : List Int} {a b : Int} {k : Nat} (h : 7 * k + 7 <= M.length) (ha : a = ((7 * k : Nat) : Int)) (hb : b = ((7 * k + 7 : Nat) : Int)) : cutD (M.map D.int) (some a) (some b) = ((aO 7).map fun j => gt M (7 * k + j)).map D.int := by
 subst ha hb;rw [NI, HT.sIx_nat, HT.sIx_nat, Nat.min_eq_left (by omega), Nat.min_eq_left (by omega)]
 rw [show (M.drop (7 * k)).take (7 * k + 7 - 7 * k) = (aO 7).map fun j => gt M (7 * k + j) from ?_]
 apply List.ext_getElem
 ·simp; omega
 ·intro i h1 h2
  simp only [bA, List.length_range] at h2;rw [List.getElem_take, List.getElem_drop, List.getElem_map, List.getElem_range];unfold gt;rw [aU, cU (by omega)]
  rfl
theorem Fs {f g : Nat -> D} : ∀ {l : List Nat}, Gk (l.map f) (l.map g) = l.map fun j => .tup [f j, g j]
 | [] => rfl
 | x :: r => by rw [aQ, aQ, Gk, Fs]; rfl
theorem g_zip {a b : FE} {ρ : Ev} {S : aJ} {xs ys : List D} (ha : a ρ S = .ok (.dat (.lst xs)) S) (hb : b ρ S = .ok (.dat (.lst ys)) S) : Ly a b ρ S = .ok (Gk xs ys) S := by
 unfold Ly;rw [ha, eN, hb, eN]
theorem zH {S : aJ} : qS [] S = .ok (.dat (mD unitM)) S := by
 rw [Fi];unfold vF wR;simp! [oR (show -(2 ^ 62) <= (49 : Int) by decide) (show (49 : Int) < 2 ^ 62 by decide)]
 rw [show iB 0 49 = (aO 49).map (fun k : Nat => D.int (0 + (k : Int))) from rfl]
 rw [hO (g := fun k : Nat => D.int (if decide ((0 + (k : Int)) % 8 = 0) = true then 1 else 0)) (sz (by decide)) fun k _ => ⟨_, rfl, ?_⟩]
 ·dsimp only [newL, bO]
  rw [show (aO 49).map (fun k : Nat => D.int (if decide ((0 + (k : Int)) % 8 = 0) = true then 1 else 0)) = ((aO 49).map (fun k : Nat => (if decide ((0 + (k : Int)) % 8 = 0) = true then (1 : Int) else 0))).map D.int by rw [hI]; rfl, Gp]
  rfl
 ·simp! [qZ (show (0 : Int) < 8 by decide)]
def DZ (A B : List Int) (i k : Nat) : List Int := (aO 7).map fun j => dot (fun l => gt B (7 * i + l) * gt A (7 * l + j)) k
theorem Iw {A B : List Int} {i : Nat} : DZ A B i 0 = [0, 0, 0, 0, 0, 0, 0] := rfl
theorem GW {S : aJ} {A B : List Int} {a b i : Nat} {a2 : Option Vl} (hA : A.length = 49) (hB : B.length = 49) (ba : ∀ x ∈ A, Bn a x) (bb : ∀ x ∈ B, Bn b x) (a0 : 0 < a) (b0 : 0 < b) (hab : a + b <= 1000000) (hi : i < 7) : ∀ (n k : Nat), n + k = 7 ->
  loop (.nm 5) jP (iB (k : Int) n) [some (.dat (mD A)), some (.dat (mD B)), a2, some (.dat (.int (i : Int))), some (.dat (mD (DZ A B i k))), none, none, none, none] S = .next [some (.dat (mD A)), some (.dat (mD B)), a2, some (.dat (.int (i : Int))), some (.dat (mD (DZ A B i 7))), none, none, none, none] S
 | 0, k, h => by
  obtain rfl : k = 7 := by omega
  rfl
 | n + 1, k, h => by
  have ih := GW (S := S) (a2 := a2) hA hB ba bb a0 b0 hab hi n (k + 1) (by omega)
  rw [vX, loop];simp only [rV, jR];rw [jP];have e1 : DZ A B i (k + 1) = (aO 7).map fun j => dot (fun l => gt B (7 * i + l) * gt A (7 * l + j)) k + gt B (7 * i + k) * gt A (7 * k + j) := rfl
  have m7 : ∀ {x : Nat}, IntMulOk (7 : Int) (x : Int) := mulL (by decide) (by decide)
  have ix := ixM (M := B) (t := 7 * (i : Int) + (k : Int)) (n := 7 * i + k) (S := S) (by omega) (by omega)
  simp! [nS m7, ix]
  by_cases hc : gt B (7 * i + k) = 0
  ·simp! [hc]
   rw [<- jP, show ((k : Int) + 1) = ((k + 1 : Nat) : Int) by omega, <- ih, e1]
   simp only [hc, Int.zero_mul, Int.add_zero];rfl
  ·have hz : (Ly (aB 4) (Ca false (aB 0) (gH (aS mK (mC (.int 7)) (aB 5))) (gH (aS (eR false) (aS mK (mC (.int 7)) (aB 5)) (mC (.int 7)))))) [some (.dat (mD A)), some (.dat (mD B)), a2, some (.dat (.int (i : Int))), some (.dat (mD (DZ A B i k))), some (.dat (.int (k : Int))), some (.dat (.int (gt B (7 * i + k)))), none, none] S = .ok ((aO 7).map fun j => .tup [.int (dot (fun l => gt B (7 * i + l) * gt A (7 * l + j)) k), .int (gt A (7 * k + j))]) S := by
    rw [g_zip (xs := (DZ A B i k).map D.int) (ys := ((aO 7).map fun j => gt A (7 * k + j)).map D.int) (by simp! [if_true]) (by simp! [nS m7, cut7 (M := A) (a := 7 * (k : Int)) (b := 7 * (k : Int) + 7) (k := k) (by omega) (by omega) (by omega)])]
    rw [DZ, hI, hI, Fs];rfl
   simp! [decide_eq_false hc, hz];rw [hO (g := fun j : Nat => D.int (dot (fun l => gt B (7 * i + l) * gt A (7 * l + j)) k + gt B (7 * i + k) * gt A (7 * k + j))) (sz (by decide)) fun j hj => ⟨_, rfl, ?_⟩]
   ·simp! [if_true]
    rw [<- jP, show ((k : Int) + 1) = ((k + 1 : Nat) : Int) by omega, <- ih, e1]
    simp only [mD, hI];rfl
   ·simp! [jR, nS (mulB (Bp bb) (Bp ba) b0 a0 (by omega))]
theorem lst7 {cl : Bool} {S : aJ} {a b c d e f g : D} : Hc cl [.dat a, .dat b, .dat c, .dat d, .dat e, .dat f, .dat g] S = newL cl [a, b, c, d, e, f, g] S := rfl
theorem EJ {S : aJ} {A B : List Int} {a b : Nat} (hA : A.length = 49) (hB : B.length = 49) (ba : ∀ x ∈ A, Bn a x) (bb : ∀ x ∈ B, Bn b x) (a0 : 0 < a) (b0 : 0 < b) (hab : a + b <= 1000000) : ∀ (n i : Nat), n + i = 7 ->
  loop (.nm 3) mQ (iB (i : Int) n) [some (.dat (mD A)), some (.dat (mD B)), some (.dat (mD (rows (fun i j => dot (fun k => gt B (7 * i + k) * gt A (7 * k + j)) 7) i))), none, none, none, none, none, none] S = .next [some (.dat (mD A)), some (.dat (mD B)), some (.dat (mD (xC A B))), none, none, none, none, none, none] S
 | 0, i, h => by
  obtain rfl : i = 7 := by omega
  rw [G0];rfl
 | n + 1, i, h => by
  have ih := EJ (S := S) hA hB ba bb a0 b0 hab n (i + 1) (by omega)
  have inn := GW (S := S) (i := i) (a2 := some (.dat (mD (rows (fun i j => dot (fun k => gt B (7 * i + k) * gt A (7 * k + j)) 7) i)))) hA hB ba bb a0 b0 hab (by omega) 7 0 rfl
  rw [Iw, jZ] at inn;simp only [mD, aQ, bR] at inn;rw [vX, loop];simp only [rV, jR];rw [mQ];simp! [lst7, oR (show -(2 ^ 62) <= (7 : Int) by decide) (show (7 : Int) < 2 ^ 62 by decide), inn, sY, bA, DY, DZ, List.length_range, sz (show 7 * i + 7 <= 1000 by omega)]
  rw [<- mQ, show ((i : Int) + 1) = ((i + 1 : Nat) : Int) by omega, <- ih, xX]
  simp only [mD, fT]
theorem zO {S : aJ} {A B : List Int} {a b : Nat} (hA : A.length = 49) (hB : B.length = 49) (ba : ∀ x ∈ A, Bn a x) (bb : ∀ x ∈ B, Bn b x) (a0 : 0 < a) (b0 : 0 < b) (hab : a + b <= 1000000) :
  qT [.dat (mD A), .dat (mD B)] S = .ok (.dat (mD (xC A B))) S := by
 have lp := EJ (S := S) hA hB ba bb a0 b0 hab 7 0 rfl;rw [show rows (fun i j => dot (fun k => gt B (7 * i + k) * gt A (7 * k + j)) 7) 0 = [] from rfl, jZ] at lp
 rw [Fl];unfold vG;simp! [oR (show -(2 ^ 62) <= (7 : Int) by decide) (show (7 : Int) < 2 ^ 62 by decide), show D.lst [] = mD [] from rfl, lp]
 rfl
def zF (M : List Int) : List Int := mx fun i j => if i = 0 \/ 4 < i then gt M (7 * i + j) else gt M 0 * delta i j
theorem Bj (M : List Int) : (zF M).length = 49 := Ab _
def GG (M : List Int) : List Int := M.take 7 ++ ((unitM.drop 7).take 28).map (gt M 0 * ·) ++ M.drop 35
theorem Bq {A B : List Int} {t : Nat} : gt (A ++ B) t = if t < A.length then gt A t else gt B (t - A.length) := by
 unfold gt;rw [aU, aU, aU, List.getElem?_append]
 by_cases h : t < A.length
 ·rw [if_pos h, if_pos h]
 ·rw [if_neg h, if_neg h]
theorem GN {A : List Int} {n t : Nat} (h : t < n) : gt (A.take n) t = gt A t := by
 unfold gt;rw [aU, aU, dX, if_pos h]
theorem GO {A : List Int} {n t : Nat} : gt (A.drop n) t = gt A (n + t) := by
 unfold gt;rw [aU, aU, List.getElem?_drop]
theorem PM {A : List Int} {c : Int} {t : Nat} : gt (A.map (c * ·)) t = c * gt A t := by
 unfold gt;rw [aU, aU, bG];cases A[t]? with
 | none => simp
 | some x => rfl
theorem JS {M : List Int} (h : M.length = 49) : GG M = zF M := by
 have l1 : (M.take 7).length = 7 := by rw [iW, h]; rfl
 have l2 : (((unitM.drop 7).take 28).map (gt M 0 * ·)).length = 28 := by rw [bA, iW, sA, vO]; rfl
 refine mx_eq ?_ (Bj M) fun i j hi hj => ?_
 ·unfold GG
  rw [cA, cA, l1, l2, sA, h]
 ·unfold GG zF
  rw [O3 hi hj, Bq, cA, l1, l2, Bq, l1]
  by_cases h0 : i = 0
  ·rw [if_pos (by omega), if_pos (by omega), if_pos (.inl h0), GN (by omega)]
  ·by_cases h4 : 4 < i
   ·rw [if_neg (by omega), if_pos (.inr h4), GO, show 35 + (7 * i + j - (7 + 28)) = 7 * i + j by omega]
   ·rw [if_pos (by omega), if_neg (by omega), if_neg (by omega), PM, GN (by omega), GO, show 7 + (7 * i + j - 7) = 7 * i + j by omega]
    unfold unitM;rw [O3 hi hj]
theorem AF {x : Int} (h : x ∈ unitM) : x = 0 \/ x = 1 := by
 unfold unitM mx at h;obtain ⟨t, _, rfl⟩ := kX.mp h;unfold delta
 by_cases e : t / 7 = t % 7
 ·right; rw [if_pos e]
 ·left; rw [if_neg e]
theorem M9 {S : aJ} {M : List Int} (h : M.length = 49) : pL [.dat (mD M)] S = .ok (.dat (mD (zF M))) S := by
 rw [BN];unfold pO;have i0 := ixM (M := M) (t := 0) (n := 0) (S := S) rfl (by omega)
 have c1 : cutD (unitM.map D.int) (some 7) (some 35) = ((unitM.drop 7).take 28).map D.int := by
  rw [NI, show ((7 : Int)) = ((7 : Nat) : Int) from rfl, show ((35 : Int)) = ((35 : Nat) : Int) from rfl, HT.sIx_nat, HT.sIx_nat, vO]
  rfl
 have c2 : cutD (M.map D.int) none (some 7) = (M.take 7).map D.int := by
  rw [NI, HT.sIx_none, show ((7 : Int)) = ((7 : Nat) : Int) from rfl, HT.sIx_nat, h]
  rfl
 have c3 : cutD (M.map D.int) (some 35) none = (M.drop 35).map D.int := by
  rw [NI, HT.sIx_none, show ((35 : Int)) = ((35 : Nat) : Int) from rfl, HT.sIx_nat, h]
  rw [show min 35 49 = 35 from rfl, List.take_of_length_le (by simp; omega)]
 simp! [i0, zH, c1];rw [hO (g := fun x : Int => D.int (gt M 0 * x)) (sz (by simp; omega)) fun x hx => ⟨_, rfl, ?_⟩]
 ·rw [show (List.map (fun x : Int => D.int (gt M 0 * x)) ((unitM.drop 7).take 28)) = (((unitM.drop 7).take 28).map (gt M 0 * ·)).map D.int by rw [hI]; rfl]
  have l1 : (M.take 7).length = 7 := by rw [iW, h]; rfl
  have l2 : (((unitM.drop 7).take 28).map (gt M 0 * ·)).length = 28 := by rw [bA, iW, sA, vO]; rfl
  have q1 : ∀ {cl : Bool}, eR cl (.dat (.lst ((M.take 7).map D.int))) (.dat (.lst ((((unitM.drop 7).take 28).map (gt M 0 * ·)).map D.int))) S = newL cl ((M.take 7).map D.int ++ (((unitM.drop 7).take 28).map (gt M 0 * ·)).map D.int) S := sY (by rw [bA, bA, l1, l2]; exact sz (by decide))
  have q2 : ∀ {cl : Bool}, eR cl (.dat (.lst ((M.take 7).map D.int ++ (((unitM.drop 7).take 28).map (gt M 0 * ·)).map D.int))) (.dat (.lst ((M.drop 35).map D.int))) S = newL cl ((M.take 7).map D.int ++ (((unitM.drop 7).take 28).map (gt M 0 * ·)).map D.int ++ (M.drop 35).map D.int) S := sY (by rw [cA, bA, bA, l1, l2, bA, sA, h]; exact sz (by decide))
  simp! [c2, c3, q1, q2];rw [<- fT, <- fT]
  show Res.ok (Vl.dat (mD (GG M))) S = _
  rw [JS h]
 ·have hs : x = 0 \/ x = 1 := AF (List.mem_of_mem_drop (vK hx))
  simp! [nS (show IntMulOk (gt M 0) x from mulR (by omega) (by omega))]
theorem Hx {k j : Nat} : (if decide ((0 + (k : Int)) = (j : Int)) = true then (1 : Int) else 0) = delta k j := by
 unfold delta
 by_cases h : k = j
 ·subst h; simp
 ·rw [decide_eq_false (by omega), if_neg h]; rfl
theorem LJ {cl : Bool} {j : Nat} {S : aJ} {a0 a1 a2 a4 a5 a6 a7 a8 : Option Vl} : Cf cl (.nm 6) gX (m1 zZ (aS hW (aB 6) (aB 3))) [a0, a1, a2, some (.dat (.int (j : Int))), a4, a5, a6, a7, a8] [6] (iB 0 6) S = newL cl (oI j).ds S := by
 rw [show iB 0 6 = (aO 6).map (fun k : Nat => D.int (0 + (k : Int))) from rfl, hO (g := fun k : Nat => D.int (delta k j)) (sz (by decide)) fun k _ => ⟨_, rfl, ?_⟩]
 ·rfl
 ·simp! [if_true]
  rw [Hx]
theorem OV {S : aJ} : zG (.dat (.int 6)) S = .ok (iB 0 6) S := by rw [oR (by decide) (by decide)]; rfl
theorem rng7 {S : aJ} : zG (.dat (.int 7)) S = .ok (iB 0 7) S := by rw [oR (by decide) (by decide)]; rfl
theorem ixP {z : Pen} {t : Int} {n : Nat} {S : aJ} (e : t = (n : Int)) (h : n < 6) : bQ (.dat z.d) (.dat (.int t)) S = .ok (.dat (.int (gt z.ns n))) S := by
 rw [e];exact Bt (atI_nat (Jm (M := z.ns) h))
def qA (r : Pen -> Pen) (j : Nat) : D := .lst ((aO 7).map fun i => D.int (kW r i j))
theorem De {S : aJ} {c : Cmd} (h : c.Ok) : ∀ (n j : Nat), n + j = 6 ->
  loop (.nm 3) kZ (iB (j : Int) n) [some (.dat c.d), some (.dat (c.run zeroP).d), some (.cel S.length), none, none, none, none, none, none] (S ++ [.lst ((aO (j + 1)).map (qA c.run))]) = .next [some (.dat c.d), some (.dat (c.run zeroP).d), some (.cel S.length), none, none, none, none, none, none] (S ++ [.lst ((aO 7).map (qA c.run))])
 | 0, j, e => by
  obtain rfl : j = 6 := by omega
  rfl
 | n + 1, j, e => by
  have ih := De (S := S) h n (j + 1) (by omega)
  rw [vX, loop];simp only [rV, jR];rw [kZ];have hb : ∀ {T : aJ} {a3 a4 a6 : Option Vl}, BH false (jS (mC (.int 6))) (.nm 6) gX pN [6] [some (.dat c.d), some (.dat (c.run zeroP).d), some (.cel S.length), a3, a4, some (.dat (c.run (oI j)).d), a6, none, none] T = .ok (.dat (.lst ((aO 6).map fun i => D.int (gt (c.run (oI j)).ns i - gt (c.run zeroP).ns i)))) T := by
   intro T a3 a4 a6;simp! [OV];rw [show iB 0 6 = (aO 6).map (fun k : Nat => D.int (0 + (k : Int))) from rfl, hO (g := fun i : Nat => D.int (gt (c.run (oI j)).ns i - gt (c.run zeroP).ns i)) (sz (by decide)) fun k hk => ⟨_, rfl, ?_⟩]
   ·rfl
   ·unfold pN
    simp! [ixP (z := c.run (oI j)) (t := 0 + (k : Int)) (n := k) (by omega) (eD.mp hk), ixP (z := c.run zeroP) (t := 0 + (k : Int)) (n := k) (by omega) (eD.mp hk)]
  have hg : (S ++ [.lst ((aO (j + 1)).map (qA c.run))])[S.length]? = some (.lst ((aO (j + 1)).map (qA c.run))) := by simp
  have ha : ∀ {b : FE} {ρ : Ev} {d : D}, b ρ (S ++ [.lst ((aO (j + 1)).map (qA c.run))]) = .ok (.dat d) (S ++ [.lst ((aO (j + 1)).map (qA c.run))]) -> zY b ρ (.cel S.length) (S ++ [.lst ((aO (j + 1)).map (qA c.run))]) = .ok (.dat .non) (S ++ [.lst ((aO (j + 1)).map (qA c.run) ++ [d])]) := by
   intro b ρ d hd;rw [rA hg, hd, eN, sX hg (NU (by simp; omega))]
   simp
  simp! [OV, LJ, show D.tup (oI j).ds = (oI j).d from rfl, oU h]
  rw [ha (d := qA c.run (j + 1)) (by simp! [hb]; rw [sY (by simp; exact sz (by decide))]; rfl)]
  simp! [if_true];rw [<- kZ, show ((j : Int) + 1) = ((j + 1 : Nat) : Int) by omega, <- ih, List.range_succ (n := j + 1), fT]
  rfl
theorem Bg {i i1 : Nat} {mj : FI} {e : FE} {vs1 : List Nat} {ρ : Ev} {S : aJ} {f : Nat -> D} {ys : List Nat} {g : Nat -> Nat -> D} {f1 : Nat -> D} : ∀ (xs : List Nat), (∀ x ∈ xs, mj (ρ.set i (some (.dat (f x)))) S = .ok (ys.map f1) S) -> (∀ x ∈ xs, ∀ y ∈ ys, e ((wipeE (ρ.set i (some (.dat (f x)))) vs1).set i1 (some (.dat (f1 y)))) S = .ok (.dat (g x y)) S) ->
  Dk (.nm i) gX mj (.nm i1) gX e vs1 ρ (xs.map f) S = .ok (xs.flatMap fun x => ys.map (g x)) S
 | [], _, _ => rfl
 | x :: r, h1, h2 => by
  have ih := Bg (i := i) (i1 := i1) (mj := mj) (e := e) (vs1 := vs1) (ρ := ρ) (S := S) (f := f) (ys := ys) (g := g) (f1 := f1) r (fun x hx => h1 x (aM _ hx)) fun x hx => h2 x (aM _ hx)
  rw [aQ, Dk];simp only [rV, gX, if_true];rw [h1 x (aY ..)];dsimp only;have q : mI (.nm i1) gX e (wipeE (ρ.set i (some (.dat (f x)))) vs1) (ys.map f1) S = .ok (ys.map (g x)) S := Ah fun y hy => ⟨_, rfl, h2 x (aY ..) y hy⟩
  rw [q];dsimp only;rw [ih];rfl
theorem ixLn {xs : List D} {t : Int} {n : Nat} {d : D} {S : aJ} (e : t = (n : Int)) (h : xs[n]? = some d) : bQ (.dat (.lst xs)) (.dat (.int t)) S = .ok (.dat d) S := by
 rw [e];exact sW (atI_nat h)
theorem Gu {T : aJ} {n : Nat} {c : Cell} {d : D} (h : (T.all fun c => c.below T.length) = true) (hn : n = T.length) : trunc n (.ok (.dat d) (T ++ [c])) = .ok (.dat d) T := by
 subst hn;unfold trunc;dsimp only;rw [List.take_left, h];rfl
theorem F5 {S : aJ} {c : Cmd} (lb : (S.all fun c => c.below S.length) = true) (h : c.Ok) : lP [.dat c.d] S = .ok (.dat (mD c.mat)) S := by
 have lp := De (S := S) h 6 0 rfl;rw [jZ] at lp;have ex := oU (c := c) (z := zeroP) (S := S) h;rw [EZ];unfold tM;have hg : (S ++ [.lst ((aO 7).map (qA c.run))])[S.length]? = some (.lst ((aO 7).map (qA c.run))) := by simp
 have hst : (jM true (aD (jM false (aD (mC (.int 1)) (Nl (aB 1) aL))) aL)) [some (.dat c.d), some (.dat (c.run zeroP).d), none, none, none, none, none, none, none] S = .ok (.cel S.length) (S ++ [.lst ((aO (0 + 1)).map (qA c.run))]) := rfl;have hz : (cK (aD (mC (.int 0)) (aD (mC (.int 0)) (aD (mC (.int 0)) (aD (mC (.int 0)) (aD (mC (.int 0)) (aD (mC (.int 0)) aL))))))) [some (.dat c.d), none, none, none, none, none, none, none, none] S = .ok (.dat zeroP.d) S := rfl;have l2 : (Ol false (jS (mC (.int 7))) (.nm 7) gX (jS (mC (.int 7))) (.nm 8) gX (aS bQ (aS bQ (aB 2) (aB 8)) (aB 7)) [7, 8] [8]) [some (.dat c.d), some (.dat (c.run zeroP).d), some (.cel S.length), none, none, none, none, none, none] (S ++ [.lst ((aO 7).map (qA c.run))]) = .ok (.dat (mD c.mat)) (S ++ [.lst ((aO 7).map (qA c.run))]) := by
  unfold Ol;simp! [rng7];rw [show iB 0 7 = (aO 7).map (fun k : Nat => D.int (0 + (k : Int))) from rfl]
  rw [Bg (ys := aO 7) (f1 := fun k : Nat => D.int (0 + (k : Int))) (g := fun i j => D.int (kW c.run i j)) (aO 7)]
  ·dsimp only
   rw [show (aO 7).flatMap (fun x => (aO 7).map fun j => D.int (kW c.run x j)) = (rows (kW c.run) 7).map D.int by rw [rows, List.map_flatMap]; simp only [hI]; rfl, G0, if_pos (by rw [bA, Ab]; exact sz (by decide))]
   rw [show mx (kW c.run) = c.mat by unfold Cmd.mat probeM; rfl]
  ·intro x hx
   simp! [rng7];rfl
  ·intro x hx y hy
   have hx := eD.mp hx;have hy := eD.mp hy;have i1 : bQ (.cel S.length) (.dat (.int (0 + (y : Int)))) (S ++ [.lst ((aO 7).map (qA c.run))]) = .ok (.dat (qA c.run y)) (S ++ [.lst ((aO 7).map (qA c.run))]) := K8 hg (by rw [Int.zero_add]; exact atI_nat (by rw [bG, xP hy]; rfl))
   have i2 : bQ (.dat (qA c.run y)) (.dat (.int (0 + (x : Int)))) (S ++ [.lst ((aO 7).map (qA c.run))]) = .ok (.dat (.int (kW c.run x y))) (S ++ [.lst ((aO 7).map (qA c.run))]) := ixLn (n := x) (by omega) (by rw [bG, xP hx]; rfl)
   simp! [wipeE, i1, i2]
 simp only [O6, O9, O8, O7, Jq, FP, FN, Ct, Cs, Js, eN, hz];simp! [Cm h, hz, ex, hst, OV, lp, l2];rw [bO, Gu lb rfl]
theorem HV {S : aJ} {c : Cmd} (ls : LS S) (h : c.Ok) : lP [.dat c.d] S = .ok (.dat (mD c.mat)) S := F5 (bD.mpr fun c hc => ls c hc _) h
inductive Ed where
 | cmd (m : List Int) (q : Nat) | bit (b : Int) (q : Nat) | unit (es : List Nat) (sv : Bool) (ts : List Nat)
structure Us where
 p : Nat
 sv : Bool
 t : Nat
structure Gr where
 ps : List (List Ed × List Us)
 st : List Nat
def exF : Option PH.D -> List (Str × Vl)
 | none => []
 | some x => [("exits", .dat x)]
def gF (n : Nat) (fx : Option PH.D) : List (Str × Vl) := ("edges", .cel (n + 1)) :: ("users", .cel (n + 2)) :: ("starts", .cel (n + 3)) :: exF fx
def hC (n : Nat) (fx : Option PH.D) (G : Gr) : List Cell :=
 [.ins "Graph" (gF n fx), .lv ((aO G.ps.length).map fun i => .cel (n + 4 + 2 * i)), .lv ((aO G.ps.length).map fun i => .cel (n + 5 + 2 * i)), .lst (G.st.map fun p : Nat => .int p)]
structure Ms where
 m : List Int
 stk : List (List Int)
def Av : Deed -> Ms -> Option Ms
 | .cmd c, s => some ⟨xC s.m c.mat, s.stk⟩
 | .op, s => some ⟨unitM, s.m :: s.stk⟩
 | .cl, s => match s.stk with
  | [] => none
  | P :: k => some ⟨xC P (zF s.m), k⟩
def D3 : List Deed -> Ms -> Option Ms
 | [], s => some s
 | d :: r, s => match Av d s with
  | none => none
  | some s' => D3 r s'
def BK : List Deed -> Nat
 | [] => 0
 | .cmd _ :: r => BK r + 1
 | _ :: r => BK r
def MbL : List (List Int) -> Nat -> Prop
 | [], _ => True
 | M :: k, n => ∃ a, 0 < a /\ a <= n /\ M.length = 49 /\ (∀ x ∈ M, Bn a x) /\ MbL k (n - a)
theorem MbL.mono : ∀ {l : List (List Int)} {n m : Nat}, MbL l n -> n <= m -> MbL l m
 | [], _, _, _, _ => trivial
 | M :: k, n, m, ⟨a, h0, h1, h2, h3, h4⟩, h => ⟨a, h0, by omega, h2, h3, h4.mono (by omega)⟩
theorem IP : ∀ x ∈ unitM, Bn 1 x := fun x hx => by
 rcases AF hx with rfl | rfl <;> (unfold Bn; decide)
theorem GF {M : List Int} {a : Nat} (h : ∀ x ∈ M, Bn a x) : ∀ x ∈ zF M, Bn a x := JK fun i j _ _ => by
 by_cases e : i = 0 \/ 4 < i
 ·rw [if_pos e]; exact Bp h
 ·rw [if_neg e]
  unfold delta
  by_cases e2 : i = j
  ·rw [if_pos e2, Int.mul_one]; exact Bp h
  ·rw [if_neg e2, Int.mul_zero]; exact Bn.zero
theorem D4 {d : Deed} {s s' : Ms} {n : Nat} (ok : d.Ok) (h : MbL (s.m :: s.stk) n) (e : Av d s = some s') : MbL (s'.m :: s'.stk) (n + 8) := by
 obtain ⟨a, h0, h1, h2, h3, h4⟩ := h;cases d with
 | cmd c =>
  cases e;exact ⟨a + 5 + 3, by omega, by omega, C6 _ _, EK h3 (Cmd.mat_bd ok), h4.mono (by omega)⟩
 | op =>
  cases e;exact ⟨1, by omega, by omega, vO, IP, a, h0, by omega, h2, h3, h4.mono (by omega)⟩
 | cl =>
  unfold Av at e;dsimp only at e;cases hk : s.stk with
  | nil => rw [hk] at e; cases e
  | cons P k =>
   rw [hk] at e h4;cases e;obtain ⟨b, g0, g1, g2, g3, g4⟩ := h4;exact ⟨b + a + 3, by omega, by omega, C6 _ _, EK g3 (GF h3), g4.mono (by omega)⟩
section
variable {S0 : aJ} {xs : List D}
theorem JF : (S0 ++ [Cell.lst xs])[S0.length]? = some (.lst xs) := by simp
theorem Nf {c : Cell} : (S0 ++ [Cell.lst xs]).set S0.length c = S0 ++ [c] := by simp
theorem Lp {ρ : Ev} {b : FE} {d : D} (F : xs.length < 5000000) (hb : b ρ (S0 ++ [.lst xs]) = .ok (.dat d) (S0 ++ [.lst xs])) : zY b ρ (.cel S0.length) (S0 ++ [.lst xs]) = .ok (.dat .non) (S0 ++ [.lst (xs ++ [d])]) := by
 rw [rA JF, hb, eN, sX JF (NU (by omega)), Nf]
theorem Lo {d : D} : tD (.cel S0.length) (S0 ++ [.lst (xs ++ [d])]) = .ok (.dat d) (S0 ++ [.lst xs]) := by
 simp only [tD, JF];rw [show (xs ++ [d])[(xs ++ [d]).length - 1]? = some d by simp]
 dsimp only;rw [nD, Nf]
end
theorem CP {S0 : aJ} {a0 a1 a2 a3 a4 : Option Vl} (ls : LS S0) : ∀ (ds : List Deed) (s s' : Ms) (n k : Nat), (∀ d ∈ ds, d.Ok) -> D3 ds s = some s' -> MbL (s.m :: s.stk) n -> n + 8 * ds.length <= 900000 -> s.stk.length + ds.length <= 900000 ->
  loop (.nm 8) hX (ds.map Deed.d) [a0, a1, a2, a3, a4, some (.dat (mD s.m)), some (.cel S0.length), some (.dat (.int (k : Int))), none] (S0 ++ [.lst (xQ mD s.stk)]) = .next [a0, a1, a2, a3, a4, some (.dat (mD s'.m)), some (.cel S0.length), some (.dat (.int ((k + BK ds : Nat) : Int))), none] (S0 ++ [.lst (xQ mD s'.stk)])
 | [], s, s', n, k, _, h, _, _, _ => by cases h; rfl
 | d :: r, s, s', n, k, ok, h, hm, hn, hl => by
  rw [aN] at hn hl;have okd := ok d (aY ..);have okr : ∀ d ∈ r, d.Ok := fun d hd => ok d (aM _ hd)
  obtain ⟨a, h0, h1, h2, h3, h4⟩ := id hm;rw [aQ, loop];simp only [rV, jR];rw [hX];cases d with
  | cmd c =>
   have ih := CP (S0 := S0) (a0 := a0) (a1 := a1) (a2 := a2) (a3 := a3) (a4 := a4) ls r ⟨xC s.m c.mat, s.stk⟩ s' (n + 8) (k + 1) okr h (D4 okd hm rfl) (by omega) (by dsimp only; omega)
   simp! [Deed.d, GX, A3 (c := c) (w := "open") (.inl rfl), A3 (c := c) (w := "close") (.inr (.inl rfl)), HV ls.app (show c.Ok from okd), zO h2 (show c.mat.length = 49 from Ex _) h3 (Cmd.mat_bd (show c.Ok from okd)) h0 (by decide) (by omega : a + 5 <= 1000000)]
   rw [<- hX, show ((k + BK (Deed.cmd c :: r) : Nat) : Int) = ((k + 1 + BK r : Nat) : Int) by simp [BK]; omega, <- ih]
   rfl
  | op =>
   have ih := CP (S0 := S0) (a0 := a0) (a1 := a1) (a2 := a2) (a3 := a3) (a4 := a4) ls r ⟨unitM, s.m :: s.stk⟩ s' (n + 8) k okr h (D4 okd hm rfl) (by omega) (by simp; omega)
   simp! [Deed.d, dN, Lp (d := mD s.m) (S0 := S0) (xs := xQ mD s.stk) (by rw [oK]; omega), zH]
   rw [<- hX, show ((k + BK (Deed.op :: r) : Nat) : Int) = ((k + BK r : Nat) : Int) from rfl, <- ih]
   simp only [rvD_cons]
  | cl =>
   cases hk : s.stk with
   | nil => simp [D3, Av, hk] at h
   | cons P q =>
    have e1 : Av .cl s = some ⟨xC P (zF s.m), q⟩ := by simp [Av, hk]
    simp only [D3, Av, hk] at h;rw [hk] at h4 hl;obtain ⟨b, g0, g1, g2, g3, g4⟩ := h4;have ih := CP (S0 := S0) (a0 := a0) (a1 := a1) (a2 := a2) (a3 := a3) (a4 := a4) ls r ⟨xC P (zF s.m), q⟩ s' (n + 8) k okr h (D4 okd hm e1) (by omega) (by simp at hl ⊢; omega)
    rw [rvD_cons];simp! [Deed.d, dN, Lo, M9 h2, zO g2 (Bj s.m) g3 (GF h3) g0 h0 (by omega : b + a <= 1000000)]
    rw [<- hX, show ((k + BK (Deed.cl :: r) : Nat) : Int) = ((k + BK r : Nat) : Int) from rfl, <- ih]
theorem Lh {S : aJ} {x0 x1 x2 x3 : Vl} {e : Er} (he : dQ [x0, x1, x2] S = .err e S) : G9 [x0, x1, x2, x3] S = .err e S := by
 rw [E_ran];unfold Gc;simp! [he];rfl
inductive Chain : List (List Int) -> (Pen -> List Pen) -> Prop
 | nil : Chain [] (fun _ => [])
 | cons {P : List Int} {k : List (List Int)} {ts : Pen -> List Pen} {f : Pen -> Pen} : OH f P -> Chain k ts -> Chain (P :: k) (fun z => f ((ts z).headD z) :: ts z)
def Inv (s : Ms) (p : Pen -> Ps) : Prop := ∃ (ts : Pen -> List Pen) (f : Pen -> Pen), Chain s.stk ts /\ OH f s.m /\ ∀ z, (p z).stk = ts z /\ (p z).z = f ((ts z).headD z)
end PH
namespace LA
abbrev Vc := Nat -> Int
def S : Nat -> (Nat -> Int) -> Int
 | 0, _ => 0
 | n + 1, f => S n f + f n
def lin (a : Int) (v : Vc) (b : Int) (w : Vc) : Vc := fun x => a * v x + b * w x
def zv : Vc := fun _ => 0
inductive Sp (G : Vc -> Prop) : Vc -> Prop
 | gen {v : Vc} : G v -> Sp G v
 | zero : Sp G zv
 | lin {v w : Vc} (a b : Int) : Sp G v -> Sp G w -> Sp G (lin a v b w)
 | div {v : Vc} (k : Int) : k ≠ 0 -> Sp G (fun x => k * v x) -> Sp G v
end LA
namespace LA
def fn (l : List Int) : Vc := fun x => l.getD x 0
def CS : List Int -> Nat
 | [] => 0
 | x :: r => if x = 0 then CS r + 1 else 0
def gcdN (l : List Int) : Nat := l.foldl (fun g x => Nat.gcd g x.natAbs) 0
end LA
namespace LA
def mulS (row base : List Int) (m : Int) : Int := if fn row (CS base) = 0 then m else Int.fdiv (m * fn base (CS base)) (gcdN [m, fn base (CS base)])
def mulL (B : List (List Int)) (row : List Int) : Int := B.foldl (fun m base => mulS row base m) 1
end LA
namespace LA
def Bd (b : Nat) (r : List Int) : Prop := ∀ x ∈ r, x.natAbs < 2 ^ b
end LA
namespace LA
def Gr (R : Nat) : Nat -> List (List Int) -> Prop
 | _, [] => True
 | i, b :: B => Bd (2 ^ i * (R + 1) - 1) b /\ Gr R (i + 1) B
end LA
namespace PH
open PySem PySem.Spec PyProof PyProof.Rows L2
theorem Ha {t : Tg} {mb : FS} {d : PH.D} {r : List PH.D} {ρ ρ1 ρ2 : Ev} {S S2 : aJ} (h1 : rV t (.dat d) ρ = some ρ1) (h2 : mb ρ1 S = .next ρ2 S2) : loop t mb (d :: r) ρ S = loop t mb r ρ2 S2 := by
 rw [loop, h1];dsimp only;rw [h2]
theorem MH : ∀ r : List Int, D.pys (r.map PH.D.int) = some (r.map PyData.int)
 | [] => rfl
 | x :: r => by
  rw [aQ, aQ, D.pys, MH r];rfl
theorem Dw : ∀ r : List Int, D.Pls (r.map PH.D.int) /\ D.hts (r.map PH.D.int) = 0
 | [] => ⟨trivial, rfl⟩
 | x :: r => by
  obtain ⟨h1, h2⟩ := Dw r;refine ⟨⟨trivial, h1⟩, ?_⟩
  rw [aQ, D.hts, h2];rfl
def exF2 (i n : Nat) : List (Nat × Nat) := (dO i n).map fun i => (2 * i, 2 * i + 1)
def exs (n : Nat) : List (Nat × Nat) := exF2 0 n
structure En where
 len : Int
 bits : List Int
 mat : List Int
structure Cand where
 p : Nat
 bits : List Int
 more : List Int
 mat : List Int
abbrev Wt := List (Int × List Cand)
abbrev Wi := List (Int × Nat × List Cand)
def zB (T : aJ) (E : List (List En)) : Nat := T.length + 4 + E.length
structure SSt where
 E : List (List En)
 B : List (List (List Int))
 A : Wt
abbrev OkP := Nat -> Int -> List Int -> List Int -> Prop
abbrev Prc := Nat -> Nat -> Int -> List Int -> List Int -> Prop
abbrev RSet := Int -> List Int -> List Int -> Prop
def putF (F : OkP) (p : Nat) (a : RSet) : OkP := fun q => if q = p then a else F q
def tg (af : Nat) (ex : Nat × Nat) (o : Nat) : Nat := if o = 0 then af else if o = 1 then ex.1 else ex.2
def cE (m : Nat) : Ed -> Nat
 | .cmd _ _ => 1
 | .bit _ _ => 1
 | .unit _ _ _ => 3 * (m + 1)
def pw (m : Nat) (x : List Ed × List Us) : Nat := (x.1.map (cE m)).sum + x.2.length * (m + 1)
def tot (m : Nat) (G : Gr) : Nat := (G.ps.map (pw m)).sum
inductive Frm where
 | blk (l : List Stt) (i : Nat) | kp (zs : List Pen) | cl (f : Bool) (zs : List Pen) (a b : List Stt) | ag (a : List Stt)
abbrev R4 := Nat × Nat × (Pen -> Pen) × List Int
abbrev EP := Nat -> List Int -> Option R4
structure PSt where
 fs : List Frm
 zs : List Pen
 u : Nat
 n : Nat
 w : Nat
inductive PO where
 | go (s : PSt) | more | loop
section
variable {bs : List (List Stt)} {B : List Int}
def Pos (B : List Int) (u : Nat) (b : List Int) : Prop := u + b.length = B.length /\ B.drop u = b
end
inductive Pce where
 | kp (c : Cmd) | cl (f : Bool)
def chF (row : List Nat) (k : Nat) : Bool := match row.getLast? with
 | none => true
 | some a => decide (a < k)
def nxt (n : Nat) (lev : List (List Nat)) : List (List Nat) := lev.flatMap fun row => ((aO n).filter (chF row)).map fun k => row ++ [k]
def lvl (n : Nat) : Nat -> List (List Nat)
 | 0 => [[]]
 | k + 1 => nxt n (lvl n k)
theorem LS.all {S : aJ} (h : LS S) : (S.all fun c => c.below S.length) = true := bD.mpr fun c hc => h c hc _
theorem DU {n : Nat} {xs : List PH.D} {S : aJ} {f : FD} {i : Nat} {x y : PH.D} (hx : xs[i]? = some x) (ex : bQ (.dat y) (.dat (.int (0 + (i : Int)))) S = .ok (.dat x) S) (h : f [.dat x, .dat x] S = .ok (.dat (.bl true)) S) : mX f [some (.dat y), some (.dat y), some (.dat (.int (0 + (i : Int))))] S = .ok (.dat (.bl true)) S := by
 unfold mX;simp! [ex, h]
theorem DT (n : Nat) : ∀ {S : aJ} {d : PH.D}, d.Pl -> d.ht < n -> jD n [.dat d, .dat d] S = .ok (.dat (.bl true)) S := by
 induction n with
 | zero => intro S d _ h; omega
 | succ n ih =>
  intro S d hp hd;rw [Fn];unfold rH;cases d with
  | non => simp! [show Aq false (.dat .non) (.dat .non) S = .ok (.dat (.bl true)) S from rfl]; rfl
  | bl b => simp! [if_true]; cases b <;> rfl
  | int i => simp! [if_true]; rfl
  | str x => simp! [if_true]; rfl
  | ins _ _ _ => exact hp.elim
  | dct => exact hp.elim
  | opq _ => exact hp.elim
  | lst xs =>
   have hl := hp.1;simp! [oR (show -(2 ^ 62) <= (xs.length : Int) by omega) (show (xs.length : Int) < 2 ^ 62 by omega), iB, Int.toNat_natCast]
   rw [hO (g := fun _ => PH.D.bl true) (sz (by simp; omega)) fun i hi => ⟨_, rfl, ?_⟩]
   ·simp! [if_true]
    rw [all_true];rfl
   ·have hi' : i < xs.length := eD.mp hi
    have hx : xs[i]? = some xs[i] := cU hi';have hm : xs[i] ∈ xs := rX hi';have := FH hm;have hd' : PH.D.hts xs + 1 < n + 1 := hd;exact DU (n := n) hx (sW (by rw [fQ (n := i) (by omega), hx])) (ih (Ey hp.2 hm) (by omega))
  | tup xs =>
   have hl := hp.1;simp! [oR (show -(2 ^ 62) <= (xs.length : Int) by omega) (show (xs.length : Int) < 2 ^ 62 by omega), iB, Int.toNat_natCast]
   rw [hO (g := fun _ => PH.D.bl true) (sz (by simp; omega)) fun i hi => ⟨_, rfl, ?_⟩]
   ·simp! [if_true]
    rw [all_true];rfl
   ·have hi' : i < xs.length := eD.mp hi
    have hx : xs[i]? = some xs[i] := cU hi';have hm : xs[i] ∈ xs := rX hi';have := FH hm;have hd' : PH.D.hts xs + 1 < n + 1 := hd;exact DU (n := n) hx (Bt (by rw [fQ (n := i) (by omega), hx])) (ih (Ey hp.2 hm) (by omega))
def kps : List Pce -> Nat
 | [] => 0
 | .kp _ :: r => kps r + 1
 | .cl _ :: r => kps r
def cls : List Pce -> Nat
 | [] => 0
 | .kp _ :: r => cls r
 | .cl _ :: r => cls r + 1
section
variable {bs : List (List Stt)} {T : Nat -> Nat} {S : aJ} {g : Nat}
abbrev R3 := Nat × Nat × List Int
end
theorem Lk (z : Pen) : z.d = .tup (z.ns.map PH.D.int) := rfl
theorem Ez (z : Pen) : (z.d).Pl /\ (z.d).ht = 1 := by
 rw [Lk];obtain ⟨h1, h2⟩ := Dw z.ns;refine ⟨⟨by rw [bA]; show 6 <= 1000; omega, h1⟩, ?_⟩
 show D.hts (z.ns.map PH.D.int) + 1 = 1
 rw [h2]
theorem Od {z w : Pen} (h : z.ns = w.ns) : z = w := by
 obtain ⟨a1, a2, a3, a4, a5, a6⟩ := z;obtain ⟨b1, b2, b3, b4, b5, b6⟩ := w;simp only [Pen.ns, List.cons.injEq, and_true] at h;obtain ⟨rfl, rfl, rfl, rfl, rfl, rfl⟩ := h;rfl
instance : DecidableEq Pen := fun z w => if h : z.ns = w.ns then .isTrue (Od h) else .isFalse fun e => h (by rw [e])
structure Eqn where
 vars : List (Nat × Nat)
 left : List Nat
 right : List Nat
 parts : List Nat
def PW {α : Type} : List α -> List (List α) -> Prop
 | [], [] => True
 | x :: xs, r :: rs => x ∈ r /\ PW xs rs
 | _, _ => False
abbrev Plc := Int × List Int
def flt : Stt -> Prop
 | .cmd c => c.Ok
 | .fin w => 0 <= w /\ w <= 1
 | _ => False
def T2 (x y : Nat) : Nat -> Nat := fun g => if g = 0 then x else y
theorem Ew {j : Int} {m : Nat} : iB j (m + 1) = .int j :: iB (j + 1) m := by
 unfold iB;rw [Fq, aQ, hI]
 show PH.D.int (j + (0 : Nat)) :: _ = _
 congr 1
 ·congr 1; omega
 ·refine eO fun k _ => ?_
  show PH.D.int (j + ((k + 1 : Nat) : Int)) = PH.D.int (j + 1 + (k : Int))
  congr 1; omega
def rP (d : PH.D) (b : Int) : Bool := match d with
 | .int i => decide (0 <= i) && decide (i < b)
 | _ => false
section
variable {S : aJ}
theorem G8 {xs : List PH.D} (h : PH.D.Pls xs) : ∀ x ∈ xs, x.Pl := by
 induction xs with
 | nil => intro x hx; cases hx
 | cons y r ih =>
  intro x hx;rcases bN.mp hx with rfl | hx
  ·exact h.1
  ·exact ih h.2 x hx
end
section
variable {S : aJ}
theorem DH {d : PH.D} (h : d.Pl) {b : Int} : sS [.dat d, .dat (.int b)] S = .ok (.dat (.bl (rP d b))) S := by
 rw [L5];unfold xE;have w : qR [.dat d] S = .ok (.dat (.bl (match d with | .int _ => true | _ => false))) S := by
  rw [Gg];unfold xF;cases d with
  | ins c ns xs => exact h.elim
  | dct => exact h.elim
  | opq _ => exact h.elim
  | _ => rfl
 cases d with
 | int i =>
  by_cases h0 : 0 <= i
  ·have e : rP (.int i) b = decide (i < b) := by
    show (decide (0 <= i) && decide (i < b)) = _
    rw [decide_eq_true h0]; rfl
   rw [e];simp! [w, iD, decide_eq_true h0];rfl
  ·have e : rP (.int i) b = false := by
    show (decide (0 <= i) && decide (i < b)) = _
    rw [decide_eq_false h0]; rfl
   rw [e];simp! [w, iD, decide_eq_false h0];rfl
 | ins c ns xs => exact h.elim
 | dct => exact h.elim
 | opq _ => exact h.elim
 | _ => simp! [w]; rfl
end
section
variable {S : aJ}
theorem Kw {α : Type} (f : α -> Bool) (xs : List α) : yN (.dat (.lst (xs.map fun x => PH.D.bl (f x)))) S = .ok (.dat (.bl (xs.all f))) S := by
 have : ∀ xs : List α, xK (xs.map fun x => PH.D.bl (f x)) = some (xs.map f) := fun xs => by
  induction xs with
  | nil => rfl
  | cons x r ih => simp only [aQ, xK, ih]
 simp only [yN, nJ, this]
 congr 3
 simp
end
inductive LT where
 | st (s : Stt) | shut | out (c : iP) (w : Int)
def BD (l : List Stt) : List LT := l.map LT.st
structure Lm where
 bits : List Int
 extra : Nat
 taken : Nat
 way : Int
 deeds : List Deed
 opens : List (Nat × Nat)
 todo : List LT
section
variable {S0 : aJ} {bs : List (List Stt)} {m : Lm}
abbrev lv (S0 : aJ) : Vl := .cel (S0.length + 3)
end
inductive LF where
 | fin (m : Lm) | long (m : Lm) | never (m : Lm) | short (m : Lm) | no (m : Lm)
def Ends : LF -> SR -> Prop
 | .fin m', r => ∃ c', r = .ok c' /\ c'.taken = m'.taken /\ c'.deeds = m'.deeds /\ c'.ended = m'.way
 | .long _, _ => True
 | .never _, r => ∃ c', r = .err (-2) c'
 | .short m', r => ∃ c', r = .err (m'.bits.length : Int) c'
 | .no _, _ => False
theorem g_kys {n : L4} {ρ : Ev} {S : aJ} : JV n (.next ρ S) = n ρ S := rfl
theorem traceT_ok {S : aJ} {x0 x1 x2 : Vl} {w : Int} {ds : List Deed} {z : Pen} {s' : Ps} (ls : LS S) (he : dQ [x0, x1, x2] S = .ok (.dat (.tup [.int w, .lst (ds.map Deed.d)])) S) (ok : ∀ d ∈ ds, d.Ok) (h : yO ds ⟨[], z, []⟩ = some s') (hl : ds.length <= 900000) (hp : s'.pens.length <= 900000) :
  Bb [x0, x1, x2, .dat z.d] S = .ok (s'.pens.map Pen.d) S := by
 have yf : kYf (.dat (.lst (s'.pens.map Pen.d))) S = .ok (s'.pens.map Pen.d) S := if_pos (by rw [bA]; omega)
 rw [ID];unfold yS;simp! [PN, g_kys, g_yf, he, Ds, pb_ok ls ok h hl, yf]
theorem yP {S : aJ} {z : Pen} : jI [.dat z.d] S = .ok (.dat .non) S := by
 rw [zP];unfold lY;simp! [Ds];rfl
theorem JL {S : aJ} {z : Pen} {c : Cmd} (h : c.Ok) : tS [.dat z.d, .dat c.d] S = .ok (.dat (c.run z).d) S := by
 rw [Gh];unfold xG;simp! [yP, Cm h, oU h];rfl
def Bm (d : PH.D) : Bool := match d with
 | .int _ => true
 | _ => false
def inR (lo hi : Int) (d : PH.D) : Bool := match d with
 | .int i => decide (lo <= i) && decide (i <= hi)
 | _ => false
def qV (d : PH.D) (n : Int) : Bool := match d with
 | .tup xs => decide ((xs.length : Int) = n) && xs.all Bm
 | _ => false
def uJ (d : PH.D) : Bool := match d with
 | .tup (.str w :: r) => (match limits.lookup w with
  | some (m, lo, hi) => decide (r.length = m) && r.all (inR lo hi)
  | none => false)
 | _ => false
section
variable {S : aJ}
theorem GL {d : PH.D} (h : d.Pl) : cL [.dat d] S = .ok (.dat (.bl (Bm d))) S := by
 cases d with
 | ins c ns xs => exact h.elim
 | dct => exact h.elim
 | opq _ => exact h.elim
 | int i => exact cO
 | _ => rfl
theorem kY {d : PH.D} (h : d.Pl) : qR [.dat d] S = .ok (.dat (.bl (Bm d))) S := by
 rw [Gg];unfold xF;cases d with
 | ins c ns xs => exact h.elim
 | dct => exact h.elim
 | opq _ => exact h.elim
 | _ => rfl
theorem index97 {d : PH.D} (h : d.Pl) {b : Int} : zD [.dat d, .dat (.int b)] S = .ok (.dat (.bl (rP d b))) S := by
 rw [Ec];unfold tN;cases d with
 | int i =>
  by_cases h0 : 0 <= i
  ·have e : rP (.int i) b = decide (i < b) := by
    show (decide (0 <= i) && decide (i < b)) = _
    rw [decide_eq_true h0]; rfl
   rw [e];simp! [iD, decide_eq_true h0];rfl
  ·have e : rP (.int i) b = false := by
    show (decide (0 <= i) && decide (i < b)) = _
    rw [decide_eq_false h0]; rfl
   rw [e];simp! [iD, decide_eq_false h0];rfl
 | ins c ns xs => exact h.elim
 | dct => exact h.elim
 | opq _ => exact h.elim
 | _ => rfl
theorem MF {d : PH.D} (h : d.Pl) : lQ [.dat d] S = .ok (.dat (.bl (qV d 6))) S := by
 rw [show lQ [.dat d] S = bO (qC [some (.dat d), none] S) from rfl]
 unfold qC;cases d with
 | tup xs =>
  have i : ∀ S, fIsi "tuple" (.dat (.tup xs)) S = .ok (.dat (.bl true)) S := fun _ => rfl
  have hl : ∀ S, eY (.dat (.tup xs)) S = .ok (.dat (.int (xs.length : Int))) S := fun _ => rfl
  have it : ∀ S, itemsOf (.dat (.tup xs)) S = .ok xs S := fun _ => rfl
  by_cases hn : (xs.length : Int) = 6
  ·have e : qV (.tup xs) 6 = xs.all Bm := by
    show (decide ((xs.length : Int) = 6) && xs.all Bm) = _
    rw [decide_eq_true hn]; rfl
   rw [e];have lc : Cf false (.nm 1) gX (bB cL (aD (aB 1) aL)) [some (.dat (.tup xs)), none] [1] xs S = .ok (.dat (.lst (xs.map fun x => PH.D.bl (Bm x)))) S := by
    have k := hO (cl := false) (t := .nm 1) (e := bB cL (aD (aB 1) aL)) (ρ := [some (.dat (.tup xs)), none]) (S := S) (f := id) (g := fun x => PH.D.bl (Bm x)) (xs := xs) (vs := [1]) (sz h.1) fun x hx => ⟨_, rfl, by
     have := GL (S := S) (G8 h.2 x hx);simp! [this, id]⟩
    rw [List.map_id] at k;rw [k];rfl
   have al := Kw (S := S) Bm xs;simp! [i, hl, decide_eq_true hn, it, lc, al];rfl
  ·have e : qV (.tup xs) 6 = false := by
    show (decide ((xs.length : Int) = 6) && xs.all Bm) = _
    rw [decide_eq_false hn]; rfl
   rw [e];simp! [i, hl, decide_eq_false hn];rfl
 | ins c ns xs => exact h.elim
 | dct => exact h.elim
 | opq _ => exact h.elim
 | _ => rfl
theorem QD {xs : List PH.D} (h : PH.D.Pls xs) (hl : xs.length <= 1000) {a0 a1 : Option Vl} {lo hi : Int} : Cf false (.nm 4) gX eU [a0, a1, some (.dat (.int lo)), some (.dat (.int hi)), none] [4] xs S = .ok (.dat (.lst (xs.map fun x => PH.D.bl (inR lo hi x)))) S := by
 have k := hO (cl := false) (t := .nm 4) (e := eU) (ρ := [a0, a1, some (.dat (.int lo)), some (.dat (.int hi)), none]) (S := S) (f := id) (g := fun x => PH.D.bl (inR lo hi x)) (xs := xs) (vs := [4]) (sz hl) fun x hx => ⟨_, rfl, by
  have px := G8 h x hx;have ii := GL (S := S) px;unfold eU;cases x with
  | int i =>
   have := inb (i := i) (lo := lo) (hi := hi) (S := S) (a := a0) (b := a1);exact this
  | ins c ns xs => exact px.elim
  | dct => exact px.elim
  | opq _ => exact px.elim
  | _ =>
   have ii' := ii;unfold Bm at ii';simp! [id, ii'];rfl⟩
 rw [List.map_id] at k;rw [k];rfl
theorem MG {d : PH.D} (h : d.Pl) : cQ [.dat d] S = .ok (.dat (.bl (uJ d))) S := by
 rw [show cQ [.dat d] S = bO (fO [some (.dat d), none, none, none, none] S) from rfl]
 unfold fO;cases d with
 | tup xs =>
  have i : ∀ S, fIsi "tuple" (.dat (.tup xs)) S = .ok (.dat (.bl true)) S := fun _ => rfl
  have hl : ∀ S, eY (.dat (.tup xs)) S = .ok (.dat (.int (xs.length : Int))) S := fun _ => rfl
  cases xs with
  | nil => rfl
  | cons x r =>
   have hx := h.2.1;have i0 : ∀ S, bQ (.dat (.tup (x :: r))) (.dat (.int 0)) S = .ok (.dat x) S := fun _ => dN
   have n0 : ¬ (((x :: r).length : Nat) : Int) = 0 := by simp only [aN]; omega
   obtain ⟨n, hn⟩ : ∃ n : Int, n = (((x :: r).length : Nat) : Int) := ⟨_, rfl⟩;rw [<- hn] at hl n0;cases x with
   | str w =>
    cases q : limits.lookup w with
    | none =>
     have e : uJ (.tup (.str w :: r)) = false := by
      show (match limits.lookup w with | some (m, lo, hi) => decide (r.length = m) && r.all (inR lo hi) | none => false) = false
      rw [q]
     have il : ∀ S, eC true (.dat (.str w)) S = .ok (.dat (.bl true)) S := fun S => by
      simp only [eC, q, Option.isNone_none, if_true]
     rw [e];simp! [i, hl, decide_eq_false n0, i0, il];rfl
    | some v =>
     obtain ⟨m, lo, hi⟩ := v;have e : uJ (.tup (.str w :: r)) = (decide (r.length = m) && r.all (inR lo hi)) := by
      show (match limits.lookup w with | some (m, lo, hi) => decide (r.length = m) && r.all (inR lo hi) | none => false) = _
      rw [q]
     have il : ∀ S, eC true (.dat (.str w)) S = .ok (.dat (.bl false)) S := fun S => by
      simp only [eC, q, Option.isNone_some, if_true]
     have lm : ∀ S, vE (.dat (.str w)) S = .ok (.dat (.tup [.int (m : Int), .int lo, .int hi])) S := fun S => by
      simp only [vE, q]
     have it : ∀ S, itemsOf (.dat (.tup r)) S = .ok r S := fun _ => rfl
     rw [e]
     by_cases hm : r.length = m
     ·have nm : n = (m : Int) + 1 := by rw [hn, <- hm]; simp
      have lc := QD (S := S) h.2.2 (by have := h.1; simp only [aN] at this; omega) (a0 := some (.dat (.tup (.str w :: r)))) (a1 := some (.dat (.int (m : Int)))) (lo := lo) (hi := hi)
      have al := Kw (S := S) (inR lo hi) r;rw [decide_eq_true hm, Ef];simp! [i, hl, decide_eq_false n0, i0, il, lm, decide_eq_true nm, BJ, it, lc, al];rfl
     ·have nm : ¬ n = (m : Int) + 1 := by rw [hn]; simp only [aN]; omega
      rw [decide_eq_false hm, Bool.false_and];simp! [i, hl, decide_eq_false n0, i0, il, lm, decide_eq_false nm];rfl
   | ins c ns xs => exact hx.elim
   | dct => exact hx.elim
   | opq _ => exact hx.elim
   | _ =>
    simp! [i, hl, decide_eq_false n0, i0];rfl
 | ins c ns xs => exact h.elim
 | dct => exact h.elim
 | opq _ => exact h.elim
 | _ => rfl
theorem Co {lo hi : Int} {x : PH.D} (h : inR lo hi x = true) : ∃ k : Int, x = .int k /\ lo <= k /\ k <= hi := by
 cases x with
 | int k =>
  have h : (decide (lo <= k) && decide (k <= hi)) = true := h;rw [bV, decide_eq_true_eq, decide_eq_true_eq] at h;exact ⟨k, rfl, h⟩
 | _ => cases h
theorem QC {d : PH.D} (h : uJ d = true) : ∃ c : Cmd, c.Ok /\ d = c.d := by
 cases d with
 | tup xs =>
  cases xs with
  | nil => cases h
  | cons x r =>
   cases x with
   | str w =>
    have h : (match limits.lookup w with | some (m, lo, hi) => decide (r.length = m) && r.all (inR lo hi) | none => false) = true := h
    cases q : limits.lookup w with
    | none => rw [q] at h; cases h
    | some v =>
     obtain ⟨m, lo, hi⟩ := v;rw [q] at h;dsimp only at h;rw [bV, decide_eq_true_eq] at h;have hm := sU q;simp only [limits, bN, B9, or_false, Prod.mk.injEq] at hm;have l0 : m = 0 -> r = [] := fun e => List.length_eq_zero_iff.mp (by rw [h.1, e])
     have l1 : m = 1 -> ∃ k : Int, r = [.int k] /\ lo <= k /\ k <= hi := fun e => by
      match r, h with
      | [x], h =>
       obtain ⟨k, rfl, hk⟩ := Co (by simpa using h.2)
       exact ⟨k, rfl, hk⟩
      | [], h => exact absurd h.1 (by rw [e]; decide)
      | _ :: _ :: _, h => exact absurd h.1 (by rw [e]; simp)
     have l2 : m = 2 -> ∃ k j : Int, r = [.int k, .int j] /\ (lo <= k /\ k <= hi) /\ lo <= j /\ j <= hi := fun e => by
      match r, h with
      | [x, y], h =>
       have h2 := h.2;simp only [gE, A2, rL, bV] at h2;obtain ⟨k, rfl, hk⟩ := Co h2.1;obtain ⟨j, rfl, hj⟩ := Co h2.2;exact ⟨k, j, rfl, hk, hj⟩
      | [], h => exact absurd h.1 (by rw [e]; decide)
      | [_], h => exact absurd h.1 (by rw [e]; simp)
      | _ :: _ :: _ :: _, h => exact absurd h.1 (by rw [e]; simp)
     rcases hm with ⟨rfl, rfl, rfl, rfl⟩ | ⟨rfl, rfl, rfl, rfl⟩ | ⟨rfl, rfl, rfl, rfl⟩ | ⟨rfl, rfl, rfl, rfl⟩ | ⟨rfl, rfl, rfl, rfl⟩ | ⟨rfl, rfl, rfl, rfl⟩ | ⟨rfl, rfl, rfl, rfl⟩ | ⟨rfl, rfl, rfl, rfl⟩ | ⟨rfl, rfl, rfl, rfl⟩
     ·obtain ⟨k, rfl, hk⟩ := l1 rfl; exact ⟨.go k, hk, rfl⟩
     ·obtain ⟨k, rfl, hk⟩ := l1 rfl; exact ⟨.turn k, hk, rfl⟩
     ·rw [l0 rfl]; exact ⟨.mirror, trivial, rfl⟩
     ·obtain ⟨k, rfl, hk⟩ := l1 rfl; exact ⟨.scale k, hk, rfl⟩
     ·obtain ⟨k, j, rfl, hk, hj⟩ := l2 rfl; exact ⟨.aim k j, ⟨hk, hj⟩, rfl⟩
     ·obtain ⟨k, j, rfl, hk, hj⟩ := l2 rfl; exact ⟨.place k j, ⟨hk, hj⟩, rfl⟩
     ·rw [l0 rfl]; exact ⟨.mark, trivial, rfl⟩
     ·rw [l0 rfl]; exact ⟨.ret, trivial, rfl⟩
     ·rw [l0 rfl]; exact ⟨.exch, trivial, rfl⟩
   | _ => cases h
 | _ => cases h
end
abbrev bH (a b : Int) : PH.D := .tup [.int a, .int b]
def qI (b p q r : PH.D) : List (Str × Vl) := [("book", .dat b), ("place", .dat p), ("heading", .dat q), ("mark", .dat r)]
def gB (b : PH.D) (z : Pen) : Cell := .ins "Live" (qI b (bH z.x z.y) (bH z.u z.v) (bH z.p z.q))
abbrev Lu : Er := ⟨"NoPart", [], []⟩
abbrev noNu : Er := ⟨"NoNumber", [], []⟩
abbrev F2 : Er := ⟨"NoPen", [], []⟩
abbrev Oe : Er := ⟨"NoCommand", [], []⟩
section
variable {T : aJ} {n : Nat} {b : PH.D} {z z' : Pen}
theorem Ae {m : Str} (h : T[n]? = some (gB b z)) (hm : m ≠ "book" /\ m ≠ "place" /\ m ≠ "heading" /\ m ≠ "mark" := by decide +kernel) : fR T "Live" m (.cel n) = true := by
 obtain ⟨h1, h2, h3, h4⟩ := hm;simp only [fR, h];unfold gB qI;simp only [gE, A2, rL, bV, decide_eq_true_eq];exact ⟨trivial, Ne.symm h1, Ne.symm h2, Ne.symm h3, Ne.symm h4⟩
theorem tQ {p q r x : PH.D} : gG "place" (.dat x) (qI b p q r) = qI b x q r := by
 unfold qI;simp only [gG, pE, String.reduceEq, if_false, if_true]
theorem vY {p q r x : PH.D} : gG "heading" (.dat x) (qI b p q r) = qI b p x r := by
 unfold qI;simp only [gG, pE, String.reduceEq, if_false, if_true]
theorem AQ {p q r x : PH.D} : gG "mark" (.dat x) (qI b p q r) = qI b p q x := by
 unfold qI;simp only [gG, pE, String.reduceEq, if_false, if_true]
theorem sl02 {S : aJ} : BI false (.dat z.d) (some 0) (some 2) S = .ok (.dat (bH z.x z.y)) S := rfl
theorem sl24 {S : aJ} : BI false (.dat z.d) (some 2) (some 4) S = .ok (.dat (bH z.u z.v)) S := rfl
theorem sl46 {S : aJ} : BI false (.dat z.d) (some 4) (some 6) S = .ok (.dat (bH z.p z.q)) S := rfl
theorem moveF {p q r : PH.D} (h : T[n]? = some (.ins "Live" (qI b p q r))) : eQ [.cel n, .dat z'.d] T = .ok (.dat .non) (T.set n (gB b z')) := by
 have s1 : ∀ {ρ : Ev}, gC "Live" "place" ρ (.dat (bH z'.x z'.y)) (.cel n) T = .next ρ (T.set n (.ins "Live" (qI b (bH z'.x z'.y) q r))) := fun {ρ} => by rw [eF h (by unfold qI; simp), tQ]
 have a1 := kT (d := Cell.ins "Live" (qI b (bH z'.x z'.y) q r)) h;have s2 : ∀ {ρ : Ev}, gC "Live" "heading" ρ (.dat (bH z'.u z'.v)) (.cel n) (T.set n (.ins "Live" (qI b (bH z'.x z'.y) q r))) = .next ρ (T.set n (.ins "Live" (qI b (bH z'.x z'.y) (bH z'.u z'.v) r))) := fun {ρ} => by rw [eF a1 (by unfold qI; simp), vY, bW]
 have a2 := kT (d := Cell.ins "Live" (qI b (bH z'.x z'.y) (bH z'.u z'.v) r)) h;have s3 : ∀ {ρ : Ev}, gC "Live" "mark" ρ (.dat (bH z'.p z'.q)) (.cel n) (T.set n (.ins "Live" (qI b (bH z'.x z'.y) (bH z'.u z'.v) r))) = .next ρ (T.set n (.ins "Live" (qI b (bH z'.x z'.y) (bH z'.u z'.v) (bH z'.p z'.q)))) := fun {ρ} => by rw [eF a2 (by unfold qI; simp), AQ, bW]
 have q1 : ∀ S, BI false (.dat (.tup z'.ds)) (some 0) (some 2) S = .ok (.dat (bH z'.x z'.y)) S := fun _ => sl02
 have q2 : ∀ S, BI false (.dat (.tup z'.ds)) (some 2) (some 4) S = .ok (.dat (bH z'.u z'.v)) S := fun _ => sl24
 have q3 : ∀ S, BI false (.dat (.tup z'.ds)) (some 4) (some 6) S = .ok (.dat (bH z'.p z'.q)) S := fun _ => sl46
 rw [tO]; unfold iF;simp! [q1, q2, q3, s1, s2, s3];rfl
theorem moveB (h : T[n]? = some (.ins "Live" [("book", .dat b)])) : eQ [.cel n, .dat z'.d] T = .ok (.dat .non) (T.set n (gB b z')) := by
 have e1 : gG "place" (.dat (bH z'.x z'.y)) [("book", .dat b)] = ([("book", Vl.dat b), ("place", .dat (bH z'.x z'.y))] : List (Str × Vl)) := by simp only [gG, pE, String.reduceEq, if_false, if_true]
 have e2 : gG "heading" (.dat (bH z'.u z'.v)) [("book", .dat b), ("place", .dat (bH z'.x z'.y))] = ([("book", Vl.dat b), ("place", .dat (bH z'.x z'.y)), ("heading", .dat (bH z'.u z'.v))] : List (Str × Vl)) := by simp only [gG, pE, String.reduceEq, if_false, if_true]
 have e3 : gG "mark" (.dat (bH z'.p z'.q)) [("book", .dat b), ("place", .dat (bH z'.x z'.y)), ("heading", .dat (bH z'.u z'.v))] = qI b (bH z'.x z'.y) (bH z'.u z'.v) (bH z'.p z'.q) := by unfold qI; simp only [gG, pE, String.reduceEq, if_false, if_true]
 have s1 : ∀ {ρ : Ev}, gC "Live" "place" ρ (.dat (bH z'.x z'.y)) (.cel n) T = .next ρ (T.set n (.ins "Live" [("book", Vl.dat b), ("place", .dat (bH z'.x z'.y))])) := fun {ρ} => by rw [eF h (by simp), e1]
 have a1 := kT (d := Cell.ins "Live" [("book", Vl.dat b), ("place", .dat (bH z'.x z'.y))]) h;have s2 : ∀ {ρ : Ev}, gC "Live" "heading" ρ (.dat (bH z'.u z'.v)) (.cel n) (T.set n (.ins "Live" [("book", Vl.dat b), ("place", .dat (bH z'.x z'.y))])) = .next ρ (T.set n (.ins "Live" [("book", Vl.dat b), ("place", .dat (bH z'.x z'.y)), ("heading", .dat (bH z'.u z'.v))])) := fun {ρ} => by rw [eF a1 (by simp), e2, bW]
 have a2 := kT (d := Cell.ins "Live" [("book", Vl.dat b), ("place", .dat (bH z'.x z'.y)), ("heading", .dat (bH z'.u z'.v))]) h;have s3 : ∀ {ρ : Ev}, gC "Live" "mark" ρ (.dat (bH z'.p z'.q)) (.cel n) (T.set n (.ins "Live" [("book", Vl.dat b), ("place", .dat (bH z'.x z'.y)), ("heading", .dat (bH z'.u z'.v))])) = .next ρ (T.set n (gB b z')) := fun {ρ} => by rw [eF a2 (by simp), e3, bW]; rfl
 have q1 : ∀ S, BI false (.dat (.tup z'.ds)) (some 0) (some 2) S = .ok (.dat (bH z'.x z'.y)) S := fun _ => sl02
 have q2 : ∀ S, BI false (.dat (.tup z'.ds)) (some 2) (some 4) S = .ok (.dat (bH z'.u z'.v)) S := fun _ => sl24
 have q3 : ∀ S, BI false (.dat (.tup z'.ds)) (some 4) (some 6) S = .ok (.dat (bH z'.p z'.q)) S := fun _ => sl46
 rw [tO]; unfold iF;simp! [q1, q2, q3, s1, s2, s3];rfl
theorem M6 (h : T[n]? = some (gB b z)) : uC "Live" "book" (.cel n) T = .ok (.dat b) T := jY h rfl
theorem JN (h : T[n]? = some (gB b z)) : uC "Live" "place" (.cel n) T = .ok (.dat (bH z.x z.y)) T := jY h (by unfold qI; rfl)
theorem M5 (h : T[n]? = some (gB b z)) : uC "Live" "heading" (.cel n) T = .ok (.dat (bH z.u z.v)) T := jY h (by unfold qI; rfl)
theorem M4 (h : T[n]? = some (gB b z)) : uC "Live" "mark" (.cel n) T = .ok (.dat (bH z.p z.q)) T := jY h (by unfold qI; rfl)
theorem JD (h : T[n]? = some (gB b z)) : jC [.cel n] T = .ok (.dat z.d) T := by
 have a1 : eR false (.dat (bH z.x z.y)) (.dat (bH z.u z.v)) T = .ok (.dat (.tup [.int z.x, .int z.y, .int z.u, .int z.v])) T := rfl;have a2 : eR false (.dat (.tup [.int z.x, .int z.y, .int z.u, .int z.v])) (.dat (bH z.p z.q)) T = .ok (.dat z.d) T := rfl;rw [Fm]; unfold rG;simp! [KC, JN h, M5 h, M4 h, a1, a2];rfl
theorem xZ (h : T[n]? = some (gB b z)) : zI "Live" jC (.cel n) T = .ok (.dat z.d) T := by
 unfold zI;rw [if_pos (Ae h), JD h];rfl
theorem Il {d v : PH.D} (hd : d.Pl) (hv : v.Pl) (h : T[n]? = some (gB b z)) : (rP d 3 = false -> aT [.cel n, .dat d, .dat v] T = .err Lu T) /\ (rP d 3 = true -> qV v 2 = false -> aT [.cel n, .dat d, .dat v] T = .err noNu T) /\ (rP d 3 = true -> qV v 2 = true -> ∃ z' : Pen, aT [.cel n, .dat d, .dat v] T = .ok (.dat .non) (T.set n (gB b z'))) := by
 have w := DH (S := T) hd (b := 3);rw [kG]; unfold eV;cases q : rP d 3 with
 | false =>
  rw [q] at w;refine ⟨fun _ => ?_, fun e => (by cases e), fun e => (by cases e)⟩
  simp! [w];rfl
 | true =>
  rw [q] at w;refine ⟨fun e => (by cases e), fun _ e2 => ?_, fun _ e2 => ?_⟩
  ·cases v with
   | tup xs =>
    have i : ∀ S, fIsi "tuple" (.dat (.tup xs)) S = .ok (.dat (.bl true)) S := fun _ => rfl
    have hl : ∀ S, eY (.dat (.tup xs)) S = .ok (.dat (.int (xs.length : Int))) S := fun _ => rfl
    match xs, hv, e2 with
    | [x, y], hv, e2 =>
     have w1 := kY (S := T) hv.2.1;have w2 := kY (S := T) hv.2.2.1;have l2 : ∀ S, eY (.dat (.tup [x, y])) S = .ok (.dat (.int 2)) S := fun _ => rfl
     have i0 : ∀ S, bQ (.dat (.tup [x, y])) (.dat (.int 0)) S = .ok (.dat x) S := fun _ => rfl
     have i1 : ∀ S, bQ (.dat (.tup [x, y])) (.dat (.int 1)) S = .ok (.dat y) S := fun _ => rfl
     have e3 : (Bm x && Bm y) = false := by
      have : (decide ((2 : Int) = 2) && (Bm x && (Bm y && true))) = false := e2
      simpa using this
     cases q1 : Bm x with
     | false =>
      rw [q1] at w1;simp! [w, l2, i0, w1];rfl
     | true =>
      rw [q1, Ef] at e3;rw [q1] at w1;rw [e3] at w2;simp! [w, l2, i0, i1, w1, w2];rfl
    | [], _, _ => simp! [w]; rfl
    | [x], _, _ => simp! [w]; rfl
    | x :: y :: k :: r, _, _ =>
     have hl : ∀ S, eY (.dat (.tup (x :: y :: k :: r))) S = .ok (.dat (.int (((x :: y :: k :: r).length : Nat) : Int))) S := fun _ => rfl
     have i : ∀ S, fIsi "tuple" (.dat (.tup (x :: y :: k :: r))) S = .ok (.dat (.bl true)) S := fun _ => rfl
     obtain ⟨m, hm⟩ : ∃ m : Int, m = (((x :: y :: k :: r).length : Nat) : Int) := ⟨_, rfl⟩;rw [<- hm] at hl;have n2 : ¬ m = 2 := by rw [hm]; simp only [aN]; omega
     simp! [w, i, hl, decide_eq_false n2];rfl
   | ins c ns xs => exact hv.elim
   | dct => exact hv.elim
   | opq _ => exact hv.elim
   | _ => simp! [w]; rfl
  ·obtain ⟨i, j, rfl⟩ : ∃ i j : Int, v = bH i j := by
    cases v with
    | tup xs =>
     have e2 : (decide ((xs.length : Int) = 2) && xs.all Bm) = true := e2;rw [bV, decide_eq_true_eq] at e2
     match xs, e2 with
     | [x, y], e2 =>
      have := e2.2;simp only [gE, A2, rL, bV] at this;obtain ⟨h1, h2⟩ := this;cases x with
      | int i => cases y with
       | int j => exact ⟨i, j, rfl⟩
       | _ => cases h2
      | _ => cases h1
     | [], e2 => exact absurd e2.1 (by decide)
     | [_], e2 => exact absurd e2.1 (by simp)
     | _ :: _ :: _ :: r, e2 => exact absurd e2.1 (by simp only [aN]; omega)
    | _ => cases e2
   have w1 := kY (S := T) (d := .int i) trivial;have w2 := kY (S := T) (d := .int j) trivial;unfold Bm at w1 w2;have l2 : ∀ S, eY (.dat (.tup [.int i, .int j])) S = .ok (.dat (.int 2)) S := fun _ => rfl
   have i0 : ∀ S, bQ (.dat (.tup [.int i, .int j])) (.dat (.int 0)) S = .ok (.dat (.int i)) S := fun _ => rfl
   have i1 : ∀ S, bQ (.dat (.tup [.int i, .int j])) (.dat (.int 1)) S = .ok (.dat (.int j)) S := fun _ => rfl
   have hh : T[n]? = some (.ins "Live" (qI b (bH z.x z.y) (bH z.u z.v) (bH z.p z.q))) := h;cases d with
   | int k =>
    by_cases h0 : k = 0
    ·refine ⟨{ z with x := i, y := j }, ?_⟩
     have s1 : ∀ {ρ : Ev}, gC "Live" "place" ρ (.dat (.tup [.int i, .int j])) (.cel n) T = .next ρ (T.set n (gB b { z with x := i, y := j })) := fun {ρ} => by rw [eF hh (by unfold qI; simp), tQ]; rfl
     simp! [w, l2, i0, i1, w1, w2, decide_eq_true h0, s1];rfl
    ·by_cases h1 : k = 1
     ·refine ⟨{ z with u := i, v := j }, ?_⟩
      have s1 : ∀ {ρ : Ev}, gC "Live" "heading" ρ (.dat (.tup [.int i, .int j])) (.cel n) T = .next ρ (T.set n (gB b { z with u := i, v := j })) := fun {ρ} => by rw [eF hh (by unfold qI; simp), vY]; rfl
      simp! [w, l2, i0, i1, w1, w2, decide_eq_false h0, decide_eq_true h1, s1];rfl
     ·refine ⟨{ z with p := i, q := j }, ?_⟩
      have s1 : ∀ {ρ : Ev}, gC "Live" "mark" ρ (.dat (.tup [.int i, .int j])) (.cel n) T = .next ρ (T.set n (gB b { z with p := i, q := j })) := fun {ρ} => by rw [eF hh (by unfold qI; simp), AQ]; rfl
      simp! [w, l2, i0, i1, w1, w2, decide_eq_false h0, decide_eq_false h1, s1];rfl
   | _ => cases q
theorem Hf (h : T[n]? = some (.ins "Live" [])) : dU [.cel n, .dat b, .dat z'.d] T = .ok (.dat .non) (T.set n (gB b z')) := by
 have ck := yP (S := T) (z := z');have s1 : ∀ {ρ : Ev}, gC "Live" "book" ρ (.dat b) (.cel n) T = .next ρ (T.set n (.ins "Live" [("book", .dat b)])) := fun {ρ} => by rw [eF h (by simp)]; rfl
 have a1 := kT (d := Cell.ins "Live" [("book", Vl.dat b)]) h;have mv := moveB (z' := z') a1;rw [bW] at mv;have ii : fR (T.set n (.ins "Live" [("book", .dat b)])) "Live" "move_to" (.cel n) = true := by
  have ne : (Str.ofString "book" : Str) ≠ Str.ofString "move_to" := by decide +kernel
  simp only [fR, a1, gE, A2, rL, bV, decide_eq_true_eq];exact ⟨trivial, ne⟩
 rw [zQ]; unfold lZ;simp! [ck, s1, eW ii, mv];rfl
theorem FG {v : PH.D} (hv : v.Pl) (h : qV v 6 = false) : dU [.cel n, .dat b, .dat v] T = .err F2 T := by
 have ip := MF (S := T) hv;rw [h] at ip;have ck : jI [.dat v] T = .err F2 T := by
  rw [zP]; unfold lY;simp! [ip];rfl
 rw [zQ]; unfold lZ;simp! [ck];rfl
theorem HW {v : PH.D} (hv : v.Pl) (ls : LS T) : (qV v 6 = false -> wI true "Live" dU [.dat b] (.dat v) T = .err F2 T) /\ (∀ z' : Pen, v = z'.d -> wI true "Live" dU [.dat b] (.dat v) T = .ok (.cel T.length) (T ++ [gB b z'])) := by
 refine ⟨fun h => ?_, fun z' e => ?_⟩
 ·have := FG (T := T ++ [.ins "Live" []]) (n := T.length) (b := b) hv h
  unfold wI;rw [show [Vl.dat b] ++ [.dat v] = [.dat b, .dat v] from rfl, this]
  unfold made;dsimp only;rw [List.take_left, if_pos (LS.all ls)]
 ·subst e
  have at0 : (T ++ [Cell.ins "Live" []])[T.length]? = some (.ins "Live" []) := by simp
  have := Hf (b := b) (z' := z') at0;unfold wI;rw [show [Vl.dat b] ++ [.dat z'.d] = [.dat b, .dat z'.d] from rfl, this]
  unfold made;dsimp only;rw [if_pos rfl, fF _ _ (bX _), Nat.sub_self];rfl
theorem Lw {d : PH.D} (hd : d.Pl) : (uJ d = false -> tS [.dat z.d, .dat d] T = .err Oe T) /\ (uJ d = true -> ∃ z' : Pen, tS [.dat z.d, .dat d] T = .ok (.dat z'.d) T) := by
 refine ⟨fun h => ?_, fun h => ?_⟩
 ·have ic := MG (S := T) hd
  rw [h] at ic;have ck := yP (S := T) (z := z);rw [Gh]; unfold xG;simp! [ck, ic];rfl
 ·obtain ⟨c, hc, rfl⟩ := QC h
  exact ⟨c.run z, JL hc⟩
theorem Hg {d : PH.D} (hd : d.Pl) (h : T[n]? = some (gB b z)) : (uJ d = false -> lR [.cel n, .dat d] T = .err Oe T) /\ (uJ d = true -> ∃ z' : Pen, lR [.cel n, .dat d] T = .ok (.cel n) (T.set n (gB b z'))) := by
 obtain ⟨m1, m2⟩ := Lw (T := T) (z := z) hd;have pr := xZ h;have ii : fR T "Live" "move_to" (.cel n) = true := Ae h;rw [Ea]; unfold oZ;refine ⟨fun e => ?_, fun e => ?_⟩
 ·have mv := m1 e
  simp! [eW ii, pr, mv];rfl
 ·obtain ⟨z', mv⟩ := m2 e
  have mt := moveF (z' := z') (T := T) (n := n) (b := b) (show T[n]? = some (.ins "Live" (qI b (bH z.x z.y) (bH z.u z.v) (bH z.p z.q))) from h)
  refine ⟨z', ?_⟩
  simp! [eW ii, pr, mv, mt];rfl
end
section
variable {S T : aJ} {bs : List (List Stt)} {p n : Nat} {z : Pen}
theorem Nq {T : aJ} {n : Nat} {b : PH.D} {z : Pen} (ls : LS T) : LS (T.set n (gB b z)) := fun c hc m => by
 rcases jA hc with h | rfl
 ·exact ls c h m
 ·rfl
end
theorem rE {S : aJ} {p : Nat} {ks : List Int} {k : Int} (hP : PoolAt S p ks) (h0 : 0 < k) (h1 : k.natAbs < 2 ^ 200) :
  ∃ (d : Int) (ks' : List Int), eA [.cel p, .dat (.int k)] S = .ok (.dat (.int d)) (S.set p (.lst (ks'.map D.int))) /\ 0 <= d /\ d < k /\ ks'.length = ks.length := by
 have hw : ∀ c, CDivW c k := fun c => wide_div h0 h1 (by decide) (by decide)
 obtain ⟨hp, hl⟩ := hP;obtain ⟨u, hu⟩ : ∃ u, ks[0]? = some u := ⟨ks[0], by simp [show 0 < ks.length by omega]⟩
 have hp1 := kT (d := .lst ((ks.set 0 (u + 1)).map D.int)) hp;have hn : (1 : Int) + (u + 1) % ((ks.length : Int) - 1) = ((1 + ((u + 1) % ((ks.length : Int) - 1)).toNat : Nat) : Int) := by
  have := oE (u + 1) (show ((ks.length : Int) - 1) ≠ 0 by omega)
  omega
 have hlt : 1 + ((u + 1) % ((ks.length : Int) - 1)).toNat < ks.length := by
  have := pR (u + 1) (show 0 < ((ks.length : Int) - 1) by omega)
  have := oE (u + 1) (show ((ks.length : Int) - 1) ≠ 0 by omega)
  omega
 generalize hj : 1 + ((u + 1) % ((ks.length : Int) - 1)).toNat = j at hn hlt;obtain ⟨c, hc⟩ : ∃ c, (ks.set 0 (u + 1))[j]? = some c := ⟨(ks.set 0 (u + 1))[j]'(by simpa using hlt), by simp [hlt]⟩
 have h00 : (ks.set 0 (u + 1))[0]? = some (u + 1) := by
  rw [aP, if_pos rfl, if_pos (by omega)]
 have e1 : (Be (fun x y => x + y) (aB 0) (mC (.int 0)) (mC (.int 1))) [some (.cel p), some (.dat (.int k)), none, none, none] S = .next [some (.cel p), some (.dat (.int k)), none, none, none] (S.set p (.lst ((ks.set 0 (u + 1)).map D.int))) := Ks rfl rfl rfl hp rfl hu
 have eE : eA [.cel p, .dat (.int k)] S = bO (rJ [some (.cel p), some (.dat (.int k)), none, none, none] S) := rfl;rw [eE];unfold rJ;generalize hS1 : S.set p (.lst ((ks.set 0 (u + 1)).map D.int)) = S1 at e1 hp1;simp! [e1, Ck (k := 0) (n := 0) hp1 rfl h00, Cq hp1, bA, tX, qZ (show (0 : Int) < (ks.length : Int) - 1 by omega), hn, Ck hp1 rfl hc, pw18]
 by_cases hbig : (1000000000000000000 : Int) <= c
 ·rw [decide_eq_true hbig]
  simp! [if_true];have e2 : GB (aS yL (aB 3) (aB 1)) (aB 0) (aB 2) [some (.cel p), some (.dat (.int k)), some (.dat (.int (j : Int))), some (.dat (.int c)), none] S1 = .next [some (.cel p), some (.dat (.int k)), some (.dat (.int (j : Int))), some (.dat (.int c)), none] (S1.set p (.lst (((ks.set 0 (u + 1)).set j (c / k)).map D.int))) := by
   unfold GB;simp! [Mg (hw c), DO (u := c / k) hp1 (rfl : (j : Int) = (j : Int)) (by simpa using hlt)]
  simp! [e2, qZ h0];refine ⟨c % k, (ks.set 0 (u + 1)).set j (c / k), ?_, oE c (by omega), pR c h0, by simp⟩
  rw [<- hS1, bW];rfl
 ·rw [decide_eq_false hbig]
  simp! [Ck (k := 0) (n := 0) hp1 rfl h00, nS (dw1 _), nS (dw2 _), qZ dw7, qZ dw8, Cr (dw3 _), Cr (dw4 _), Cr (dw5 _), nS (dw6 _ _), qZ h0];exact dw9 h0 hS1
theorem OW {ns : List Int} {S : aJ} (hn : ns.length <= 63) : ∃ ks : List Int, nP [.dat (.lst (ns.map D.int))] S = .ok (.cel S.length) (S ++ [PL ks]) /\ 2 <= ks.length := by
 obtain ⟨ms, e, hl⟩ := EI (ns := ns) (lo := none) (hi := some 63);rw [show nP [.dat (.lst (ns.map D.int))] S = bO (qD [some (.dat (.lst (ns.map D.int))), none] S) from rfl]
 unfold qD;simp! [e];rw [hO (g := D.int) (sz (by omega)) fun i hi => ⟨_, rfl, ?_⟩]
 ·cases ms with
  | nil =>
   refine ⟨[0, 0], ?_, by simp⟩
   simp! [bR, List.isEmpty_nil, sY (show [D.int 0].length + [D.int 0].length <= sizeLine from sz (by simp))]
   rfl
  | cons i r =>
   refine ⟨0 :: i :: r, ?_, by simp⟩
   simp! [aQ, List.isEmpty_cons, sY (show [D.int 0].length + (D.int i :: r.map D.int).length <= sizeLine from sz (by simp at *; omega))]
   rfl
 ·simp! [if_true]
theorem pw8' {S : aJ} : vD (.dat (.int 10)) (.dat (.int 8)) S = .ok (.dat (.int 100000000)) S := rfl
theorem pw31 {S : aJ} : vD (.dat (.int 10)) (.dat (.int 31)) S = .ok (.dat (.int 10000000000000000000000000000000)) S := rfl
theorem pw40x {S : aJ} : vD (.dat (.int 10)) (.dat (.int 40)) S = .ok (.dat (.int 10000000000000000000000000000000000000000)) S := rfl
abbrev EY (i : Int) : Prop := -(2 ^ 140) < i /\ i < 2 ^ 140
theorem AZ {S : aJ} {p : Nat} {ks : List Int} (hP : PoolAt S p ks) : ∃ (x : Int) (ks' : List Int), gL [.cel p] S = .ok (.dat (.int x)) (S.set p (PL ks')) /\ EY x /\ ks'.length = ks.length := by
 obtain ⟨kd, k1, e1, h10, h11, l1⟩ := rE hP (k := 4) (by decide) (by decide)
 have P1 := hP.next l1;have m1 : ∀ S, mK (.dat (.int 2)) (.dat (.int 100000000)) S = .ok (.dat (.int 200000000)) S := fun _ => rfl
 have m2 : ∀ S, mK (.dat (.int 2)) (.dat (.int 10000000000000000000000000000000000000000)) S = .ok (.dat (.int 20000000000000000000000000000000000000000)) S := fun _ => rfl
 rw [DC]; unfold mZ
 by_cases q0 : kd = 0
 ·obtain ⟨d, k2, e2, h20, h21, l2⟩ := rE P1 (k := 19) (by decide) (by decide)
  rw [bW] at e2;refine ⟨d - 9, k2, ?_, ⟨by omega, by omega⟩, by omega⟩
  simp! [e1, decide_eq_true q0, e2];rfl
 ·by_cases q1 : kd = 1
  ·obtain ⟨d, k2, e2, h20, h21, l2⟩ := rE P1 (k := 200000001) (by decide) (by decide)
   rw [bW] at e2;refine ⟨d - 100000000, k2, ?_, ⟨by omega, by omega⟩, by omega⟩
   simp! [e1, decide_eq_false q0, decide_eq_true q1, pw8', m1, e2];rfl
  ·by_cases q2 : kd = 2
   ·obtain ⟨d, k2, e2, h20, h21, l2⟩ := rE P1 (k := 200000001) (by decide) (by decide)
    have P2 := P1.next l2;obtain ⟨d', k3, e3, h30, h31, l3⟩ := rE P2 (k := 100000000) (by decide) (by decide)
    rw [bW] at e2;rw [bW, bW] at e3;refine ⟨(d - 100000000) * 10000000000000000000000000000000 + d', k3, ?_, ⟨by omega, by omega⟩, by omega⟩
    simp! [e1, decide_eq_false q0, decide_eq_false q1, decide_eq_true q2, pw8', pw31, m1, e2, nS (mulL (i := d - 100000000) (j := 10000000000000000000000000000000) (by omega) (by omega)), e3]
    rfl
   ·obtain ⟨d, k2, e2, h20, h21, l2⟩ := rE P1 (k := 20000000000000000000000000000000000000001) (by decide) (by decide)
    rw [bW] at e2;refine ⟨d - 10000000000000000000000000000000000000000, k2, ?_, ⟨by omega, by omega⟩, by omega⟩
    simp! [e1, decide_eq_false q0, decide_eq_false q1, decide_eq_false q2, pw40x, m2, e2];rfl
theorem sq96 {a : Int} (h : EY a) : IntMulOk a a := by
 have h2 : a.natAbs < 2 ^ 140 := by omega
 exact CMulW.ok (wide_mul h2 h2 (by decide) (by decide) (by decide))
def Ko : List (List Stt) := [[.cmd .mark]]
theorem good96 : Good Ko := ⟨by decide, by decide, fun b hb => by
 rw [Ko, hE] at hb;subst hb;exact ⟨by simp [GdL, Stt.Gd, Cmd.Ok], by decide⟩⟩
abbrev dW : PH.D := kS Ko
abbrev NS : Er := ⟨"ZeroDivisionError", [], []⟩
abbrev keyE : Er := ⟨"KeyError", [], []⟩
section
variable {T : aJ} {n : Nat} {b : PH.D} {z : Pen} {i j : Int}
theorem w96 {k : Int} (h0 : 0 <= k) (h3 : k < 3) : sS [.dat (.int k), .dat (.int 3)] T = .ok (.dat (.bl true)) T := by
 have w := DH (S := T) (d := .int k) (b := 3) trivial;have q : rP (.int k) 3 = true := by
  unfold rP;simp [h0, h3]
 rw [q] at w;exact w
theorem Im (h : T[n]? = some (gB b z)) : aT [.cel n, .dat (.int 0), .dat (bH i j)] T = .ok (.dat .non) (T.set n (gB b { z with x := i, y := j })) := by
 have w := w96 (T := T) (k := 0) (by decide) (by decide)
 have w1 := kY (S := T) (d := .int i) trivial;have w2 := kY (S := T) (d := .int j) trivial;unfold Bm at w1 w2;have l2 : ∀ S, eY (.dat (.tup [.int i, .int j])) S = .ok (.dat (.int 2)) S := fun _ => rfl
 have i0 : ∀ S, bQ (.dat (.tup [.int i, .int j])) (.dat (.int 0)) S = .ok (.dat (.int i)) S := fun _ => rfl
 have i1 : ∀ S, bQ (.dat (.tup [.int i, .int j])) (.dat (.int 1)) S = .ok (.dat (.int j)) S := fun _ => rfl
 have hh : T[n]? = some (.ins "Live" (qI b (bH z.x z.y) (bH z.u z.v) (bH z.p z.q))) := h;have s1 : ∀ {ρ : Ev}, gC "Live" "place" ρ (.dat (.tup [.int i, .int j])) (.cel n) T = .next ρ (T.set n (gB b { z with x := i, y := j })) := fun {ρ} => by rw [eF hh (by unfold qI; simp), tQ]; rfl
 rw [kG]; unfold eV;simp! [w, l2, i0, i1, w1, w2, s1];rfl
theorem Ek (h : T[n]? = some (gB b z)) : aT [.cel n, .dat (.int 1), .dat (bH i j)] T = .ok (.dat .non) (T.set n (gB b { z with u := i, v := j })) := by
 have w := w96 (T := T) (k := 1) (by decide) (by decide)
 have w1 := kY (S := T) (d := .int i) trivial;have w2 := kY (S := T) (d := .int j) trivial;unfold Bm at w1 w2;have l2 : ∀ S, eY (.dat (.tup [.int i, .int j])) S = .ok (.dat (.int 2)) S := fun _ => rfl
 have i0 : ∀ S, bQ (.dat (.tup [.int i, .int j])) (.dat (.int 0)) S = .ok (.dat (.int i)) S := fun _ => rfl
 have i1 : ∀ S, bQ (.dat (.tup [.int i, .int j])) (.dat (.int 1)) S = .ok (.dat (.int j)) S := fun _ => rfl
 have hh : T[n]? = some (.ins "Live" (qI b (bH z.x z.y) (bH z.u z.v) (bH z.p z.q))) := h;have s1 : ∀ {ρ : Ev}, gC "Live" "heading" ρ (.dat (.tup [.int i, .int j])) (.cel n) T = .next ρ (T.set n (gB b { z with u := i, v := j })) := fun {ρ} => by rw [eF hh (by unfold qI; simp), vY]; rfl
 rw [kG]; unfold eV;simp! [w, l2, i0, i1, w1, w2, s1];rfl
theorem Io (h : T[n]? = some (gB b z)) : aT [.cel n, .dat (.int 2), .dat (bH i j)] T = .ok (.dat .non) (T.set n (gB b { z with p := i, q := j })) := by
 have w := w96 (T := T) (k := 2) (by decide) (by decide)
 have w1 := kY (S := T) (d := .int i) trivial;have w2 := kY (S := T) (d := .int j) trivial;unfold Bm at w1 w2;have l2 : ∀ S, eY (.dat (.tup [.int i, .int j])) S = .ok (.dat (.int 2)) S := fun _ => rfl
 have i0 : ∀ S, bQ (.dat (.tup [.int i, .int j])) (.dat (.int 0)) S = .ok (.dat (.int i)) S := fun _ => rfl
 have i1 : ∀ S, bQ (.dat (.tup [.int i, .int j])) (.dat (.int 1)) S = .ok (.dat (.int j)) S := fun _ => rfl
 have hh : T[n]? = some (.ins "Live" (qI b (bH z.x z.y) (bH z.u z.v) (bH z.p z.q))) := h;have s1 : ∀ {ρ : Ev}, gC "Live" "mark" ρ (.dat (.tup [.int i, .int j])) (.cel n) T = .next ρ (T.set n (gB b { z with p := i, q := j })) := fun {ρ} => by rw [eF hh (by unfold qI; simp), AQ]; rfl
 rw [kG]; unfold eV;simp! [w, l2, i0, i1, w1, w2, s1];rfl
theorem LY (h : T[n]? = some (gB b z)) : aT [.cel n, .dat (.int 3), .dat (bH i j)] T = .err Lu T := (Il (d := .int 3) (v := bH i j) trivial ⟨by simp, trivial, trivial, trivial⟩ h).1 rfl
theorem DM (h : T[n]? = some (gB b z)) {k v : Vl} {ρ : Ev} : mJ "Live" aT ρ v (.cel n) k T = (aT [.cel n, k, v] T).toS ρ fun _ S4 => .next ρ S4 := by
 unfold mJ;rw [if_pos (Ae (m := "") h)]
end
section
variable {T : aJ} {n : Nat} {z : Pen}
theorem Q7 (ls : LS T) : dQ [.dat dW, .dat (.int 0), .dat (.lst [.int 0])] T = .err (rO 0) T := by
 have e : Kv (runM 10 (startM Ko [0] 0 [.cmd .mark])) T = .err (rO 0) T := rfl;have q := N8 (S0 := T) (bs := Ko) (bits := [0]) (p := 0) (k := 10) (b := [.cmd .mark]) ls good96.two rfl (fun b hb => by rw [hE.mp hb]; exact .inl rfl) (by decide) (fun h => by rw [h] at e; cases e)
 rw [e] at q;exact q
theorem QE (ls : LS T) (h : T[n]? = some (gB dW z)) : oP [.cel n, .dat (.int 0), .dat (.lst [.int 0])] T = .err (rO 0) T := by
 have pr := xZ h;have fb := M6 h;have r := Lh (x3 := .dat z.d) (Q7 ls);rw [Eb]; unfold pA;simp! [GP, Br, Bs, KC, fb, pr, rZ, oC, r];rfl
structure R96 where
 (a0 b0 a1 b1 a2 b2 a3 b3 : Int)
def R96.d (r : R96) : PH.D := .lst [bH r.a0 r.b0, bH r.a1 r.b1, bH r.a2 r.b2, bH r.a3 r.b3]
def R96.pn (r : R96) : Pen := ⟨r.a1, r.b1, r.a2, r.b2, r.a0, r.b0⟩
theorem R96.i0 {r : R96} {S : aJ} : bQ (.dat r.d) (.dat (.int 0)) S = .ok (.dat (bH r.a0 r.b0)) S := rfl
theorem R96.i1 {r : R96} {S : aJ} : bQ (.dat r.d) (.dat (.int 1)) S = .ok (.dat (bH r.a1 r.b1)) S := rfl
theorem R96.i2 {r : R96} {S : aJ} : bQ (.dat r.d) (.dat (.int 2)) S = .ok (.dat (bH r.a2 r.b2)) S := rfl
theorem R96.i3 {r : R96} {S : aJ} : bQ (.dat r.d) (.dat (.int 3)) S = .ok (.dat (bH r.a3 r.b3)) S := rfl
def er96 (k : Int) : Er := if k = 1 then Oe else if k = 2 then Lu else if k = 3 then rO 0 else if k = 4 then NS else keyE
def oL (k : Int) (r : R96) (T : aJ) : Res Vl := if k = 0 then .ok (.dat (bH r.a3 r.b3)) T else .err (er96 k) T
def lW (k : Int) : aJ := if k = 5 then [.dki [] []] else []
theorem p0 {i j : Int} {S : aJ} : bQ (.dat (bH i j)) (.dat (.int 0)) S = .ok (.dat (.int i)) S := rfl
theorem p1 {i j : Int} {S : aJ} : bQ (.dat (bH i j)) (.dat (.int 1)) S = .ok (.dat (.int j)) S := rfl
theorem OK {r : R96} {k : Int} (ls : LS T) (hs : EY r.a0) (h0 : 0 <= k) (h5 : k <= 5) (h : T[n]? = some (gB dW z)) : wH [.cel n, .dat r.d, .dat (.int k)] T = oL k r (T.set n (gB dW r.pn) ++ lW k) := by
 have g1 := Io (i := r.a0) (j := r.b0) h;have a1 := kT (d := gB dW { z with p := r.a0, q := r.b0 }) h
 have g2 := Im (i := r.a1) (j := r.b1) a1;rw [bW] at g2;have a2 := kT (d := gB dW { z with p := r.a0, q := r.b0, x := r.a1, y := r.b1 }) h
 have g3 := Ek (i := r.a2) (j := r.b2) a2;rw [bW] at g3;have a3 := kT (d := gB dW r.pn) h;have ls3 : LS (T.set n (gB dW r.pn)) := Nq ls;have ii := Ae (m := "") a3;have sq := nS (S := T.set n (gB dW r.pn)) (sq96 hs);rw [L7]; unfold xI;have s1 : ∀ {ρ : Ev}, mJ "Live" aT ρ (.dat (bH r.a0 r.b0)) (.cel n) (.dat (.int 2)) T = .next ρ (T.set n (gB dW { z with p := r.a0, q := r.b0 })) := fun {ρ} => by rw [DM h, g1]; rfl
 have s2 : ∀ {ρ : Ev}, mJ "Live" aT ρ (.dat (bH r.a1 r.b1)) (.cel n) (.dat (.int 0)) (T.set n (gB dW { z with p := r.a0, q := r.b0 })) = .next ρ (T.set n (gB dW { z with p := r.a0, q := r.b0, x := r.a1, y := r.b1 })) := fun {ρ} => by rw [DM a1, g2]; rfl
 have s3 : ∀ {ρ : Ev}, mJ "Live" aT ρ (.dat (bH r.a2 r.b2)) (.cel n) (.dat (.int 1)) (T.set n (gB dW { z with p := r.a0, q := r.b0, x := r.a1, y := r.b1 })) = .next ρ (T.set n (gB dW r.pn)) := fun {ρ} => by rw [DM a2, g3]; rfl
 unfold oL lW;rcases (by omega : k = 0 \/ k = 1 \/ k = 2 \/ k = 3 \/ k = 4 \/ k = 5) with rfl | rfl | rfl | rfl | rfl | rfl
 ·rw [if_pos rfl, if_neg (by decide), bJ]
  simp! [lS, r.i0, r.i1, r.i2, r.i3, s1, s2, s3];rfl
 ·rw [if_neg (by decide), if_neg (by decide), bJ]
  have bad : uJ (.tup [.str "go", .int (10 + r.a0 * r.a0)]) = false := by
   have h2 : 0 <= r.a0 * r.a0 := by rw [<- Int.natAbs_mul_self]; exact Int.natCast_nonneg _
   have e : limits.lookup ("go" : Str) = some (1, -9, 9) := by rfl
   unfold uJ;dsimp only;rw [e];generalize r.a0 * r.a0 = x at h2;simp [inR];omega
  have ia := (Hg (d := .tup [.str "go", .int (10 + r.a0 * r.a0)]) ⟨by simp, show PyData.strOk (Str.ofString "go") = true from by decide +kernel, trivial, trivial⟩ a3).1 bad
  simp! [lS, r.i0, r.i1, r.i2, r.i3, s1, s2, s3, p0, sq, Cb, Cg, ii, ia];rfl
 ·rw [if_neg (by decide), if_neg (by decide), bJ]
  have s4 : ∀ {ρ : Ev}, mJ "Live" aT ρ (.dat (bH r.a1 r.b1)) (.cel n) (.dat (.int 3)) (T.set n (gB dW r.pn)) = .err Lu ρ (T.set n (gB dW r.pn)) := fun {ρ} => by rw [DM a3, LY a3]; rfl
  simp! [lS, r.i0, r.i1, r.i2, r.i3, s1, s2, s3, s4];rfl
 ·rw [if_neg (by decide), if_neg (by decide), bJ]
  have c := QE ls3 a3;simp! [lS, r.i0, r.i1, r.i2, r.i3, s1, s2, s3, Cc, Ci, ii, c];rfl
 ·rw [if_neg (by decide), if_neg (by decide), bJ]
  have dz : ∀ {a : Int} {S : aJ}, Ar (.dat (.int a)) (.dat (.int (r.b1 - r.b1))) S = .err NS S := fun {a S} => by rw [Int.sub_self]; rfl
  simp! [lS, r.i0, r.i1, r.i2, r.i3, s1, s2, s3, p0, p1, dz];rfl
 ·rw [if_neg (by decide), if_pos rfl]
  have kz : ∀ {a : Int} {S : aJ}, yM (.cel S.length) (.dat (.int a)) (S ++ [.dki [] []]) = .err keyE (S ++ [.dki [] []]) := fun {a S} => by
   unfold yM NH;simp
  simp! [lS, r.i0, r.i1, r.i2, r.i3, s1, s2, s3, p0, JM, kz];rfl
end
section
variable {T : aJ} {n n0 : Nat} {z z' : Pen} {k : Int} {r : R96}
theorem Nc {J : aJ} (h : T[n]? = some (gB dW z)) : HL "Live" "place" "heading" n (.dat (bH z.x z.y)) (.dat (bH z.u z.v)) (T.set n (gB dW z') ++ J) = some (T.set n (gB dW { z' with x := z.x, y := z.y, u := z.u, v := z.v }) ++ J) := by
 have hl := (aH.mp h).1;have a1 : ∀ c : Cell, (T.set n c ++ J)[n]? = some c := fun c => by
  rw [aK (by rw [tX]; exact hl)]
  exact kT h
 have st : ∀ c c' : Cell, (T.set n c ++ J).set n c' = T.set n c' ++ J := fun c c' => by
  rw [List.set_append_left _ _ (by rw [tX]; exact hl), bW]
 have f1 : tY (T.set n (gB dW z') ++ J) "Live" "place" (.cel n) (.dat (bH z.x z.y)) = some (T.set n (gB dW { z' with x := z.x, y := z.y }) ++ J) := by
  unfold tY;dsimp only;rw [a1];unfold gB;dsimp only;rw [if_pos ⟨rfl, by unfold qI; simp⟩, tQ, st]
 have f2 : tY (T.set n (gB dW { z' with x := z.x, y := z.y }) ++ J) "Live" "heading" (.cel n) (.dat (bH z.u z.v)) = some (T.set n (gB dW { z' with x := z.x, y := z.y, u := z.u, v := z.v }) ++ J) := by
  unfold tY;dsimp only;rw [a1];unfold gB;dsimp only;rw [if_pos ⟨rfl, by unfold qI; simp⟩, vY, st]
 unfold HL;rw [f1];exact f2
theorem JU {d q : Str} {o mb : FE} {ρ : Ev} {J : aJ} (h : T[n]? = some (gB dW z)) (ht : mN T n0 d q = true) (ho : o ρ T = .ok (.cel n) T) (hb : mb (ρ ++ [some (.cel n)]) T = oL k r (T.set n (gB dW z') ++ J)) :
  uE n0 "Live" d q o mb ρ T = oL k r (T.set n (gB dW { z' with x := z.x, y := z.y, u := z.u, v := z.v }) ++ J) := by
 have fp : kR T "Live" "place" (.cel n) = some (.dat (bH z.x z.y)) := by
  unfold kR;dsimp only;rw [h];rfl
 have fh : kR T "Live" "heading" (.cel n) = some (.dat (bH z.u z.v)) := by
  unfold kR;dsimp only;rw [h];rfl
 unfold uE;rw [ho]
 show (if fR T "Live" "kept" (.cel n) = true /\ mN T n0 d q = true then _ else _) = _
 rw [if_pos ⟨Ae h, ht⟩, fp, fh];dsimp only;rw [hb];unfold oL;split
 ·unfold B0
  dsimp only;rw [Nc h]
 ·unfold B0
  dsimp only;rw [Nc h]
theorem BP (hs : EY r.a0) (h0 : 0 <= k) (h5 : k <= 5) : ∀ (d m : Nat) {T : aJ} {z : Pen}, LS T -> mN T 0 "_law_wrapped" "_law_wrapped.<locals>.<lambda>" = true -> T[n]? = some (gB dW z) ->
  ∃ z' : Pen, z'.p = r.a0 /\ z'.q = r.b0 /\ cW (d + 1 + m) [.cel n, .dat r.d, .dat (.int k), .dat (.int (d : Int))] T = oL k r (T.set n (gB dW z') ++ lW k)
 | 0, m, T, z, ls, ht, h => by
  have w := OK (r := r) ls hs h0 h5 h;refine ⟨r.pn, rfl, rfl, ?_⟩
  rw [show 0 + 1 + m = m + 1 by omega, zR]; unfold mE
  unfold oL at w ⊢
  by_cases hk : k = 0
  ·rw [if_pos hk] at w ⊢
   simp! [w, decide_eq_true (show ((0 : Nat) : Int) = 0 from rfl)]
   rfl
  ·rw [if_neg hk] at w ⊢
   simp! [w, decide_eq_true (show ((0 : Nat) : Int) = 0 from rfl)]
   rfl
 | d + 1, m, T, z, ls, ht, h => by
  obtain ⟨z', e1, e2, e⟩ := BP hs h0 h5 d m ls ht h;have kp := JU (n0 := 0) (r := r) (k := k) (z' := z') (J := lW k) (o := aB 0) (mb := bB (cW (d + 1 + m)) (aD (aB 5) (aD (aB 1) (aD (aB 2) (aD (aS vC (aB 3) (mC (.int 1))) aL))))) (ρ := [some (.cel n), some (.dat r.d), some (.dat (.int k)), some (.dat (.int ((d + 1 : Nat) : Int))), none]) h ht (by simp! [if_true]) (by
   have hd : ((d + 1 : Nat) : Int) - 1 = (d : Int) := by omega
   show bB _ _ [some (.cel n), some (.dat r.d), some (.dat (.int k)), some (.dat (.int ((d + 1 : Nat) : Int))), none, some (.cel n)] T = _
   simp! [hd, e])
  have nd : ¬ (((d + 1 : Nat) : Int) = 0) := by omega
  rw [show d + 1 + 1 + m = (d + 1 + m) + 1 by omega, zR]; unfold mE
  generalize uE 0 "Live" "_law_wrapped" "_law_wrapped.<locals>.<lambda>" (aB 0) (bB (cW (d + 1 + m)) (aD (aB 5) (aD (aB 1) (aD (aB 2) (aD (aS vC (aB 3) (mC (.int 1))) aL))))) = KP at kp ⊢
  by_cases hk : k = 0
  ·subst hk
   unfold oL lW at kp;rw [if_pos rfl, if_neg (by decide), bJ] at kp
   have a1 := kT (d := gB dW { z' with x := z.x, y := z.y, u := z.u, v := z.v }) h
   have g := Ek (i := r.a2) (j := r.b2) a1;rw [bW] at g;have s1 : ∀ {ρ : Ev}, mJ "Live" aT ρ (.dat (bH r.a2 r.b2)) (.cel n) (.dat (.int 1)) (T.set n (gB dW { z' with x := z.x, y := z.y, u := z.u, v := z.v })) = .next ρ (T.set n (gB dW { z' with x := z.x, y := z.y, u := r.a2, v := r.b2 })) := fun {ρ} => by rw [DM a1, g]; rfl
   refine ⟨{ z' with x := z.x, y := z.y, u := r.a2, v := r.b2 }, e1, e2, ?_⟩
   unfold oL lW;rw [if_pos rfl, if_neg (by decide), bJ]
   simp! [decide_eq_false nd, kp, lS, r.i2, s1];rfl
  ·unfold oL at kp
   rw [if_neg hk] at kp;refine ⟨{ z' with x := z.x, y := z.y, u := z.u, v := z.v }, e1, e2, ?_⟩
   unfold oL;rw [if_neg hk];simp! [decide_eq_false nd, kp];rfl
def sG (k : Int) (r : R96) : PH.D := if k = 0 then bH r.a3 r.b3 else .non
abbrev hs96 : List HB := [("NoCommand", some 8, 6, .c (.int 1) (.int 1)), ("NoPart", some 8, 6, .c (.int 2) (.int 2)), ("NoRun", some 8, 6, .ne "index" 3 10), ("ZeroDivisionError", none, 6, .c (.int 4) (.int 4)), ("KeyError", none, 6, .c (.int 5) (.int 5))]
abbrev cs96 : List Str := ["NoBook", "NoCommand", "NoNumber", "NoPart", "NoPath", "NoPen", "NoProcedure", "NoRun", "KeyError", "ZeroDivisionError"]
theorem Kj {S : aJ} {v0 v1 v2 v3 v4 v5 : Option Vl} (hk : k ≠ 0) (h0 : 0 <= k) (h5 : k <= 5) : JW cs96 hs96 (.err (er96 k) [v0, v1, v2, v3, v4, v5, some (.dat (.int 0)), some (.dat .non), none] S) = .next [v0, v1, v2, v3, v4, v5, some (.dat (.int k)), some (.dat .non), none] S := by
 rcases (by omega : k = 1 \/ k = 2 \/ k = 3 \/ k = 4 \/ k = 5) with rfl | rfl | rfl | rfl | rfl <;> rfl
theorem LM {d : Nat} {outer : Bool} (hs : EY r.a0) (h0 : 0 <= k) (h5 : k <= 5) (hd : d <= 2) (ls : LS T) (t0 : mN T 0 "_law_wrapped" "_law_wrapped.<locals>.<lambda>" = true) (t1 : mN T 1 "_law_tried" "_law_tried.<locals>.<lambda>" = true) (h : T[n]? = some (gB dW z)) :
  tT [.cel n, .cel n, .dat r.d, .dat (.int k), .dat (.int (d : Int)), .dat (.bl outer)] T = .ok (.dat (.tup [.int k, sG k r])) (T.set n (gB dW { z with p := r.a0, q := r.b0 }) ++ lW k) := by
 obtain ⟨z', e1, e2, e⟩ := BP hs h0 h5 d (2 - d) ls t0 h;rw [show d + 1 + (2 - d) = 3 by omega] at e
 have ez : ({ z' with x := z.x, y := z.y, u := z.u, v := z.v } : Pen) = { z with p := r.a0, q := r.b0 } := by rw [<- e1, <- e2]
 have kp : ∀ {mb : FE} {ρ : Ev}, aB 0 ρ T = .ok (.cel n) T -> mb (ρ ++ [some (.cel n)]) T = oL k r (T.set n (gB dW z') ++ lW k) -> uE 1 "Live" "_law_tried" "_law_tried.<locals>.<lambda>" (aB 0) mb ρ T = oL k r (T.set n (gB dW { z with p := r.a0, q := r.b0 }) ++ lW k) := fun h1 h2 => by
  rw [JU (r := r) (k := k) (z' := z') (J := lW k) h t1 h1 h2, ez]
 have k1 := kp (mb := bB (cW 3) (aD (aB 1) (aD (aB 2) (aD (aB 3) (aD (aB 4) aL))))) (ρ := [some (.cel n), some (.cel n), some (.dat r.d), some (.dat (.int k)), some (.dat (.int (d : Int))), some (.dat (.bl outer)), some (.dat (.int 0)), some (.dat .non), none]) (by simp! [if_true]) (by
  show bB _ _ [some (.cel n), some (.cel n), some (.dat r.d), some (.dat (.int k)), some (.dat (.int (d : Int))), some (.dat (.bl outer)), some (.dat (.int 0)), some (.dat .non), none, some (.cel n)] T = _
  simp! [e])
 have k2 := kp (mb := bB (cW 3) (aD (aB 9) (aD (aB 2) (aD (aB 3) (aD (aB 4) aL))))) (ρ := [some (.cel n), some (.cel n), some (.dat r.d), some (.dat (.int k)), some (.dat (.int (d : Int))), some (.dat (.bl outer)), some (.dat (.int 0)), some (.dat .non), none]) (by simp! [if_true]) (by
  show bB _ _ [some (.cel n), some (.cel n), some (.dat r.d), some (.dat (.int k)), some (.dat (.int (d : Int))), some (.dat (.bl outer)), some (.dat (.int 0)), some (.dat .non), none, some (.cel n)] T = _
  simp! [e])
 rw [IF]; unfold tW;generalize uE 1 "Live" "_law_tried" "_law_tried.<locals>.<lambda>" (aB 0) (bB (cW 3) (aD (aB 1) (aD (aB 2) (aD (aB 3) (aD (aB 4) aL))))) = K1 at k1 ⊢;generalize uE 1 "Live" "_law_tried" "_law_tried.<locals>.<lambda>" (aB 0) (bB (cW 3) (aD (aB 9) (aD (aB 2) (aD (aB 3) (aD (aB 4) aL))))) = K2 at k2 ⊢;unfold oL at k1 k2;unfold sG
 by_cases hk : k = 0
 ·subst hk
  rw [if_pos rfl] at k1 k2 ⊢;have tr : ∀ ρ S, JW cs96 hs96 (.next ρ S) = .next ρ S := fun _ _ => rfl
  cases outer
  ·simp! [Cp, k1, k2, tr]
   rfl
  ·simp! [Cp, k1, k2, tr]
   rfl
 ·rw [if_neg hk] at k1 k2 ⊢
  have tr := fun (S : aJ) (v0 v1 v2 v3 v4 v5 : Option Vl) => Kj (S := S) (v0 := v0) (v1 := v1) (v2 := v2) (v3 := v3) (v4 := v4) (v5 := v5) hk h0 h5
  cases outer
  ·simp! [Cp, k1, k2, tr]
   rfl
  ·simp! [Cp, k1, k2, tr]
   rfl
end
section
variable {p : Nat} {ks : List Int}
theorem J8 {S : aJ} (hP : PoolAt S p ks) : S.set p (PL ks) = S := by
 apply qJ
 intro i;rw [aP]
 by_cases h : p = i
 ·subst h
  rw [if_pos rfl, if_pos (aH.mp hP.1).1];exact hP.1.symm
 ·rw [if_neg h]
theorem Dj {α : Type} {e : FE} {t : Tg} {f : α -> PH.D} {Q : α -> Prop} {ρ : Ev} (hmd : ∀ (S : aJ) (ks : List Int) (d : PH.D), PoolAt S p ks -> ∃ ρ1, rV t (.dat d) ρ = some ρ1 /\ ∃ (x : α) (ks' : List Int), e ρ1 S = .ok (.dat (f x)) (S.set p (PL ks')) /\ Q x /\ ks'.length = ks.length) : ∀ (ds : List PH.D) (S : aJ) (ks : List Int), PoolAt S p ks ->
  ∃ (xs : List α) (ks' : List Int), mI t gX e ρ ds S = .ok (xs.map f) (S.set p (PL ks')) /\ xs.length = ds.length /\ (∀ x ∈ xs, Q x) /\ ks'.length = ks.length
 | [], S, ks, h => ⟨[], ks, by rw [J8 h]; rfl, rfl, (fun x h => by cases h), rfl⟩
 | d :: r, S, ks, h => by
  obtain ⟨ρ1, h1, x, k1, e1, hx, l1⟩ := hmd S ks d h;obtain ⟨xs, k2, e2, z1, z2, z3⟩ := Dj hmd r _ k1 (h.next l1);rw [bW] at e2;refine ⟨x :: xs, k2, ?_, by simp [z1], fun y hy => ?_, by omega⟩
  ·simp only [mI, h1, gX, e1, e2, if_true]
   rfl
  ·rcases bN.mp hy with rfl | hy
   ·exact hx
   ·exact z2 y hy
theorem GJ {α : Type} {e : FE} {t : Tg} {f : α -> PH.D} {Q : α -> Prop} {ρ : Ev} {vs : List Nat} {S : aJ} (hmd : ∀ (S : aJ) (ks : List Int) (d : PH.D), PoolAt S p ks -> ∃ ρ1, rV t (.dat d) (wipeE ρ vs) = some ρ1 /\ ∃ (x : α) (ks' : List Int), e ρ1 S = .ok (.dat (f x)) (S.set p (PL ks')) /\ Q x /\ ks'.length = ks.length) (hP : PoolAt S p ks) {n : Nat} (hn : n <= 900) :
  ∃ (xs : List α) (ks' : List Int), Cf false t gX e ρ vs (iB 0 n) S = .ok (.dat (.lst (xs.map f))) (S.set p (PL ks')) /\ xs.length = n /\ (∀ x ∈ xs, Q x) /\ ks'.length = ks.length := by
 obtain ⟨xs, k1, e1, z1, z2, z3⟩ := Dj hmd (iB 0 n) S ks hP;have rl : (iB 0 n).length = n := by unfold iB; simp
 refine ⟨xs, k1, ?_, by omega, z2, z3⟩
 unfold Cf;rw [if_pos (by rw [rl]; exact sz (by omega)), e1]
 rfl
end
structure In96 (S : aJ) (ks : List Int) (z : Pen) : Prop where
 pool : PoolAt S 2 ks
 lv : S[3]? = some (gB dW z)
 t0 : mN S 0 "_law_wrapped" "_law_wrapped.<locals>.<lambda>" = true
 t1 : mN S 1 "_law_tried" "_law_tried.<locals>.<lambda>" = true
 ls : LS S
theorem Dt {S : aJ} {n : Nat} {d q : Str} (h : S[n]? = some (.tbl d q)) : mN S n d q = true := by
 unfold mN;rw [h];simp
theorem wK {S S' : aJ} {n : Nat} {d q : Str} (h : S'[n]? = S[n]?) (t : mN S n d q = true) : mN S' n d q = true := by
 unfold mN at t ⊢;rw [h];exact t
theorem In96.draw {S : aJ} {ks ks' : List Int} {z : Pen} (I : In96 S ks z) (l : ks'.length = ks.length) : In96 (S.set 2 (PL ks')) ks' z :=
 ⟨I.pool.next l, by rw [uO (by decide)]; exact I.lv, wK (uO (by decide)) I.t0, wK (uO (by decide)) I.t1, I.ls.set⟩
theorem In96.step {S : aJ} {ks : List Int} {z z' : Pen} {k : Int} (I : In96 S ks z) : In96 (S.set 3 (gB dW z') ++ lW k) ks z' := by
 have h3 := (aH.mp I.lv).1;have at_ : ∀ i, i <= 3 -> (S.set 3 (gB dW z') ++ lW k)[i]? = (S.set 3 (gB dW z'))[i]? := fun i hi => aK (by rw [tX]; omega)
 refine ⟨⟨by rw [at_ 2 (by decide), uO (by decide)]; exact I.pool.1, I.pool.2⟩, by rw [at_ 3 (by decide)]; exact kT I.lv, wK ((at_ 0 (by decide)).trans (uO (by decide))) I.t0, wK ((at_ 1 (by decide)).trans (uO (by decide))) I.t1, fun c hc m => ?_⟩
 rcases BO.mp hc with hc | hc
 ·exact Nq I.ls c hc m
 ·unfold lW at hc
  split at hc
  ·rw [hE.mp hc]; rfl
  ·cases hc
theorem pr96 {S : aJ} {p : Nat} {ks : List Int} {ρ : Ev} (h1 : lk ρ 1 = some (.cel p)) (hP : PoolAt S p ks) : ∃ (x : Int × Int) (ks' : List Int), lX ρ S = .ok (.dat (bH x.1 x.2)) (S.set p (PL ks')) /\ EY x.1 /\ ks'.length = ks.length := by
 obtain ⟨a, k1, e1, s1, l1⟩ := AZ hP;obtain ⟨b, k2, e2, s2, l2⟩ := AZ (hP.next l1);rw [bW] at e2;refine ⟨(a, b), k2, ?_, s1, by omega⟩
 unfold lX;simp! [h1, e1, e2]
theorem OX {i j : Int} : (bH i j).Pl := ⟨by simp, trivial, trivial, trivial⟩
section
variable {S : aJ} {ks : List Int} {z z0 : Pen} {v0 v5 v10 : Option Vl}
theorem OM (I : In96 S ks z) (hz : z.x = z0.x /\ z.y = z0.y /\ z.u = z0.u /\ z.v = z0.v) : ∃ (S' : aJ) (ks' : List Int) (z' : Pen), lJ [v0, some (.cel 2), some (.cel 3), some (.cel 3), some (.dat z0.d), v5, none, none, none, none, v10] S =
  .next [v0, some (.cel 2), some (.cel 3), some (.cel 3), some (.dat z0.d), none, none, none, none, none, v10] S' /\ In96 S' ks' z' /\ z'.x = z0.x /\ z'.y = z0.y /\ z'.u = z0.u /\ z'.v = z0.v := by
 obtain ⟨xs, k1, e1, x4, sm, l1⟩ := GJ (p := 2) (S := S) (ks := ks) (t := .nm 10) (e := lX) (f := fun x : Int × Int => bH x.1 x.2) (Q := fun x => EY x.1) (ρ := [v0, some (.cel 2), some (.cel 3), some (.cel 3), some (.dat z0.d), v5, none, none, none, none, v10]) (vs := [10])
  (fun T k d h => ⟨[v0, some (.cel 2), some (.cel 3), some (.cel 3), some (.dat z0.d), v5, none, none, none, none, some (.dat d)], rfl, pr96 rfl h⟩) I.pool (n := 4) (by decide)
 have I1 := I.draw l1;obtain ⟨r, hr, hs⟩ : ∃ r : R96, PH.D.lst (xs.map fun x : Int × Int => bH x.1 x.2) = r.d /\ EY r.a0 := by
  match xs, x4, sm with
  | [a, b, c, d], _, sm => exact ⟨⟨a.1, a.2, b.1, b.2, c.1, c.2, d.1, d.2⟩, rfl, sm a (aY ..)⟩
 rw [hr] at e1;obtain ⟨kd, k2, e2, h20, h21, l2⟩ := rE I1.pool (k := 6) (by decide) (by decide)
 have I2 := I1.draw l2;obtain ⟨dp, k3, e3, h30, h31, l3⟩ := rE I2.pool (k := 3) (by decide) (by decide)
 have I3 := I2.draw l3;obtain ⟨ot, k4, e4, h40, h41, l4⟩ := rE I3.pool (k := 2) (by decide) (by decide)
 have I4 := I3.draw l4;obtain ⟨dn, rfl⟩ : ∃ dn : Nat, dp = (dn : Int) := ⟨dp.toNat, by omega⟩
 have td := LM (r := r) (k := kd) (d := dn) (outer := decide (ot = 0)) hs h20 (by omega) (by omega) I4.ls I4.t0 I4.t1 I4.lv
 have I5 : In96 _ k4 { z with p := r.a0, q := r.b0 } := I4.step (k := kd)
 generalize hS5 : (((S.set 2 (PL k1)).set 2 (PL k2)).set 2 (PL k3)).set 2 (PL k4) = S4 at *;generalize ((S.set 2 (PL k1)).set 2 (PL k2)).set 2 (PL k3) = S3 at *;generalize (S.set 2 (PL k1)).set 2 (PL k2) = S2 at *;generalize S.set 2 (PL k1) = S1 at *;generalize S4.set 3 (gB dW { z with p := r.a0, q := r.b0 }) ++ lW kd = S5 at *
 have rg4 : ∀ T, zG (.dat (.int 4)) T = .ok (iB 0 4) T := fun T => rfl
 have vp : (sG kd r).Pl := by
  unfold sG;split
  ·exact OX
  ·trivial
 have tp : (PH.D.tup [.int kd, sG kd r]).Pl := ⟨by simp, trivial, vp, trivial⟩
 have th : (PH.D.tup [.int kd, sG kd r]).ht < 20 := by
  unfold sG
  split <;> simp [PH.D.ht, PH.D.hts]
 have sm1 := DT 20 (S := S5) tp (by omega)
 have pr := xZ I5.lv;have sl : ∀ T, BI false (.dat z0.d) none (some 4) T = .ok (.dat (.tup [.int z0.x, .int z0.y, .int z0.u, .int z0.v])) T := fun T => rfl
 have ad : ∀ T, eR false (.dat (.tup [.int z0.x, .int z0.y, .int z0.u, .int z0.v])) (.dat (bH r.a0 r.b0)) T = .ok (.dat (Pen.d { z with p := r.a0, q := r.b0 })) T := fun T => by
  obtain ⟨h1, h2, h3, h4⟩ := hz;rw [<- h1, <- h2, <- h3, <- h4];rfl
 have sm2 := DT 20 (S := S5) (Ez { z with p := r.a0, q := r.b0 }).1 (by rw [(Ez _).2]; decide)
 refine ⟨S5, k4, _, ?_, I5, hz.1, hz.2.1, hz.2.2.1, hz.2.2.2⟩
 unfold lJ
 by_cases hk : kd = 0
 ·have v0' : sG kd r = bH r.a3 r.b3 := by unfold sG; rw [if_pos hk]
  rw [v0'] at sm1 td;subst hk;simp! [rg4, e1, e2, e3, e4, td, r.i3, sm1, pr, sl, r.i0, ad, sm2]
 ·have v0' : sG kd r = .non := by unfold sG; rw [if_neg hk]
  rw [v0'] at sm1 td;simp! [rg4, e1, e2, e3, e4, td, decide_eq_false hk, sm1, pr, sl, r.i0, ad, sm2]
theorem Ft : ∀ (n : Nat) (lo : Int) {S : aJ} {ks : List Int} {z : Pen} {v5 : Option Vl}, In96 S ks z -> (z.x = z0.x /\ z.y = z0.y /\ z.u = z0.u /\ z.v = z0.v) -> ∃ (v5' : Option Vl) (S' : aJ) (ks' : List Int) (z' : Pen), loop (.nm 5) lJ (iB lo n) [v0, some (.cel 2), some (.cel 3), some (.cel 3), some (.dat z0.d), v5, none, none, none, none, v10] S =
  .next [v0, some (.cel 2), some (.cel 3), some (.cel 3), some (.dat z0.d), v5', none, none, none, none, v10] S' /\ In96 S' ks' z'
 | 0, lo, S, ks, z, v5, I, hz => ⟨v5, S, ks, z, rfl, I⟩
 | n + 1, lo, S, ks, z, v5, I, hz => by
  obtain ⟨S1, k1, z1, e1, I1, hz1⟩ := OM (v0 := v0) (v5 := some (.dat (.int lo))) (v10 := v10) I hz;obtain ⟨w, S2, k2, z2, e2, I2⟩ := Ft n (lo + 1) (v5 := none) I1 hz1;refine ⟨w, S2, k2, z2, ?_, I2⟩
  rw [Ew, <- e2];exact Ha (ρ1 := [v0, some (.cel 2), some (.cel 3), some (.cel 3), some (.dat z0.d), some (.dat (.int lo)), none, none, none, none, v10]) rfl e1
end
abbrev nH : List (Str × Str) := [("_law_wrapped", "_law_wrapped.<locals>.<lambda>"), ("_law_tried", "_law_tried.<locals>.<lambda>")]
abbrev home96 : Pen := ⟨0, 0, 1, 0, 0, 0⟩
theorem ls96 {k : List Int} : LS (lK nH ++ [PL k]) := fun c hc m => by
 simp only [lK, nH, aQ, bR, rZ, oC, bN, B9, or_false] at hc;rcases hc with rfl | rfl | rfl <;> rfl
theorem Oo {ρ : Ev} {S : aJ} (ls : LS S) : yD true "Live" dU Az (aD (Ad false "Book" eK (aD (jM false (aD (jM false (aD (cK (aD (mC (.str "mark")) aL)) aL)) aL)) aL)) aL) ρ S = .ok (.cel S.length) (S ++ [gB dW home96]) := by
 have m := (HW (T := S) (b := dW) (v := home96.d) (Ez home96).1 ls).2 home96 rfl;have mk := HX (S := S) ls good96;have mk : Aj false "Book" eK [.dat (.lst [.lst [.tup [.str "mark"]]])] S = .ok (.dat dW) S := mk;have e : yD true "Live" dU Az (aD (Ad false "Book" eK (aD (jM false (aD (jM false (aD (cK (aD (mC (.str "mark")) aL)) aL)) aL)) aL)) aL) ρ S = wI true "Live" dU [.dat dW] (.dat home96.d) S := by
  unfold yD;simp! [mk];rfl
 rw [e, m]
theorem Nt {x : Vl} {k0 : List Int} (hp : nP [x] (lK nH) = .ok (.cel 2) (lK nH ++ [PL k0])) (h2 : 2 <= k0.length) : ∃ S, m_law_k96 [x] (lK nH) = .ok (.dat (.bl true)) S := by
 rw [IE];have lv := fun (ρ : Ev) => Oo (ρ := ρ) (ls96 (k := k0))
 have lv : ∀ ρ : Ev, yD true "Live" dU Az (aD (Ad false "Book" eK (aD (jM false (aD (jM false (aD (cK (aD (mC (.str "mark")) aL)) aL)) aL)) aL)) aL) ρ (lK nH ++ [PL k0]) = .ok (.cel 3) (lK nH ++ [PL k0] ++ [gB dW home96]) := lv;have I0 : In96 (lK nH ++ [PL k0] ++ [gB dW home96]) k0 home96 := ⟨⟨rfl, h2⟩, rfl, Dt rfl, Dt rfl, fun c hc m => by
  rcases BO.mp hc with hc | hc
  ·exact ls96 c hc m
  ·rw [hE.mp hc]; rfl⟩
 generalize lK nH ++ [PL k0] ++ [gB dW home96] = S1 at lv I0;obtain ⟨xs, k1, e1, x6, _, l1⟩ := GJ (p := 2) (S := S1) (ks := k0) (t := .nm 10) (e := bB gL (aD (aB 1) aL)) (f := PH.D.int) (Q := fun _ => True) (ρ := [some x, some (.cel 2), some (.cel 3), some (.cel 3), none, none, none, none, none, none, none]) (vs := [10])
  (fun T k d h => ⟨[some x, some (.cel 2), some (.cel 3), some (.cel 3), none, none, none, none, none, none, some (.dat d)], rfl, by
   obtain ⟨y, k', e, _, l⟩ := AZ h;exact ⟨y, k', by simp! [e], trivial, l⟩⟩) I0.pool (n := 6) (by decide)
 have I1 := I0.draw l1;obtain ⟨z, hz⟩ : ∃ z : Pen, PH.D.tup (xs.map PH.D.int) = z.d := by
  match xs, x6 with
  | [a, b, c, d, e, f], _ => exact ⟨⟨a, b, c, d, e, f⟩, rfl⟩
 have rg6 : ∀ T, zG (.dat (.int 6)) T = .ok (iB 0 6) T := fun T => rfl
 have rg3 : ∀ T, zG (.dat (.int 3)) T = .ok (iB 0 3) T := fun T => rfl
 have tu : ∀ T, fTuple (.dat (.lst (xs.map PH.D.int))) T = .ok (.dat z.d) T := fun T => by rw [Dy, hz]
 have c02 : ∀ T, BI false (.dat z.d) none (some 2) T = .ok (.dat (bH z.x z.y)) T := fun _ => rfl
 have c24 : ∀ T, BI false (.dat z.d) (some 2) (some 4) T = .ok (.dat (bH z.u z.v)) T := fun _ => rfl
 have c46 : ∀ T, BI false (.dat z.d) (some 4) none T = .ok (.dat (bH z.p z.q)) T := fun _ => rfl
 generalize S1.set 2 (PL k1) = S2 at e1 I1;have g1 := Im (i := z.x) (j := z.y) I1.lv;have J1 : In96 _ k1 { home96 with x := z.x, y := z.y } := I1.step (k := 0)
 rw [show lW 0 = [] from rfl, bJ] at J1
 have g2 := Ek (i := z.u) (j := z.v) J1.lv;have J2 : In96 _ k1 { home96 with x := z.x, y := z.y, u := z.u, v := z.v } := J1.step (k := 0)
 rw [show lW 0 = [] from rfl, bJ] at J2
 have g3 := Io (i := z.p) (j := z.q) J2.lv;have J3 : In96 _ k1 z := J2.step (k := 0);rw [show lW 0 = [] from rfl, bJ] at J3
 have s1 : ∀ {ρ : Ev}, mJ "Live" aT ρ (.dat (bH z.x z.y)) (.cel 3) (.dat (.int 0)) S2 = .next ρ (S2.set 3 (gB dW { home96 with x := z.x, y := z.y })) := fun {ρ} => by rw [DM I1.lv, g1]; rfl
 generalize S2.set 3 (gB dW { home96 with x := z.x, y := z.y }) = S3 at *
 have s2 : ∀ {ρ : Ev}, mJ "Live" aT ρ (.dat (bH z.u z.v)) (.cel 3) (.dat (.int 1)) S3 = .next ρ (S3.set 3 (gB dW { home96 with x := z.x, y := z.y, u := z.u, v := z.v })) := fun {ρ} => by rw [DM J1.lv, g2]; rfl
 generalize S3.set 3 (gB dW { home96 with x := z.x, y := z.y, u := z.u, v := z.v }) = S4 at *
 have s3 : ∀ {ρ : Ev}, mJ "Live" aT ρ (.dat (bH z.p z.q)) (.cel 3) (.dat (.int 2)) S4 = .next ρ (S4.set 3 (gB dW z)) := fun {ρ} => by rw [DM J2.lv, g3]; rfl
 generalize S4.set 3 (gB dW z) = S5 at *;obtain ⟨w, S6, k6, z6, e6, I6⟩ := Ft (v0 := some x) (v10 := none) (z0 := z) 3 0 (v5 := none) J3 ⟨rfl, rfl, rfl, rfl⟩;refine ⟨S6.take (lK nH).length, ?_⟩
 unfold qB;simp! [hp, lv, rg6, e1, tu, lS, c02, c24, c46, s1, s2, s3, rg3, e6];have bl : ((S6.take (lK nH).length).all fun c => c.below (lK nH).length) = true := bD.mpr fun c hc => I6.ls c (vK hc) _
 unfold bO trunc;dsimp only;rw [bl];rfl
theorem law_true_k96 : ∀ ns : List Int, ns.length <= 63 -> ∀ x, x = Vl.scr ns \/ x = .dat (.lst (ns.map PH.D.int)) -> ∃ S, m_law_k96 [x] (lK nH) = .ok (.dat (.bl true)) S := by
 intro ns hn x hx;rcases hx with rfl | rfl
 ·obtain ⟨k0, e0, h0⟩ := Li (S := lK nH) hn
  exact Nt e0 h0
 ·obtain ⟨k0, e0, h0⟩ := OW (S := lK nH) hn
  exact Nt e0 h0
end PH
open PySem PySem.W PySem.Calls PyProof.Rows
set_option maxHeartbeats 0 in
theorem PySem.Challenge.cw_penhome_k96_kept_whatever_happens_holds : PySem.Challenge.rw_penhome_k96_kept_whatever_happens.Holds := by
 w_on; o_law
 refine HandSHeadRun.head_any (r := OpenLaw.row PySem.Challenge.rw_penhome_k96_kept_whatever_happens) (q := view (OpenLaw.row PySem.Challenge.rw_penhome_k96_kept_whatever_happens).prog [53]) (H := PHZ.hk) (ob := PHZ.ob) (M := 8000) (loose := PHZ.loose) (d := HandSHeadRun.topDef (OpenLaw.row PySem.Challenge.rw_penhome_k96_kept_whatever_happens).prog 53) (kwd := []) PHZ.ob_eq
  (by kernel_rfl) (fun s => by kernel_rfl) PHZ.run_ (by kernel_rfl) (by kernel_rfl) (by kernel_rfl) (by rfl) (by first | assumption | decide +kernel) (by decide +kernel) ⟨rfl, rfl, rfl, rfl, rfl, by decide +kernel⟩ ?hw ?hc
 case hw => w_witness2
 case hc =>
  refine PH.walk_xT (l := PySem.Challenge.rw_penhome_k96_kept_whatever_happens) (n := 63) (k := 43) (x := "_law_script") rfl (by decide) (by kernel_rfl) ⟨rfl, by decide, by decide⟩ ?F
  intro w mg fa h Y G hmg0;obtain ⟨K, KX, c⟩ := Y;have hmg : mg ("law" : PySem.Str) = some (.ref fa) := by
   have e : (HandSHeadRun.topDef (OpenLaw.row PySem.Challenge.rw_penhome_k96_kept_whatever_happens).prog 53).name = ("law" : PySem.Str) := by kernel_rfl
   rw [<- e];exact hmg0
  have T := PHZ.txt (w := w) KX G c;have e := hmg.symm.trans T.G_law_k96;cases e;obtain ⟨fd, b, F⟩ := PHZ.law_fn (P := (PySem.Challenge.rw_penhome_k96_kept_whatever_happens).prog) T;exact ⟨K, fd, PH.spF K PH.m_law_k96, PHZ.tfs, KX, c.tab, fun s v => b s [v] rfl, fun H a ns hl hT hS => PH.law_startT (ds := PHZ.tds) PH.law_true_k96 T.tnd H a ns hl (fun d hd => hT d.1 (kX.mpr ⟨d, hd, rfl⟩)) hS, fun base _ _ => F base⟩
