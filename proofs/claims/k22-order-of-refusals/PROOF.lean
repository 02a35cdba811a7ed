import PyProof.Rows.All
import Wide.All
import OpenK.AllK
import Wide.FinOn
import KE.KStateDown
import Lean
import HandS.ForMost
import HandS.ForExc
import HandS.More
import HandS.Flow
import HandS.IsInst
import HandS.Defaults
import HandS.Head0
import HandS.Head1
import HandS.Head2
import HandS.HeadEnd
import HandS.HeadHook1
import HandS.HeadHook2
import HandS.HeadHook3
import HandS.TupAny
import HandS.Star
import HandS.Wide
import HandS.Zip
import HandS.Rev
import HandS.TryMany
import HandS.Small
import HandS.RaiseMore
import HandS.OwnEq
import HandS.Walk
import HandS.Deep
import HandS.ExcInit
import HandS.ExcField
import HandS.RevRange
import HandS.SortInts
import KE.GoesMore
import HandS.CallSlots
import PyProof.Rows.NestShow
import HandS.Dict
import HandS.Style
import HandS.Text
import HandS.FStr
import HandS.StrMore
import HandS.SetFor
import PyProof.InstNe
import HandS.ReplaceLit
import KE.SortKeyHeap
import HandS.ExcValue
import HandS.SortKw
import HandS.SetKeys
import HandS.WordsDict
import HandS.Conv
import HandS.DictComp
import HandS.Iter
import HandS.TupLen
import HandS.GenList
import HandS.IterNext
import HandS.DictSub
import HandS.GenOver
import PyProof.ReprLen
import PyProof.StrLawsRepr
import PySem.Challenge.RW_penhome_k22_order_of_refusals_of_runs
set_option Elab.async false
set_option linter.all false
set_option maxRecDepth 100000
set_option maxHeartbeats 4000000
open PySem.W renaming Frag → aD, fnOf → dH, keepIn → iN, findIn → iO, nsIn → kY, typeIn → nU, view → nV, subIn → pP, callWith_K0 → zQ, callWith_K → AB, SharedT → DH, exmOne → Eu, cellsFrom_some → Hm, methodCall_KW → Ju, callWith_KW → LA, codeRec_of → MS, boot_heap → Nv, openGood → Nz
open And renaming intro → aF
open List renaming getElem?_eq_some_iff → aH, getElem?_append_left → aJ, length_cons → aK, mem_cons_of_mem → aM, map_cons → aN, length_map → aP, getElem?_set → aT, mem_cons_self → aV, range → aX, mem_cons → aY, getElem?_append_right → bC, set_cons_zero → bD, length_nil → bF, mem_singleton → bI, getD_eq_getElem?_getD → bK, map_nil → bL, length_append → bP, mem_of_getElem? → bS, nil_append → bT, all_eq_true → bV, cons_append → bW, set_cons_succ → bZ, replicate → cD, getElem?_eq_getElem → cG, getElem?_eq_none → cJ, getElem?_map → cL, map_append → cU, length_take → cX, append_nil → cY, mem_append → dD, not_mem_nil → dE, append_assoc → dG, set_append_right → dN, mem_range → eR, getElem?_take → fG, lookup_cons → fH, range' → fO, getElem?_cons_succ → fU, ext_getElem? → fV, set_set → gI, drop_eq_getElem_cons → iB, map_congr_left → iQ, map_map → jP, mem_of_mem_take → lE, dropLast_concat → lF, mem_or_eq_of_mem_set → lR, getElem?_eq_none_iff → lT, getElem?_range → mE, getElem?_take_of_lt → mP, filter_cons_of_pos → nW, filter_cons_of_neg → nX, mem_map → oI, drop_length → pX, getElem_mem → pY, length_drop → pZ, mem_append_left → qS, zip_cons_cons → tZ, getLast?_cons → uA, size_toArray → uV, all_cons → wA, take_of_length_le → yI, getElem?_set_ne → A9, any_cons → BY, map_take → Ba, mem_filterMap → CM, pairwise_cons → CN, length → Ew, find?_eq_some_iff_append → Ey, range_succ → FL, mem_filter → FM, map_drop → Jw, getElem?_cons_zero → K0, getElem?_set_self → LB, drop_eq_nil_of_le → LC, dropLast_eq_take → MQ, length_singleton → MU, forall_mem_cons → Nw, mem_map_of_mem → O0
open Nat renaming le_trans → bY, le_refl → cE, zero_le → gL, zero_add → lQ, le_of_not_lt → wU, le_add_right → wV, le_of_lt → zD, lt_succ_self → Ex, min_eq_left → Ga, ne_of_lt → MR, ne_of_gt → MT
open Bool renaming false_ne_true → gP, and_eq_true → jE, and_true → BZ, false_eq_true → CL, and_false → Hk, or_false → Jv
open Int renaming emod_nonneg → iD, emod_lt_of_pos → jZ, toNat_natCast → kU, mul_zero → tK, mul_comm → DI
open Or renaming inr → Cr, inl → FK
namespace PH
open PySem PySem.Spec PyProof.Rows L2
abbrev veL : List Value := [.type "ValueError", .type "Exception", .type "BaseException", .type "object"]
def xcB (K : aD) (x : Str) : Bool := PySem.W.excIn K (He.ga K x) veL "ValueError.__new__" && (iN K (.ref (He.ga K x)) && (decide (pP K (.ref (He.ga K x)) (.type "BaseException") = some true) && decide (nU K (.ref (He.ga K x)) = some (.type "type"))))
def pW : Stmt -> List Stmt
 | .ClassDef _ _ _ b _ _ _ _ _ _ _ => b
 | _ => []
def xmB (K : aD) (cs : List Str) : Bool := cs.all fun c => cs.all fun d => decide (Eu K (.ref (He.ga K c)) (.ref (He.ga K d)) = some (decide (c = d)))
def limits : List (Str × Nat × Int × Int) := [("go", 1, -9, 9), ("turn", 1, 1, 3), ("mirror", 0, 0, 0), ("scale", 1, -3, 3), ("aim", 2, -9, 9), ("place", 2, -9, 9), ("mark", 0, 0, 0), ("return", 0, 0, 0), ("exchange", 0, 0, 0)]
def Iq (K : aD) (z : Str) : Addr := match kY K (He.ga K "LIMITS") z with
 | some (some (.ref a)) => a
 | _ => 0
def K2 (K : aD) (a : Addr) (vs : List V) : Bool := match K.lookup a with
 | some ⟨.type c, _, .seq its _, _⟩ => decide (c = "tuple") && (decide (its.size <= sizeLine) && He.relAll vs its.toList)
 | _ => false
def limB (K : aD) : Bool := limits.all fun q => He.eqO (kY K (He.ga K "LIMITS") q.1) (some (some (.ref (Iq K q.1)))) && K2 K (Iq K q.1) [.int (q.2.1 : Nat), .int q.2.2.1, .int q.2.2.2]
def KN : He.Tab := (fun K => He.ga K "LIMITS", limits.map (·.1))
def V8 (K : aD) (C : Addr) : Bool := match K.lookup C with
 | some ⟨.type "type", _, .cls cd, sl⟩ => (match cd.mro, sl.toList with
  | .ref C' :: bm, [_, _, _, _, some (.builtin n), _] => C' == C && n == "ValueError.__new__" && !cd.hasDel && cd.hasDict && PySem.HandSPX.refsVE bm
  | _, _ => false)
 | _ => false
def xaB (K : aD) (x : Str) (fs : List Str) : Bool := V8 K (He.ga K x) && (decide (iO K (.ref (He.ga K x)) "__setattr__" = some (some (.builtin "object.__setattr__"))) && (decide (pP K (.ref (He.ga K x)) (.type "BaseException") = some true) && (decide (nU K (.ref (He.ga K x)) = some (.type "type")) && (iN K (.ref (He.ga K x)) && (decide (iO K (.ref (He.ga K x)) "__init__" = some (some (.ref (He.ma K (He.ga K x) "__init__")))) && (decide (nU K (.ref (He.ma K (He.ga K x) "__init__")) = some (.type "function")) && (xfB K (He.ga K x) && fs.all fun f => decide (iO K (.ref (He.ga K x)) f = some none))))))))
section
variable {X : Cx} {W : WX} {e a : Expr} {es : List Expr} {rest iM : List Stmt} {st : Stmt} {pos p yp : Pos} {x kw : Str} {K : aD} {ma me : FE} {mas : FA} {B : Addr -> Prop} {φ φ' : List Addr} {S S' : aO} {H H' : Hp} {σ : L2.St} {Q : TQ} {m : FS} {n : L5} {D : Ends} {EX : XK}
def nsB (K : aD) (cs : List Str) : Bool := cs.all fun c => decide (pP K (.ref (He.ga K c)) (.type "StopIteration") = some false)
end
end PH
namespace PH
open PySem PySem.Spec PyProof PyProof.Rows L2
def frR (g : Addr -> Option Obj) (n : Nat) : aD := He.frG g (aX n)
def VA (n : Nat) (fa : List He.Fa) (fn : List He.DefD) (ts : List He.Tab) (ex : aD -> Bool) (g : Addr -> Option Obj) : He.AlT × Bool := (He.obsT fa fn ts (frR g n), ex (frR g n))
def UU (n : Nat) (fa : List He.Fa) (fn : List He.DefD) (ts : List He.Tab) (ex : aD -> Bool) : PySem.W.Hook where
 α := He.AlT × Bool
 obs := fun s => VA n fa fn ts ex s.heap.get?
 val := fun w => (He.valT fn ts w, true)
 says := fun w h => ∃ K : aD, K.In h /\ He.SaysT fa fn ts w K /\ ex K = true
 of := fun _ _ e => ⟨_, He.frG_in, congrArg (fun z : He.AlT × Bool => z.1) e, congrArg (fun z : He.AlT × Bool => z.2) e⟩
 keeps := fun _ _ _ ⟨K, hK, c⟩ k => ⟨K, PySem.W.Frag.In.keeps hK k, c⟩
def obC (c : List He.DefD) (K : aD) : Bool × List He.FnW := (c.all fun d => d.ok K, c.map fun d => He.fnW K d.at_)
theorem Ff {σ β γ : Type} {o : Option σ} {l : σ -> β} {b : β} {sn : σ -> γ} {c : γ} {K : σ -> aD} {fa : List He.Fa} {fs : List (List He.DefD)} {ts : List He.Tab} {ex : aD -> Bool} {tv : List (Option (List (Option (Str × Int))))}
  (hA : (o.map fun s => (l s, sn s, fa.all fun f => f.ok (K s), ts.map fun t => He.dicW (K s) (t.1 (K s)), ex (K s))) = some (b, c, true, tv, true))
  (hD : ∀ f ∈ fs, (o.map fun s => obC f (K s)) = some (true, f.map He.DefD.val)) :
  (o.map fun s => (l s, sn s, (He.obsT fa fs.flatten ts (K s), ex (K s)))) = some (b, c, ((true, fs.flatten.map He.DefD.val), tv), true) := by
 cases o with
 | none => cases hA
 | some s =>
  have hA := Option.some.inj hA;have h1 := congrArg (fun z => z.1) hA
  have h2 := congrArg (fun z => z.2.1) hA
  have h3 := congrArg (fun z => z.2.2.1) hA
  have h4 := congrArg (fun z => z.2.2.2.1) hA
  have h5 := congrArg (fun z => z.2.2.2.2) hA
  dsimp only at h1 h2 h3 h4 h5;have hf : ∀ f ∈ fs, (f.all fun d => d.ok (K s)) = true /\ (f.map fun d => He.fnW (K s) d.at_) = f.map He.DefD.val := fun f hf => by
   have z := Option.some.inj (hD f hf);exact ⟨congrArg (fun z => z.1) z, congrArg (fun z => z.2) z⟩
  have hall : (fs.flatten.all fun d => d.ok (K s)) = true := by
   rw [bV];intro d hd;obtain ⟨f, h1, h2⟩ := List.mem_flatten.mp hd;exact bV.mp (hf f h1).1 d h2
  have hmap : (fs.flatten.map fun d => He.fnW (K s) d.at_) = fs.flatten.map He.DefD.val := by
   rw [List.map_flatten, List.map_flatten]
   congr 1
   exact iQ fun f h => (hf f h).2
  show some (l s, sn s, ((((fa.all fun f => f.ok (K s)) && (fs.flatten.all fun d => d.ok (K s)), fs.flatten.map fun d => He.fnW (K s) d.at_), ts.map fun t => He.dicW (K s) (t.1 (K s))), ex (K s))) = _
  rw [h1, h2, h3, h4, h5, hall, hmap];rfl
def sM (n : Str) (s : Stmt) : He.DefD := ⟨(n, none), n, n, defArgs s, defBody s, defScope s, [], []⟩
end PH
namespace PHZ
open PH PySem PySem.Spec PyProof.Rows L2
def top (i : Nat) : Stmt := PySem.Challenge.pw_penhome_k22_order_of_refusals_of_runs.main.body.getD i (.Pass ⟨0, 0, 0, 0⟩)
abbrev uX : Stmt := top 12
abbrev De : Stmt := top 13
abbrev AO : Stmt := top 14
abbrev qF : Stmt := top 15
abbrev zX : Stmt := top 16
abbrev xD : Stmt := top 22
abbrev tL : Stmt := top 23
abbrev mU : Stmt := top 25
abbrev iR : Stmt := top 24
abbrev tM : Stmt := top 26
abbrev tO : Stmt := top 27
abbrev mG : Stmt := (pW (top 29)).getD 0 (.Pass ⟨0, 0, 0, 0⟩)
abbrev rF : Stmt := (pW (top 29)).getD 1 (.Pass ⟨0, 0, 0, 0⟩)
abbrev jM : Stmt := (pW (top 29)).getD 6 (.Pass ⟨0, 0, 0, 0⟩)
abbrev pS : Stmt := top 30
abbrev uY : Stmt := top 32
abbrev mF : Stmt := top 33
abbrev uZ : Stmt := top 34
abbrev oJ : Stmt := top 35
abbrev gB : Stmt := (pW (top 37)).getD 0 (.Pass ⟨0, 0, 0, 0⟩)
abbrev iF : Stmt := (pW (top 37)).getD 1 (.Pass ⟨0, 0, 0, 0⟩)
abbrev gV : Stmt := (pW (top 37)).getD 2 (.Pass ⟨0, 0, 0, 0⟩)
abbrev gU : Stmt := (pW (top 37)).getD 3 (.Pass ⟨0, 0, 0, 0⟩)
abbrev gE : Stmt := (pW (top 37)).getD 4 (.Pass ⟨0, 0, 0, 0⟩)
abbrev gW : Stmt := (pW (top 37)).getD 5 (.Pass ⟨0, 0, 0, 0⟩)
abbrev iG : Stmt := (pW (top 37)).getD 6 (.Pass ⟨0, 0, 0, 0⟩)
abbrev rC : Stmt := top 38
abbrev tN : Stmt := top 39
abbrev Fc : Stmt := top 40
abbrev uW : Stmt := top 42
abbrev AR : Stmt := top 44
abbrev Dj : Stmt := top 45
abbrev zY : Stmt := top 46
abbrev Cv : Stmt := top 47
abbrev Di : Stmt := top 48
abbrev Cw : Stmt := top 49
abbrev uD : Stmt := top 62
abbrev Cu : Stmt := top 50
abbrev AU : Stmt := top 51
abbrev Dh : Stmt := top 52
abbrev pT : Stmt := top 53
abbrev Gn : Stmt := top 54
abbrev sQ : Stmt := top 55
abbrev vE : Stmt := top 56
abbrev Df : Stmt := top 57
abbrev AS : Stmt := top 58
abbrev vD : Stmt := top 59
abbrev AQ : Stmt := top 60
abbrev sP : Stmt := top 61
abbrev Dg : Stmt := top 64
abbrev rD : Stmt := top 63
abbrev tP : Stmt := top 65
abbrev Bo : Stmt := top 66
abbrev qT : Stmt := top 41
abbrev vC : Stmt := top 67
abbrev mV : Stmt := top 68
abbrev xE : Stmt := top 69
abbrev yR : Stmt := top 70
abbrev uB : Stmt := (pW (top 5)).getD 0 (.Pass ⟨0, 0, 0, 0⟩)
abbrev xB : Stmt := (pW (top 8)).getD 0 (.Pass ⟨0, 0, 0, 0⟩)
def zM : He.DefD := sM "is_integer" uX
def GG : He.DefD := sM "is_bit" De
def GF : He.DefD := sM "is_pen" AO
def zN : He.DefD := sM "is_command" qF
def Ca : He.DefD := sM "executed" zX
def B6 : He.DefD := sM "blocks_of" xD
def yA : He.DefD := sM "with_blocks" tL
def wK : He.DefD := sM "copied_block" mU
def qD : He.DefD := sM "copied_statement" iR
def yB : He.DefD := sM "well_formed" tM
def yE : He.DefD := sM "first_fault" tO
def BB : He.DefD := ⟨("Book", some "__init__"), "__init__", "Book.__init__", defArgs mG, defBody mG, defScope mG, [], []⟩
def Cf : He.DefD := ⟨("Book", some "__len__"), "__len__", "Book.__len__", defArgs rF, defBody rF, defScope rF, [], []⟩
def yG : He.DefD := ⟨("Book", some "bodies"), "bodies", "Book.bodies", defArgs jM, defBody jM, defScope jM, [], []⟩
def uL : He.DefD := sM "has_procedure" pS
def CZ : He.DefD := sM "identity" uY
def B5 : He.DefD := sM "matrix_of" mF
def Cb : He.DefD := sM "composed" uZ
def yD : He.DefD := sM "kept_matrix" oJ
def tA : He.DefD := ⟨("Execution", some "__init__"), "__init__", "Execution.__init__", defArgs gB, defBody gB, defScope gB, [], []⟩
def sY : He.DefD := ⟨("Execution", some "take"), "take", "Execution.take", defArgs iF, defBody iF, defScope iF, [], []⟩
def sH : He.DefD := ⟨("Execution", some "enter"), "enter", "Execution.enter", defArgs gV, defBody gV, defScope gV, [], []⟩
def sG : He.DefD := ⟨("Execution", some "leave"), "leave", "Execution.leave", defArgs gU, defBody gU, defScope gU, [], []⟩
def qE : He.DefD := ⟨("Execution", some "unwind"), "unwind", "Execution.unwind", defArgs gE, defBody gE, defScope gE, [], []⟩
def sJ : He.DefD := ⟨("Execution", some "begin"), "begin", "Execution.begin", defArgs gW, defBody gW, defScope gW, [], []⟩
def sZ : He.DefD := ⟨("Execution", some "step"), "step", "Execution.step", defArgs iG, defBody iG, defScope iG, [], []⟩
def wJ : He.DefD := sM "executed_run" rC
def yC : He.DefD := sM "pens_behind" tN
def Qc : He.DefD := ⟨("ran", none), "ran", "ran", defArgs Fc, defBody Fc, defScope Fc, [], [("pen", .glo "HOME")]⟩
def zL : He.DefD := sM "run_matrix" uW
def GN : He.DefD := sM "_law_pool" AR
def GQ : He.DefD := sM "_law_draw" Dj
def Cc : He.DefD := sM "_law_number" zY
def Je : He.DefD := sM "_law_pen" Cv
def GP : He.DefD := sM "_law_move" Di
def Jg : He.DefD := sM "_law_bit" Cw
def GL : He.DefD := sM "_law_task" uD
def Jd : He.DefD := sM "_law_run" Cu
def GU : He.DefD := sM "_law_bits" AU
def GO : He.DefD := sM "_law_pens" Dh
def uM : He.DefD := sM "_law_any_command" pT
def Jf : He.DefD := sM "_law_odd" Gn
def BA : He.DefD := sM "_law_bad_pen" sQ
def Ce : He.DefD := sM "_law_blocks" vE
def GH : He.DefD := sM "_law_with" Df
def GT : He.DefD := sM "_law_copy" AS
def Cd : He.DefD := sM "_law_copies" vD
def GM : He.DefD := sM "_law_same" AQ
def B7 : He.DefD := sM "_law_steered" sP
def GJ : He.DefD := sM "_law_tiny" Dg
def wL : He.DefD := sM "_law_tiny_block" rD
def yF : He.DefD := sM "_law_tiny_book" tP
def Ed : He.DefD := sM "_law_ran" Bo
def Eb : He.DefD := ⟨("trace", none), "trace", "trace", defArgs qT, defBody qT, defScope qT, [], [("pen", .glo "HOME")]⟩
def zO : He.DefD := sM "_law_traced" vC
def sF : He.DefD := sM "_law_matrix_told" mV
def B9 : He.DefD := sM "_law_right" xE
def Ec : He.DefD := sM "law" yR
def Ea : He.DefD := ⟨("NoBook", some "__init__"), "__init__", "NoBook.__init__", defArgs uB, defBody uB, defScope uB, [], []⟩
def GE : He.DefD := ⟨("NoRun", some "__init__"), "__init__", "NoRun.__init__", defArgs xB, defBody xB, defScope xB, [], []⟩
def fa : List He.Fa := ([.free "isinstance", .free "int", .free "bool", .free "tuple", .free "len", .free "all", .free "str", .glo "LIMITS", .free "range", .int "DEEPEST" 3, .free "list", .free "enumerate", .int "MOST_IN_LIST" 8, .int "MOST_IN_PROCEDURE" 12, .int "MOST_PROCEDURES" 3, .glo "NoBook", .cls "Book", .noat "Book" "own", .glo "NoCommand", .free "zip"] : List He.Fa) ++ ([.cls "Execution", .noat "Execution" "own", .noat "Execution" "bits", .noat "Execution" "taken", .noat "Execution" "deeds", .noat "Execution" "stack", .noat "Execution" "active", .noat "Execution" "ended", .glo "NoRun", .glo "NoProcedure", .cls "Execution", .mkr "Execution", .glo "Execution", .glo "NoPen", .glo "NoPen", .glo "NoProcedure", .cls "Book", .mkr "Book", .glo "Book", .glo "is_integer"] : List He.Fa) ++ ([.glo "is_bit", .glo "is_pen", .glo "is_command", .glo "executed", .glo "blocks_of", .glo "with_blocks", .glo "copied_block", .glo "copied_statement", .glo "well_formed", .glo "first_fault", .meth "Book" "__init__", .meth "Book" "__len__", .meth "Book" "bodies", .glo "has_procedure", .glo "identity", .glo "matrix_of", .glo "composed", .glo "kept_matrix", .meth "Execution" "__init__", .meth "Execution" "take"] : List He.Fa) ++ ([.meth "Execution" "enter", .meth "Execution" "leave", .meth "Execution" "unwind", .meth "Execution" "begin", .meth "Execution" "step", .glo "executed_run", .glo "pens_behind", .glo "ran", .glo "run_matrix", .glo "_law_pool", .glo "_law_draw", .glo "_law_number", .glo "_law_pen", .glo "_law_move", .glo "_law_bit", .glo "_law_task", .glo "_law_run", .glo "_law_bits", .glo "_law_pens", .glo "_law_any_command"] : List He.Fa) ++ ([.glo "_law_odd", .glo "_law_bad_pen", .glo "_law_blocks", .glo "_law_with", .glo "_law_copy", .glo "_law_copies", .glo "_law_same", .glo "_law_steered", .glo "_law_tiny", .glo "_law_tiny_block", .glo "_law_tiny_book", .glo "_law_ran", .glo "trace", .glo "_law_traced", .glo "_law_matrix_told", .glo "_law_right", .glo "law"] : List He.Fa)
def fn0 : List He.DefD := [Ea, GE, zM, GG, GF, zN, Ca, B6, yA, wK, qD, yB, yE, BB, Cf, yG, uL, CZ, B5, Cb, yD, tA, sY, sH, sG, qE, sJ, sZ, wJ, yC, Qc, zL, GN, GQ, Cc, Je, GP, Jg, GL, Jd, GU, GO, uM, Jf, BA, Ce, GH, GT, Cd, GM, B7, GJ, wL, yF, Ed, Eb, zO, sF, B9, Ec]
def fns : List (List He.DefD) := [fn0]
def fn : List He.DefD := fns.flatten
def ts : List He.Tab := [KN]
def exs (K : aD) : List Bool := [limB K, xaB K "NoBook" ["procedure", "path"], xcB K "NoCommand", xaB K "NoRun" ["index"], xcB K "NoProcedure", xcB K "NoPen", xmB K ["NoBook", "NoCommand", "NoPath", "NoPen", "NoProcedure", "NoRun"], nsB K ["NoBook", "NoCommand", "NoPath", "NoPen", "NoProcedure", "NoRun"]]
def ex (K : aD) : Bool := (exs K).all id
def loose : List Str := (["_wall", "HomeError", "NoPen", "NoCommand", "NoBook", "NoProcedure", "NoPath", "NoRun", "HOME", "LIMITS", "is_integer", "is_bit", "is_pen", "is_command", "executed", "MOST_PROCEDURES", "MOST_IN_LIST", "MOST_IN_PROCEDURE", "DEEPEST", "blocks_of", "with_blocks", "copied_statement", "copied_block", "well_formed", "first_fault", "statement_at", "Book", "has_procedure", "identity", "matrix_of"] : List Str) ++ (["composed", "kept_matrix", "Execution", "executed_run", "pens_behind", "ran", "trace", "run_matrix", "_law_pool", "_law_draw", "_law_number", "_law_pen", "_law_move", "_law_bit", "_law_run", "_law_bits", "_law_pens", "_law_any_command", "_law_odd", "_law_bad_pen", "_law_blocks", "_law_with", "_law_copy", "_law_copies", "_law_same", "_law_steered", "_law_task", "_law_tiny_block", "_law_tiny", "_law_tiny_book"] : List Str) ++ (["_law_ran", "_law_traced", "_law_matrix_told", "_law_right"] : List Str)
abbrev R : PySem.W.OpenRow := PySem.W.OpenLaw.row PySem.Challenge.rw_penhome_k22_order_of_refusals_of_runs
abbrev hk : PySem.W.Hook := UU 1200 fa fn ts ex
def ob (s : DH) : He.AlT × Bool := VA 1200 fa fn ts ex (HandSHeadRun.getT s)
abbrev Qx (w : World) : Prop := HandSHeadRun.RunEq R (nV R.prog [70]) hk ob 8000 loose w
noncomputable abbrev TZ (w : World) (os : OsState) := HandSHeadRun.endF (HandSHeadRun.stepQ (HandSHeadRun.denQ HandSHeadRun.tabQ) R.prog w) 8000 R.prog w os
abbrev RF (s : DH) : aD := frR (HandSHeadRun.getT s) 1200
set_option maxHeartbeats 0 in
theorem Rj (w : World) : ∀ os : OsState, (TZ (w.withFollow "special-get-raises" false) os).map (fun s => (HandSHeadRun.looksF R.prog (Nv (w.withFollow "special-get-raises" false).params) s.abs, HandSHeadRun.seenQ (nV R.prog [70]) loose (PySem.importedModules R.prog.main.body) (fun s => PySem.W.xlAt (nV R.prog [70]) [] s && PySem.W.recOk R.toRowW.records s) s.abs, fa.all fun f => f.ok (RF s), ts.map fun t => He.dicW (RF s) (t.1 (RF s)), ex (RF s))) = some (true, Nz (nV R.prog [70]) loose, true, ts.map (fun t => some (He.keysIn (w.withFollow "special-get-raises" false).params t.2)), true) := by
 intro os
 kernel_rfl
set_option maxHeartbeats 0 in
theorem Rk (w : World) : ∀ os : OsState, (TZ (w.withFollow "special-get-raises" false) os).map (fun s => obC fn0 (RF s)) = some (true, fn0.map He.DefD.val) := by
 intro os
 kernel_rfl
theorem run_f (w : World) : Qx (w.withFollow "special-get-raises" false) := fun os => Ff (fs := fns) (Rj w os) (Nw.mpr ⟨Rk w os, fun f hf => nomatch hf⟩)
set_option maxHeartbeats 0 in
theorem Rg (w : World) : ∀ os : OsState, (TZ (w.withFollow "special-get-raises" true) os).map (fun s => (HandSHeadRun.looksF R.prog (Nv (w.withFollow "special-get-raises" true).params) s.abs, HandSHeadRun.seenQ (nV R.prog [70]) loose (PySem.importedModules R.prog.main.body) (fun s => PySem.W.xlAt (nV R.prog [70]) [] s && PySem.W.recOk R.toRowW.records s) s.abs, fa.all fun f => f.ok (RF s), ts.map fun t => He.dicW (RF s) (t.1 (RF s)), ex (RF s))) = some (true, Nz (nV R.prog [70]) loose, true, ts.map (fun t => some (He.keysIn (w.withFollow "special-get-raises" true).params t.2)), true) := by
 intro os
 kernel_rfl
set_option maxHeartbeats 0 in
theorem Rh (w : World) : ∀ os : OsState, (TZ (w.withFollow "special-get-raises" true) os).map (fun s => obC fn0 (RF s)) = some (true, fn0.map He.DefD.val) := by
 intro os
 kernel_rfl
theorem run_t (w : World) : Qx (w.withFollow "special-get-raises" true) := fun os => Ff (fs := fns) (Rg w os) (Nw.mpr ⟨Rh w os, fun f hf => nomatch hf⟩)
theorem run_ (w : World) : Qx w := PySem.W.byRow2 "special-get-raises" run_f run_t w
end PHZ
namespace PH
open PySem PySem.Spec PyProof.Rows L2
section
variable {X : Cx}
theorem dM {e : Expr} {t u : TE} (h : PE X e t) (i : ∀ σ H Q, u σ H Q -> t σ H Q) : PE X e u := ⟨fun pins s σ H Q I q => h.run pins s σ H Q I (i σ H Q q)⟩
theorem En {e : Expr} {t u : TT} (h : PT X e t) (i : ∀ σ H Q, u σ H Q -> t σ H Q) : PT X e u := ⟨fun pins s σ H Q I q => h.run pins s σ H Q I (i σ H Q q)⟩
theorem jD {f : Value -> Value -> Sem Value} {r u : R2} (h : OpR X f r) (i : ∀ x y H Q, u x y H Q -> r x y H Q) : OpR X f u := fun pins s σ H x y v w Q I rx ry q => h pins s σ H x y v w Q I rx ry (i x y H Q q)
theorem oH {f : Value} {r u : List V -> Hp -> VK -> Prop} (h : CallR X f r) (i : ∀ xs H Q, u xs H Q -> r xs H Q) : CallR X f u := fun pins s σ H xs us Q I rx q => h pins s σ H xs us Q I rx (i xs H Q q)
theorem MO {r u : R2} (h : IxR X r) (i : ∀ x y H Q, u x y H Q -> r x y H Q) : IxR X u := fun e1 e2 pins s σ H x y v w Q I rx ry q => h e1 e2 pins s σ H x y v w Q I rx ry (i x y H Q q)
def sl : L2.St -> Nat -> Option V
 | [], _ => none
 | x :: _, 0 => x
 | _ :: r, n + 1 => sl r n
theorem U7 : ∀ {σ : L2.St} {i : Nat} {v : V}, sl σ i = some v -> σ[i]? = some (some v)
 | [], _, _, h => by cases h
 | x :: _, 0, v, h => by
  have e : x = some v := h;rw [e]; rfl
 | _ :: r, n + 1, v, h => by
  have e := U7 (σ := r) (i := n) (v := v) h
  simpa using e
def uO (i : Nat) : TE := fun σ H Q => match sl σ i with
 | some v => Q v H
 | none => False
theorem cv (i : Nat) {x : Str} {pos : Pos} (hN : X.N[i]? = some x := by rfl) (hv : Vis X.env.scope x := by first | exact FK rfl | exact Cr (FK rfl) | exact Cr (Cr rfl)) (hd : (x == ("__debug__" : Str)) = false := by decide)
  (hcd : (x == ("__classdict__" : Str)) = false := by decide) : PE X (.Name x pos) (uO i) := dM (pe_var hN hv hd hcd) fun σ H Q h => by
 unfold uO at h;cases e : sl σ i with
 | none => rw [e] at h; exact h.elim
 | some v => rw [e] at h; exact ⟨v, U7 e, h⟩
def cI0 (g : Int -> Int -> V) : R2 := fun x y H Q => match x, y with
 | .int i, .int j => Q (g i j) H
 | _, _ => False
def cI (C : Int -> Int -> Prop) (g : Int -> Int -> V) : R2 := fun x y H Q => match x, y with
 | .int i, .int j => C i j /\ Q (g i j) H
 | _, _ => False
theorem A6 {g : Int -> Int -> V} : ∀ x y H Q, cI0 g x y H Q -> rI0 g x y H Q := fun x y H Q h => by
 cases x with
 | int i => cases y with
  | int j => exact ⟨i, j, rfl, rfl, h⟩
  | _ => exact h.elim
 | _ => exact h.elim
theorem MJ {C : Int -> Int -> Prop} {g : Int -> Int -> V} : ∀ x y H Q, cI C g x y H Q -> rI C g x y H Q := fun x y H Q h => by
 cases x with
 | int i => cases y with
  | int j => exact ⟨i, j, rfl, rfl, h.1, h.2⟩
  | _ => exact h.elim
 | _ => exact h.elim
def rAddI : R2 := fun x y H Q => match x, y with
 | .int i, .int j => Q (.int (i + j)) H
 | _, _ => False
def Om : R2 := fun x y H Q => match x, y with
 | .int i, .int j => Q (.int (i - j)) H
 | _, _ => False
def UD : R2 := fun x y H Q => match x, y with
 | .int i, .int j => IntMulOk i j /\ Q (.int (i * j)) H
 | _, _ => False
def UE : R2 := fun x y H Q => match x, y with
 | .int i, .int j => (0 < j) /\ Q (.int (i % j)) H
 | _, _ => False
def Oo : R2 := fun x y H Q => match x, y with
 | .int i, .int j => (CDiv i j) /\ Q (.int (i / j)) H
 | _, _ => False
def UC : R2 := fun x y H Q => match x, y with
 | .int i, .int j => (CPow i j) /\ Q (.int (i ^ j.toNat)) H
 | _, _ => False
def rLtC : R2 := fun x y H Q => match x, y with
 | .int i, .int j => Q (.bl (decide (i < j))) H
 | _, _ => False
def rLeC : R2 := fun x y H Q => match x, y with
 | .int i, .int j => Q (.bl (decide (i <= j))) H
 | _, _ => False
def rGtC : R2 := fun x y H Q => match x, y with
 | .int i, .int j => Q (.bl (decide (j < i))) H
 | _, _ => False
def rGeC : R2 := fun x y H Q => match x, y with
 | .int i, .int j => Q (.bl (decide (j <= i))) H
 | _, _ => False
def Tn (K : aD) : R2 := fun x y H Q => match x, y with
 | .int i, .int j => Q (.int (i + j)) H
 | .str a, .str b => a.length + b.length <= sizeLine /\ Q (.str (a ++ b)) H
 | .ref _, .ref _ => rCat x y H Q \/ rCatA K x y H Q
 | _, _ => False
theorem cA : OpR X (binaryOp .Add) (Tn X.K) := by
 refine jD (OpR.or (X := X) op_add (OpR.or op_add_str (OpR.or op_cat op_catA))) fun x y H Q h => ?_
 cases x with
 | int i => cases y with
  | int j => exact .inl ⟨i, j, rfl, rfl, h⟩
  | _ => exact h.elim
 | str i => cases y with
  | str j => exact .inr (.inl ⟨i, j, rfl, rfl, h.1, h.2⟩)
  | _ => exact h.elim
 | ref i => cases y with
  | ref j => exact .inr (.inr h)
  | _ => exact h.elim
 | _ => exact h.elim
theorem iS : OpR X (binaryOp .Sub) Om := jD op_sub fun x y H Q h => A6 (g := fun i j => .int (i - j)) x y H Q h
theorem Rq : OpR X (binaryOp .Mult) (rI IntMulOk fun i j => .int (i * j)) := opI fun _ _ _ _ _ _ _ hc q => mul_int q hc
theorem fW : OpR X (binaryOp .Mult) UD := jD Rq fun x y H Q h => MJ (C := IntMulOk) (g := fun i j => .int (i * j)) x y H Q h
theorem mulL {i j : Int} (h1 : -(2 ^ 64) < i) (h2 : i < 2 ^ 64) : IntMulOk i j := CMul.ok (.inl ⟨h1, h2⟩)
theorem mulR {i j : Int} (h1 : -(2 ^ 64) < j) (h2 : j < 2 ^ 64) : IntMulOk i j := CMul.ok (.inr ⟨h1, h2⟩)
theorem qH : OpR X (binaryOp .Mod) UE := jD op_mod fun x y H Q h => MJ (C := fun _ j => 0 < j) (g := fun i j => .int (i % j)) x y H Q h
theorem AY : OpR X (binaryOp .FloorDiv) Oo := jD op_fdiv fun x y H Q h => MJ (C := CDiv) (g := fun i j => .int (i / j)) x y H Q h
theorem Gu : OpR X (binaryOp .Pow) UC := jD op_pow fun x y H Q h => MJ (C := CPow) (g := fun i j => .int (i ^ j.toNat)) x y H Q h
theorem tR : OpR X (compareOp .Lt) rLtC := jD op_lt fun x y H Q h => A6 (g := fun i j => .bl (decide (i < j))) x y H Q h
theorem xJ : OpR X (compareOp .LtE) rLeC := jD op_le fun x y H Q h => A6 (g := fun i j => .bl (decide (i <= j))) x y H Q h
theorem xK : OpR X (compareOp .Gt) rGtC := jD op_gt fun x y H Q h => A6 (g := fun i j => .bl (decide (j < i))) x y H Q h
theorem V6 : OpR X (compareOp .GtE) rGeC := jD op_ge fun x y H Q h => A6 (g := fun i j => .bl (decide (j <= i))) x y H Q h
def cNeg : V -> Hp -> VK -> Prop := fun x H Q => match x with
 | .int i => Q (.int (-i)) H
 | _ => False
theorem RL : UnR X (unaryOp .USub) cNeg := fun pins s σ H x v Q I rx h => un_neg pins s σ H x v Q I rx (by
 cases x with
 | int i => exact ⟨i, rfl, h⟩
 | _ => exact h.elim)
def cEq (K : aD) : R2 := fun x y H Q => match x, y with
 | .int i, .int j => Q (.bl (decide (i = j))) H
 | .str i, .str j => Q (.bl (decide (i = j))) H
 | _, _ => rEqD K x y H Q
def cNe (K : aD) : R2 := fun x y H Q => match x, y with
 | .int i, .int j => Q (.bl (!decide (i = j))) H
 | .str i, .str j => Q (.bl (!decide (i = j))) H
 | _, _ => rNeD K x y H Q
theorem dI {i j : Int} : decide (V.int i = V.int j) = decide (i = j) := by
 by_cases h : i = j
 ·rw [decide_eq_true h, h, decide_eq_true rfl]
 ·rw [decide_eq_false h, decide_eq_false fun e => h (V.int.inj e)]
theorem dS {i j : Str} : decide (V.str i = V.str j) = decide (i = j) := by
 by_cases h : i = j
 ·rw [decide_eq_true h, h, decide_eq_true rfl]
 ·rw [decide_eq_false h, decide_eq_false fun e => h (V.str.inj e)]
theorem bG (hu : X.A.units + 64 < cLine) : OpR X (compareOp .Eq) (cEq X.K) := by
 refine jD (OpR.or (X := X) op_eq (op_eqD hu)) fun x y H Q h => ?_
 cases x with
 | int i => cases y with
  | int j => exact .inl ⟨rfl, by rw [dI]; exact h⟩
  | _ => exact .inr h
 | str i => cases y with
  | str j => exact .inl ⟨rfl, by rw [dS]; exact h⟩
  | _ => exact .inr h
 | _ => exact .inr h
theorem tQ (hu : X.A.units + 64 < cLine) : OpR X (compareOp .NotEq) (cNe X.K) := by
 refine jD (OpR.or (X := X) op_ne (op_neD hu)) fun x y H Q h => ?_
 cases x with
 | int i => cases y with
  | int j => exact .inl ⟨rfl, by rw [dI]; exact h⟩
  | _ => exact .inr h
 | str i => cases y with
  | str j => exact .inl ⟨rfl, by rw [dS]; exact h⟩
  | _ => exact .inr h
 | _ => exact .inr h
variable {a b c : Expr} {ta tb tc : TE} {pos : Pos}
def cT (K : aD) : V -> Hp -> (Bool -> Hp -> Prop) -> Prop := fun x H Q => match x with
 | .bl k => Q k H
 | .non => Q false H
 | .int i => Q (i != 0) H
 | x => ∃ k, TruV K x H k /\ Q k H
def cTest (K : aD) (t : TE) : TT := fun σ H Q => t σ H fun x H' => cT K x H' Q
theorem Ql {K : aD} : ∀ x H Q, cT K x H Q -> ∃ k, TruV K x H k /\ Q k H := fun x H Q h => by
 cases x with
 | bl k => exact ⟨k, rfl, h⟩
 | non => exact ⟨false, rfl, h⟩
 | int i => exact ⟨_, rfl, h⟩
 | _ => exact h
theorem t_val (ha : PE X a ta) (he : ∀ whole, isTrue a X.env whole = (do let v <- whole; standAt a.pos; holding [v] (truthy v)) := by intro _; rfl) : PT X a (cTest X.K ta) := by
 refine ⟨fun pins s σ H Q I h => ?_⟩
 exact isTrue_plain (thn (ha.run pins s σ H _ I h) fun v s1 ⟨x, H1, I1, r1, q1⟩ => tru_ok pins s1 σ H1 x v Q I1 r1 (Ql x H1 Q q1)) (he _)
def cB (t : TE) : TT := fun σ H Q => t σ H fun x H' => match x with
 | .bl k => Q k H'
 | _ => False
theorem U5 {op : CmpOp} {r : R2} (ho : OpR X (compareOp op) r) (ha : PE X a ta) (hb : PE X b tb) (hm : behindInMarks op b = false := by rfl) : PT X (.Compare a [op] [b] pos) (cB (tOp r ta tb)) := by
 refine ⟨fun pins s σ H Q I h => ?_⟩
 have h' : ta σ H fun x H1 => tb σ H1 fun y H2 => r x y H2 fun z H3 => (match z with | .bl k => Q k H3 | _ => False) := h
 refine wpAny_isTrue_Compare1 (thn (ha.run pins s σ H _ I h') fun v s1 ⟨x, H1, I1, r1, q1⟩ => thn (hb.run pins s1 σ H1 _ I1 q1) fun u s2 ⟨y, H2, I2, r2, q2⟩ => thn (ho pins s2 σ H2 x y v u _ I2 r1 r2 q2) fun d s3 hz => ?_) hm
 obtain ⟨z, H3, I3, r3, q3⟩ := hz;cases z with
 | bl k => cases r3; exact wpAny_truthy_bool ⟨H3, I3, q3⟩
 | _ => exact q3.elim
theorem e_cmp {op : CmpOp} {r : R2} (ho : OpR X (compareOp op) r) (ha : PE X a ta) (hb : PE X b tb) (hm : behindInMarks op b = false := by rfl) : PE X (.Compare a [op] [b] pos) (tOp r ta tb) := pe_cmpR ho ha hb hm
end
section
variable {X : Cx} {a b c : Expr} {ta tb tc : TE} {pos : Pos}
variable {rest : List Expr}
def cAndV (ta tb : TE) : TE := fun σ H Q => ta σ H fun x H1 => match x with
 | .bl c => if c = true then tb σ H1 Q else Q (.bl false) H1
 | _ => False
def cOrV (ta tb : TE) : TE := fun σ H Q => ta σ H fun x H1 => match x with
 | .bl c => if c = true then Q (.bl true) H1 else tb σ H1 Q
 | _ => False
def cNotV (K : aD) (ta : TE) : TE := fun σ H Q => ta σ H fun x H1 => cT K x H1 fun k H2 => Q (.bl (!k)) H2
theorem e_and (ha : PE X a ta) (hb : PE X (.BoolOp .And (b :: rest) pos) tb) : PE X (.BoolOp .And (a :: b :: rest) pos) (cAndV ta tb) := by
 refine ⟨fun pins s σ H Q I h => ?_⟩
 refine BoolOp_and (thn (ha.run pins s σ H _ I h) fun v s1 hq => ?_)
 obtain ⟨x, H1, I1, r1, q1⟩ := hq;cases x with
 | bl c =>
  cases r1;refine wpAny_truthy_bool ?_
  cases c with
  | true => exact hb.run pins s1 σ H1 Q I1 q1
  | false => exact ⟨.bl false, H1, I1, rfl, q1⟩
 | _ => exact q1.elim
theorem e_or (ha : PE X a ta) (hb : PE X (.BoolOp .Or (b :: rest) pos) tb) : PE X (.BoolOp .Or (a :: b :: rest) pos) (cOrV ta tb) := by
 refine ⟨fun pins s σ H Q I h => ?_⟩
 refine BoolOp_or (thn (ha.run pins s σ H _ I h) fun v s1 hq => ?_)
 obtain ⟨x, H1, I1, r1, q1⟩ := hq;cases x with
 | bl c =>
  cases r1;refine wpAny_truthy_bool ?_
  cases c with
  | false => exact hb.run pins s1 σ H1 Q I1 q1
  | true => exact ⟨.bl true, H1, I1, rfl, q1⟩
 | _ => exact q1.elim
theorem e_not (ha : PE X a ta) : PE X (.UnaryOp .Not a pos) (cNotV X.K ta) := by
 refine ⟨fun pins s σ H Q I h => ?_⟩
 refine UnaryOp_ (thn (ha.run pins s σ H _ I h) fun v s1 hq => ?_)
 obtain ⟨x, H1, I1, r1, q1⟩ := hq;exact not_of (thn (tru_ok pins s1 σ H1 x v (fun c H2 => Q (.bl (!c)) H2) I1 r1 (Ql x H1 _ q1)) fun c s2 ⟨H2, I2, q2⟩ => ⟨.bl (!c), H2, I2, rfl, q2⟩)
def HY (r r' : R2) (ta tb tc : TE) : TE := fun σ H Q => ta σ H fun x H1 => tb σ H1 fun y H2 => r x y H2 fun z H3 => match z with
 | .bl k => if k = true then tc σ H3 fun w' H4 => r' y w' H4 Q else Q (.bl false) H3
 | _ => False
theorem Tb {op op' : CmpOp} {r r' : R2} (ho : OpR X (compareOp op) r) (ho' : OpR X (compareOp op') r') (ha : PE X a ta) (hb : PE X b tb) (hc : PE X c tc)
  (hm : lastMarks [op, op'] [b, c] = false := by with_unfolding_all rfl) : PE X (.Compare a [op, op'] [b, c] pos) (HY r r' ta tb tc) := by
 refine ⟨fun pins s σ H Q I h => ?_⟩
 refine Compare_chain (thn (ha.run pins s σ H _ I h) fun v s1 ⟨x, H1, I1, r1, q1⟩ => chain_link (thn (hb.run pins s1 σ H1 _ I1 q1) fun u s2 ⟨y, H2, I2, r2, q2⟩ =>
  thn (ho pins s2 σ H2 x y v u _ I2 r1 r2 q2) fun d s3 hz => ?_)) hm
 obtain ⟨z, H3, I3, r3, q3⟩ := hz;cases z with
 | bl k =>
  cases r3;refine wpAny_truthy_bool ?_
  cases k with
  | false => exact ite_ff ⟨.bl false, H3, I3, rfl, q3⟩
  | true => exact ite_tt (chain_last (thn (hc.run pins s3 σ H3 _ I3 q3) fun w' s4 ⟨z', H4, I4, r4, q4⟩ => ho' pins s4 σ H4 y z' u w' Q I4 r2 r4 q4))
 | _ => exact q3.elim
theorem RS {op op' : CmpOp} {r r' : R2} (ho : OpR X (compareOp op) r) (ho' : OpR X (compareOp op') r') (ha : PE X a ta) (hb : PE X b tb) (hc : PE X c tc)
  (hm : lastMarks [op, op'] [b, c] = false := by with_unfolding_all rfl) : PT X (.Compare a [op, op'] [b, c] pos) (cB (HY r r' ta tb tc)) := by
 refine ⟨fun pins s σ H Q I h => ?_⟩
 refine isTrue_chain (thn (ha.run pins s σ H _ I h) fun v s1 ⟨x, H1, I1, r1, q1⟩ => test_link (thn (hb.run pins s1 σ H1 _ I1 q1) fun u s2 ⟨y, H2, I2, r2, q2⟩ =>
  thn (ho pins s2 σ H2 x y v u _ I2 r1 r2 q2) fun d s3 hz => ?_)) hm
 obtain ⟨z, H3, I3, r3, q3⟩ := hz;cases z with
 | bl k =>
  cases r3;refine wpAny_truthy_bool ?_
  cases k with
  | false => exact ite_ff ⟨H3, I3, q3⟩
  | true =>
   refine ite_tt (test_last (thn (hc.run pins s3 σ H3 _ I3 q3) fun w' s4 ⟨z', H4, I4, r4, q4⟩ => thn (ho' pins s4 σ H4 y z' u w' _ I4 r2 r4 q4) fun d' s5 hz2 => ?_))
   obtain ⟨z2, H5, I5, r5, q5⟩ := hz2;cases z2 with
   | bl k2 => cases r5; exact wpAny_truthy_bool ⟨H5, I5, q5⟩
   | _ => exact q5.elim
 | _ => exact q3.elim
def cIx (K : aD) : R2 := fun x y H Q => match x, y with
 | .ref p, .int i => ∃ xs v, (SqL K H p xs \/ SqT K H p xs) /\ atI xs i = some v /\ Q v H
 | .str z, .int i => z.length <= sizeLine /\ ∃ c, atI z.cps.toList i = some c /\ Q (.str ⟨#[c]⟩) H
 | _, _ => False
theorem ix_C : IxR X (cIx X.K) := MO ix_seq fun x y H Q h => by
 cases x with
 | ref p => cases y with
  | int i =>
   obtain ⟨xs, v, h1 | h1, h2, q⟩ := h
   ·exact .inl ⟨p, xs, i, v, rfl, rfl, h1, h2, q⟩
   ·exact .inr (.inl ⟨p, xs, i, v, rfl, rfl, h1, h2, q⟩)
  | _ => exact h.elim
 | str z => cases y with
  | int i =>
   obtain ⟨h1, c, h2, q⟩ := h;exact .inr (.inr ⟨z, i, c, rfl, rfl, h1, h2, q⟩)
  | _ => exact h.elim
 | _ => exact h.elim
theorem e_ix (ha : PE X a ta) (hb : PE X b tb) (hs : PlainIx b := by intro _ _; rfl) : PE X (.Subscript a b pos) (tOp (cIx X.K) ta tb) := pe_ix ix_C ha hb hs
def Ti (K : aD) : V -> Hp -> VK -> Prop := fun x H Q => match x with
 | .str z => z.length <= sizeLine /\ Q (.int z.length) H
 | .ref p => ∃ ys, (SqL K H p ys \/ SqT K H p ys) /\ Q (.int ys.length) H
 | _ => False
def c1 (r : V -> Hp -> VK -> Prop) : List V -> Hp -> VK -> Prop := fun xs H Q => match xs with
 | [x] => r x H Q
 | _ => False
theorem Uc {p : Pos} (hm : X.mg "len" = none) (ha : PE X a ta) (hg : Gl X "len" := by rfl) (hs : starEach [a] X.env = [(false, eval a X.env)] := by rfl) : PE X (.Call (.Name "len" p) [a] [] pos) (tCB (c1 (Ti X.K)) (tCons ta tNil)) :=
 pe_callB (oH (CallR.or call_len_seq call_len_str) fun xs H Q h => by
  match xs, h with
  | [x], h =>
   cases x with
   | str z => exact .inr ⟨z, rfl, h.1, h.2⟩
   | ref p =>
    obtain ⟨ys, h1, q⟩ := h;exact .inl ⟨p, ys, rfl, h1, q⟩
   | _ => exact h.elim) hg hm boot_len (pa_cons ha pa_nil hs) (he := hs)
def cInt : V -> Hp -> VK -> Prop := fun x H Q => match x with
 | .int i => Q (.int i) H
 | .bl k => Q (.int (if k then 1 else 0)) H
 | _ => False
theorem e_int {p : Pos} (hm : X.mg "int" = none) (ha : PE X a ta) (hg : Gl X "int" := by rfl) (hs : starEach [a] X.env = [(false, eval a X.env)] := by rfl) : PE X (.Call (.Name "int" p) [a] [] pos) (tCB (c1 cInt) (tCons ta tNil)) :=
 pe_callTy (oH call_int1 fun xs H Q h => by
  match xs, h with
  | [x], h =>
   cases x with
   | int i => exact .inl ⟨i, rfl, h⟩
   | bl k => exact .inr ⟨k, rfl, h⟩
   | _ => exact h.elim) hg hm boot_int (pa_cons ha pa_nil hs) (he := hs)
def isTy (T n : String) : Bool := n == T || (n == "bool" && T == "int")
def kinds : List String := ["NoneType", "bool", "int", "str", "list", "tuple", "dict"]
def targets : List String := ["int", "bool", "str", "list", "tuple", "dict"]
theorem SJ (K : aD) : (kinds.all fun n => targets.all fun T => decide (PySem.W.kitOne K (.type n) (.type T) = some (isTy T n))) = true := by kernel_rfl
theorem KP {K : aD} {n T : String} (hn : n ∈ kinds) (hT : T ∈ targets) : PySem.W.kitOne K (.type n) (.type T) = some (isTy T n) :=
 of_decide_eq_true (bV.mp (bV.mp (SJ K) n hn) T hT)
def Es (K : aD) (H : Hp) (a : Addr) (n : String) : Prop := n ∈ ["list", "tuple", "dict"] /\ TyX K H (.ref a) (.type n)
def Qn (K : aD) (T : String) : V -> Hp -> VK -> Prop := fun x H Q => match x with
 | .non => Q (.bl false) H
 | .bl _ => Q (.bl (T == "bool" || T == "int")) H
 | .int _ => Q (.bl (T == "int")) H
 | .str _ => Q (.bl (T == "str")) H
 | .ref a => ∃ n, Es K H a n /\ Q (.bl (n == T)) H
 | _ => False
def cIsiL (K : aD) (T : String) : List V -> Hp -> VK -> Prop := fun xs H Q => match xs with
 | [x, .ty n] => if n = T then Qn K T x H Q else False
 | _ => False
theorem Nl {T : String} (hT : T ∈ targets) : CallR X (.builtin "isinstance") (cIsiL X.K T) := oH call_isi fun xs H Q h => by
 match xs, h with
 | [x, .ty n], h =>
  have h0 : if n = T then Qn X.K T x H Q else False := h
  by_cases e : n = T
  case neg => rw [if_neg e] at h0; exact h0.elim
  rw [if_pos e] at h0
  replace h := h0
  subst e;have go : ∀ (k : String) (b : Bool), k ∈ kinds -> TyX X.K H x (.type k) -> b = isTy n k -> Q (.bl b) H -> rIsi X.K [x, .ty n] H Q := fun k b hk ty e q => ⟨x, .ty n, .type k, .type n, isTy n k, rfl, .ty n, ty, KP hk hT, by rw [<- e]; exact q⟩
  have h6 : n = "int" \/ n = "bool" \/ n = "str" \/ n = "list" \/ n = "tuple" \/ n = "dict" := by simpa [targets] using hT
  cases x with
  | non => exact go "NoneType" false (by decide) (.base .non) (by rcases h6 with e | e | e | e | e | e <;> subst e <;> decide) h
  | bl b => exact go "bool" _ (by decide) (.base (.bl b)) (by rcases h6 with e | e | e | e | e | e <;> subst e <;> decide) h
  | int b => exact go "int" _ (by decide) (.base (.int b)) (by rcases h6 with e | e | e | e | e | e <;> subst e <;> decide) h
  | str b => exact go "str" _ (by decide) (.base (.str b)) (by rcases h6 with e | e | e | e | e | e <;> subst e <;> decide) h
  | ref a =>
   obtain ⟨k, ⟨hk, ty⟩, q⟩ := h;have h3 : k = "list" \/ k = "tuple" \/ k = "dict" := by simpa using hk
   exact go k _ (by rcases h3 with e | e | e <;> subst e <;> decide) ty (by rcases h6 with e | e | e | e | e | e <;> rcases h3 with e' | e' | e' <;> subst e <;> subst e' <;> decide) q
  | _ => exact h.elim
def cIsE (K : aD) (T : String) (ta : TE) : TE := fun σ H Q => ta σ H fun x H1 => Qn K T x H1 Q
theorem e_isi {p q : Pos} {T : String} {y : Str} (hm : X.mg "isinstance" = none) (hmT : X.mg y = none) (ha : PE X a ta) (hT : T ∈ targets := by decide) (hv : bootBuiltins y = some (.type T) := by decide +kernel)
  (hg : Gl X "isinstance" := by rfl) (hgT : Gl X y := by rfl) (hn : y ≠ "__name__" := by decide) (hd : (y == ("__debug__" : Str)) = false := by decide) (hs : starEach [a, .Name y q] X.env = (false, eval a X.env) :: starEach [.Name y q] X.env := by rfl) :
  PE X (.Call (.Name "isinstance" p) [a, .Name y q] [] pos) (cIsE X.K T ta) :=
 dM (pe_callB (Nl hT) hg hm boot_isinstance (pa_cons ha (pa_cons (pe_bltn (v := .ty T) hgT hmT hv rfl hn hd) pa_nil) hs) (he := hs)) fun σ H Q h => by
  show ta σ H fun x H1 => if T = T then Qn X.K T x H1 Q else False
  simp only [if_true];exact h
def cAll (K : aD) : V -> Hp -> VK -> Prop := fun x H Q => match x with
 | .ref p => ∃ bs : List Bool, SqL K H p (bs.map V.bl) /\ Q (.bl (bs.all id)) H
 | _ => False
theorem e_all {p : Pos} (hm : X.mg "all" = none) (ha : PE X a ta) (hc : X.calm = true := by rfl) (hg : Gl X "all" := by rfl) (hs : starEach [a] X.env = [(false, eval a X.env)] := by rfl) : PE X (.Call (.Name "all" p) [a] [] pos) (tCB (c1 (cAll X.K)) (tCons ta tNil)) :=
 pe_callB (oH (cr_all hc) fun xs H Q h => by
  match xs, h with
  | [x], h =>
   cases x with
   | ref p =>
    obtain ⟨bs, h1, q⟩ := h;exact ⟨p, bs, rfl, h1, q⟩
   | _ => exact h.elim) hg hm boot_all (pa_cons ha pa_nil hs) (he := hs)
def Ug (K : aD) : V -> Hp -> VK -> Prop := fun x H Q => match x with
 | .ref p => ∃ ys, (SqL K H p ys \/ SqT K H p ys) /\ ∀ l, H l = none -> Q (.ref l) (upd H l (.lst ys))
 | _ => False
theorem WT {p : Pos} (hm : X.mg "list" = none) (ha : PE X a ta) (hg : Gl X "list" := by rfl) (hs : starEach [a] X.env = [(false, eval a X.env)] := by rfl) : PE X (.Call (.Name "list" p) [a] [] pos) (tCB (c1 (Ug X.K)) (tCons ta tNil)) :=
 pe_callTy (oH call_list_of fun xs H Q h => by
  match xs, h with
  | [x], h =>
   cases x with
   | ref p =>
    obtain ⟨bs, h1, q⟩ := h;exact ⟨p, bs, rfl, h1, q⟩
   | _ => exact h.elim) hg hm boot_list (pa_cons ha pa_nil hs) (he := hs)
def Qk (K : aD) : V -> Hp -> VK -> Prop := fun x H Q => match x with
 | .ref p => ∃ ys, SqL K H p ys /\ ∀ l, H l = none -> Q (.ref l) (upd H l (.tup ys))
 | _ => False
theorem Ta {p : Pos} (hm : X.mg "tuple" = none) (ha : PE X a ta) (hg : Gl X "tuple" := by rfl) (hs : starEach [a] X.env = [(false, eval a X.env)] := by rfl) : PE X (.Call (.Name "tuple" p) [a] [] pos) (tCB (c1 (Qk X.K)) (tCons ta tNil)) :=
 pe_callTy (oH call_tuple_of fun xs H Q h => by
  match xs, h with
  | [x], h =>
   cases x with
   | ref p =>
    obtain ⟨ys, h1, q⟩ := h;exact ⟨p, ys, rfl, .inl ⟨h1, q⟩⟩
   | _ => exact h.elim) hg hm boot_tuple (pa_cons ha pa_nil hs) (he := hs)
def sp2 (p : V -> V -> Hp -> VK -> Prop) : Sp := fun vs H Q _ => match vs with
 | [a, b] => p a b H Q
 | _ => False
end
def Ok (P : Program) (w : World) (K : aD) (mg : Str -> Option Value) (base : Heap) (k : Nat) (x : Str) (ps : List Str) (sp : Sp) : Prop :=
 ∃ fd, FnOk P w K mg base CX0 k (He.ga K x) fd ps sp /\ mg x = some (.ref (He.ga K x)) /\ iN K (.ref (He.ga K x)) = true /\ Binds K fd ps [] /\ ∃ oc od osl, K.lookup (He.ga K x) = some ⟨oc, od, .func fd, osl⟩
section
variable {P : Program} {w : World} {K : aD} {mg : Str -> Option Value} {base : Heap}
abbrev pQ (K : aD) (x : Str) (st : Stmt) : Prop := ∃ fd, FunD K x x (defArgs st) (defBody st) (defScope st) [] [] (He.ga K x) fd
end
section
variable {X : Cx} {o i e : Expr} {to ti te : TE} {pos tpos : Pos}
def MK : V -> V -> Hp -> VK -> Prop := fun x y H Q => match x, y with
 | .ref p, .int i => ∃ xs v, H p = some (.lst xs) /\ 0 <= i /\ xs[i.toNat]? = some v /\ Q v H
 | _, _ => False
theorem NP : PGet X MK := by
 intro pins s σ H o i ov iv Q I ro ri h;cases o with
 | ref p => cases i with
  | int k =>
   obtain ⟨xs, v, hp, h0, hx, q⟩ := h;cases ro;obtain ⟨t, rfl⟩ := ri;obtain ⟨its, r, pl, hz⟩ := I.list (.inl (.inl hp));obtain ⟨w, ew, rw'⟩ := r.get hx;have hl := r.length;have hn := line63;have hlt : k.toNat < xs.length := (aH.mp hx).1;exact wpAny_getItem_list pl.isList h0 (by omega) (by simpa using ew) ⟨v, H, I, rw', q⟩
  | _ => exact h.elim
 | _ => exact h.elim
def MI : V -> V -> V -> Hp -> (Hp -> Prop) -> Prop := fun o i v H Q => match o, i with
 | .ref p, .int k => ∃ xs, H p = some (.lst xs) /\ 0 <= k /\ k.toNat < xs.length /\ Q (upd H p (.lst (xs.set k.toNat v)))
 | _, _ => False
theorem FW : PSet X MI := by
 intro pins s σ H o i v ov iv u Q I ro ri rv h;refine set_list pins s σ H o i v ov iv u Q I ro ri rv ?_
 cases o with
 | ref p => cases i with
  | int k =>
   obtain ⟨xs, hp, h0, hk, q⟩ := h;exact ⟨p, xs, k, k.toNat, rfl, rfl, hp, by unfold ixN; rw [if_pos h0, if_pos (by omega)], q⟩
  | _ => exact h.elim
 | _ => exact h.elim
def cIp (r : R2) : TIp := fun x y H Q => r x y H Q
theorem HG : PIp X .Add (cIp rAddI) := fun pins s σ H x y v u Q I r1 r2 h => ip_add pins s σ H x y v u Q I r1 r2 (A6 (g := fun i j => .int (i + j)) x y H Q h)
theorem SU : PIp X .Sub (cIp Om) := fun pins s σ H x y v u Q I r1 r2 h => ip_sub pins s σ H x y v u Q I r1 r2 (A6 (g := fun i j => .int (i - j)) x y H Q h)
theorem Og {op : Operator} {tip : TIp} (ho : PE X o to) (hi : PE X i ti) (he : PE X e te) (hp : PIp X op tip)
  (ha : ∀ ov iv new, augStore i ov iv new = (do holding [new, ov, iv] (setItem ov iv new); release [new, ov, iv] []; pure .next) := by intros; rfl) : PS X (.AugAssign (.Subscript o i tpos) op e pos) (tAugS to ti te MK tip MI) :=
 ps_augS ho hi NP he hp FW ha
end
section
variable {X : Cx} {tg e : Expr} {te : TE} {pos p : Pos}
def UF : R2 := fun x y H Q => match y with
 | .non => Q (.bl (decide (x = .non))) H
 | _ => False
def On : R2 := fun x y H Q => match y with
 | .non => Q (.bl (!decide (x = .non))) H
 | _ => False
theorem Gw : OpR X (compareOp .Is) UF := jD op_isN fun x y H Q h => by
 cases y with
 | non => exact ⟨rfl, h⟩
 | _ => exact h.elim
theorem Ia : OpR X (compareOp .IsNot) On := jD op_notN fun x y H Q h => by
 cases y with
 | non => exact ⟨rfl, h⟩
 | _ => exact h.elim
def cPart (t : TE) : TO := fun σ H Q => t σ H fun x H1 => match x with
 | .int i => Q (some i) H1
 | _ => False
theorem Ot (h : PE X e te) : PO X (some e) (cPart te) := by
 refine ⟨fun pins s σ H Q I hw => ?_⟩
 rw [evalPart_some];refine thn (h.run pins s σ H _ I hw) fun u s1 hq => ?_
 obtain ⟨x, H1, I1, r1, q1⟩ := hq;cases x with
 | int i =>
  obtain ⟨t, rfl⟩ := r1;exact ⟨some i, H1, I1, .int i t, q1⟩
 | _ => exact q1.elim
theorem Tu {r u : V -> Option Int -> Option Int -> Hp -> VK -> Prop} (h : SlR X r) (i : ∀ x lo hi H Q, u x lo hi H Q -> r x lo hi H Q) : SlR X u := by
 intro pins s σ H x v vl vu lo hi sl Q I rx hs pl pu q;exact h pins s σ H x v vl vu lo hi sl Q I rx hs pl pu (i x lo hi H Q q)
def cSl (K : aD) : V -> Option Int -> Option Int -> Hp -> VK -> Prop := fun x lo hi H Q => match x with
 | .ref a => (∃ xs, SqL K H a xs /\ ∀ p, H p = none -> Q (.ref p) (upd H p (.lst (cutV xs lo hi)))) \/ (∃ xs, SqT K H a xs /\
  (HT.sIx xs.length 0 lo = 0 /\ HT.sIx xs.length xs.length hi = xs.length -> Q (.ref a) H) /\ (¬ (HT.sIx xs.length 0 lo = 0 /\ HT.sIx xs.length xs.length hi = xs.length) -> ∀ p, H p = none -> Q (.ref p) (upd H p (.tup (cutV xs lo hi)))))
 | .str z => z.length <= sizeLine /\ Q (.str (cutS z lo hi)) H
 | _ => False
theorem sl_C : SlR X (cSl X.K) := Tu (SlR.or sl_list (SlR.or sl_tupA sl_str)) fun x lo hi H Q h => by
 cases x with
 | ref a =>
  rcases h with ⟨xs, h1, q⟩ | ⟨xs, h1, q⟩
  ·exact .inl ⟨a, xs, rfl, h1, q⟩
  ·exact .inr (.inl ⟨a, xs, rfl, h1, q⟩)
 | str z => exact .inr (.inr ⟨z, rfl, h⟩)
 | _ => exact h.elim
def iSeq (K : aD) (tl : TE) : TI := fun σ H R => tl σ H fun x H1 => match x with
 | .ref a => ((∃ xs, SqL K H1 a xs) /\ R (Itl K a) H1) \/ ((∃ xs, SqT K H1 a xs) /\ R (Itt K a) H1)
 | _ => False
theorem V4 (hl : PE X e te) : PI X tg e (iSeq X.K te) := by
 refine ⟨fun pins s σ H R I h => ?_⟩
 refine thn (hl.run pins s σ H _ I h) fun v s1 hq => ?_
 obtain ⟨x, H1, I1, r1, q1⟩ := hq;cases x with
 | ref a =>
  rcases q1 with ⟨h1, q⟩ | ⟨h1, q⟩
  ·cases r1
   obtain ⟨xs, hq⟩ := h1;obtain ⟨its, rv, p, hz⟩ := I1.list hq;refine wpAny_pyIter_list p.isList ?_
   refine ⟨s1.heap.objs.size, [s1.heap.objs.size], _, _, H1, rfl, I1.kept (t' := s1.toks) fun b o e => Heap.get?_push_of_some _ e, turn_list a _, ⟨_, Heap.get?_push_size _ rfl, rfl, rfl⟩, fun b hb => ?_, q⟩
   have e : b = s1.heap.objs.size := by simpa using hb
   subst e;exact I1.fpOk (cE _) (I1.hok.fresh (cE _))
  ·cases r1
   obtain ⟨xs, hq⟩ := h1;obtain ⟨its, rv, p, hz⟩ := I1.tuple hq;refine wpAny_pyIter_tuple (show s1.heap.IsTuple a its.toArray from p) ?_
   refine ⟨s1.heap.objs.size, [s1.heap.objs.size], _, _, H1, rfl, I1.kept (t' := s1.toks) fun b o e => Heap.get?_push_of_some _ e, turn_tuple a _, ⟨_, Heap.get?_push_size _ rfl, rfl, rfl⟩, fun b hb => ?_, q⟩
   have e : b = s1.heap.objs.size := by simpa using hb
   subst e;exact I1.fpOk (cE _) (I1.hok.fresh (cE _))
 | _ => exact q1.elim
def ML : V -> List V -> Hp -> VK -> Prop := fun x vs H Q => match x, vs with
 | .ref l, [y] => ∃ xs, H l = some (.lst xs) /\ xs.length < sizeLine /\ Q .non (upd H l (.lst (xs ++ [y])))
 | _, _ => False
theorem KH : MtR X "list.append" ML := fun pins s σ H x xs v us Q I rx r h => mt_append pins s σ H x xs v us Q I rx r (by
 match x, xs, h with
 | .ref l, [y], ⟨xs, h1, h2, q⟩ => exact ⟨l, xs, y, rfl, rfl, h1, h2, q⟩)
def cPop : V -> List V -> Hp -> VK -> Prop := fun x vs H Q => match x, vs with
 | .ref l, [] => ∃ xs y, H l = some (.lst xs) /\ xs[xs.length - 1]? = some y /\ Q y (upd H l (.lst xs.dropLast))
 | _, _ => False
theorem Rz : MtR X "list.pop" cPop := fun pins s σ H x xs v us Q I rx r h => mt_pop pins s σ H x xs v us Q I rx r (by
 match x, xs, h with
 | .ref l, [], ⟨xs, y, h1, h2, q⟩ => exact ⟨l, xs, y, rfl, rfl, h1, h2, q⟩)
theorem WV {x : Str} {i : Int} (h : ∃ t, X.mg x = some (.int i t)) (hg : Gl X x := by rfl) (hd : (x == ("__debug__" : Str)) = false := by decide) : PE X (.Name x pos) (tC (.int i)) := by
 obtain ⟨t, h⟩ := h;exact pe_glob hg h ⟨t, rfl⟩ hd
def Ui (K : aD) (d : Addr) (neg : Bool) : R2 := fun x y H Q => match x, y with
 | .str z, .ref a => a = d /\ ∃ r, kY K d z = some r /\ Q (.bl (if neg then !r.isSome else r.isSome)) H
 | _, _ => False
theorem Gv {d : Addr} (D : ∃ es n, KDict X.K X.w d es n) : OpR X (compareOp .NotIn) (Ui X.K d true) := by
 obtain ⟨es, n, D⟩ := D;refine jD (op_notIn_kd D) fun x y H Q h => ?_
 match x, y, h with
 | .str z, .ref a, ⟨e, r, h1, q⟩ => exact ⟨z, r, rfl, by rw [e], h1, q⟩
def cIxKd (K : aD) (d : Addr) : R2 := fun x y H Q => match x, y with
 | .ref a, .str z => a = d /\ ∃ u v, kY K d z = some (some u) /\ RelV v u /\ Q v H
 | _, _ => False
theorem Va {d : Addr} (D : ∃ es n, KDict X.K X.w d es n) : IxR X (cIxKd X.K d) := by
 obtain ⟨es, n, D⟩ := D;refine MO ix_kdict fun x y H Q h => ?_
 match x, y, h with
 | .ref a, .str z, ⟨e, u, v, h1, h2, q⟩ => exact ⟨d, z, v, by rw [e], rfl, ⟨es, n, u, D.at_, D.lit, h1, h2⟩, q⟩
end
structure XcF (K : aD) (mg : Str -> Option Value) (x : Str) : Prop where
 exc : PySem.W.excIn K (He.ga K x) veL "ValueError.__new__" = true
 glo : mg x = some (.ref (He.ga K x))
 kp : iN K (.ref (He.ga K x)) = true
 sub : pP K (.ref (He.ga K x)) (.type "BaseException") = some true
 ty : nU K (.ref (He.ga K x)) = some (.type "type")
theorem K1 {K : aD} {mg : Str -> Option Value} {x : Str} (h : xcB K x = true) (g : mg x = some (.ref (He.ga K x))) : XcF K mg x := by
 obtain ⟨h1, h2⟩ := He.ba h;obtain ⟨h3, h4⟩ := He.ba h2;obtain ⟨h5, h6⟩ := He.ba h4;exact ⟨h1, g, h3, of_decide_eq_true h5, of_decide_eq_true h6⟩
section
variable {X : Cx} {x : Str} {p pos pos' : Pos} {W : WX} {e : Expr} {es : List Expr} {t : TA} {ps : List Str} {sp : Sp} {k j : Nat} {E : XK}
def Ur (cls : Value) (W : WX) : TS := fun _ σ H => W cls none σ H
theorem Ou (F : XcF X.K X.mg x) (hg : Gl X x) (hdb : (x == ("__debug__" : Str)) = false) : PMk X (.Call (.Name x p) [] [] pos) (fun _ H Q => Q (.ref (He.ga X.K x)) none H) := by
 intro pins s σ H Q I q;refine wpAny_Call_Name_kw (ld_glob I hg F.glo ?_ hdb)
 refine zQ I.kIn F.kp ?_
 show wpAny _ _ (call (.ref (He.ga X.K x)) []) _ _ _
 obtain ⟨_, _, _, _, _, _, _, _, _, _, _, _, _, _, _, _, _, c1, c2, c3, T⟩ := exc_obj I.kIn F.exc;exact wpAny_call_exc_subT PySem.F.excBase_ValueError T c1 c2 c3 (fun _ _ m => mk_of I m (raises_own F.sub F.ty) q (I.hok.gone m.new)) (gL _)
theorem Rp (F : XcF X.K X.mg x) (tk : Takes X W) (hc : X.calm = true := by rfl) (hg : Gl X x := by rfl) (hdb : (x == ("__debug__" : Str)) = false := by decide) : PS X (.Raise (some (.Call (.Name x p) [] [] pos)) none pos') (Ur (.ref (He.ga X.K x)) W) :=
 ps_raise hc tk (Ou F hg hdb)
end
def qR (P : Program) (w : World) (K : aD) (mg : Str -> Option Value) (base : Heap) (k : Nat) (x : Str) (ps : List Str) (sp : Sp) : Prop :=
 ∃ fd, FnOk P w K mg base (L2.CX P w) k (He.ga K x) fd ps sp /\ mg x = some (.ref (He.ga K x)) /\ iN K (.ref (He.ga K x)) = true /\ Binds K fd ps []
section
variable {P : Program} {w : World} {K : aD} {mg : Str -> Option Value} {base : Heap}
theorem Oy {x : Str} {st : Stmt} {N ps : List Str} {k : Nat} {sp : Sp} (F : pQ K x st) (g : mg x = some (.ref (He.ga K x))) (S : FnScope N ps (defScope st)) (len : ∀ vs H Q E, sp vs H Q E -> vs.length = ps.length)
  (bnd : ∀ (kV doc pm : Value) (an : Option Addr) (cdv ct : Value) (us : List Value), us.length = ps.length -> bindArgs (dH x x (defArgs st) (defBody st) (defScope st) .none kV doc pm an cdv ct) ⟨us, []⟩ = pure (ps.zip us))
  (hbody : ∀ (cdv : Value) (A : Around) (outer : List Env) (s : Shared) (H : Hp) (vs : List V) (Q : VK) (E : XK), Room k (A.deeper (envOfC x (defScope st) s.heap.objs.size (He.ga K x) cdv)) -> sp vs H Q E ->
   ∃ t, PSs (cxOf (L2.CX P w) P w K mg base N x (defScope st) (He.ga K x) cdv A outer s H E) (defBody st) t /\ t { nx := fun _ H' => Q .non H', rt := Q } (start N vs) H) : qR P w K mg base (k + 1) x ps sp := by
 obtain ⟨fd, F⟩ := F;refine ⟨fd, ?_, g, F.kp, F.bindsN bnd⟩
 obtain ⟨oc, od, dV, kV, doc, pm, an, cdv, ct, osl, e, lk, hc⟩ := F.ex;subst e;exact fn_of lk hc.1 S len fun A outer s H vs Q E hr hsp => hbody cdv A outer s H vs Q E hr hsp
end
def wNo : WX := fun _ _ _ _ => False
def Uh (K : aD) (T U : String) : V -> Hp -> (Bool -> Prop) -> Prop := fun x H Q => match x with
 | .non => Q false
 | .bl _ => Q (isTy T "bool" || isTy U "bool")
 | .int _ => Q (isTy T "int" || isTy U "int")
 | .str _ => Q (isTy T "str" || isTy U "str")
 | .ref a => ∃ n, Es K H a n /\ Q (isTy T n || isTy U n)
 | _ => False
def Qm (K : aD) (T U : String) : List V -> Hp -> VK -> Prop := fun xs H Q => match xs with
 | [x, .ref tp] => H tp = some (.tup [.ty T, .ty U]) /\ Uh K T U x H fun b => Q (.bl b) H
 | _ => False
def cIsE2 (K : aD) (T U : String) (ta : TE) : TE := tCB (Qm K T U) (tCons ta (tCons (tTup (tCons (tC (.ty T)) (tCons (tC (.ty U)) tNil))) tNil))
section
variable {X : Cx} {a : Expr} {ta : TE} {pos p : Pos}
theorem SK {K : aD} {n T U : String} (hn : n ∈ kinds) (hT : T ∈ targets) (hU : U ∈ targets) : PySem.W.kitAny K (.type n) [.type T, .type U] = some (isTy T n || isTy U n) := by
 have h1 := KP (K := K) hn hT;have h2 := KP (K := K) hn hU;cases e1 : isTy T n with
 | true =>
  rw [e1] at h1;exact kitAny_cons h1 (fun z => by cases z) fun _ => rfl
 | false =>
  rw [e1] at h1;refine kitAny_cons h1 (fun _ => ?_) (fun z => by cases z)
  cases e2 : isTy U n with
  | true =>
   rw [e2] at h2;exact kitAny_cons h2 (fun z => by cases z) fun _ => rfl
  | false =>
   rw [e2] at h2;exact kitAny_cons h2 (fun _ => rfl) (fun z => by cases z)
theorem Nm {T U : String} (hT : T ∈ targets) (hU : U ∈ targets) : CallR X (.builtin "isinstance") (Qm X.K T U) := oH call_isiT fun xs H Q h => by
 match xs, h with
 | [x, .ref tp], ⟨ht, h⟩ =>
  have go : ∀ (k : String) (b : Bool), k ∈ kinds -> TyX X.K H x (.type k) -> b = (isTy T k || isTy U k) -> Q (.bl b) H -> rIsiT X.K [x, .ref tp] H Q := fun k b hk ty e q => ⟨x, tp, _, .type k, [.type T, .type U], _, rfl, ht, .cons (.ty T) (.cons (.ty U) .nil), ty, SK hk hT hU, by rw [<- e]; exact q⟩
  cases x with
  | non =>
   refine go "NoneType" false (by decide) (.base .non) ?_ h
   have : ∀ T ∈ targets, isTy T "NoneType" = false := by decide
   rw [this T hT, this U hU];rfl
  | bl b => exact go "bool" _ (by decide) (.base (.bl b)) rfl h
  | int b => exact go "int" _ (by decide) (.base (.int b)) rfl h
  | str b => exact go "str" _ (by decide) (.base (.str b)) rfl h
  | ref a =>
   obtain ⟨k, ⟨hk, ty⟩, q⟩ := h;have h3 : k = "list" \/ k = "tuple" \/ k = "dict" := by simpa using hk
   exact go k _ (by rcases h3 with e | e | e <;> subst e <;> decide) ty rfl q
  | _ => exact h.elim
theorem WU {q1 q2 tpos : Pos} {j : Nat} {T U : String} {y z : Str} (hm : X.mg "isinstance" = none) (hmT : X.mg y = none) (hmU : X.mg z = none) (ha : PE X a ta) (hT : T ∈ targets := by decide) (hU : U ∈ targets := by decide)
  (hv : bootBuiltins y = some (.type T) := by decide +kernel) (hw : bootBuiltins z = some (.type U) := by decide +kernel) (hg : Gl X "isinstance" := by rfl) (hgT : Gl X y := by rfl) (hgU : Gl X z := by rfl) (hn : y ≠ "__name__" := by decide) (hd : (y == ("__debug__" : Str)) = false := by decide) (hn2 : z ≠ "__name__" := by decide) (hd2 : (z == ("__debug__" : Str)) = false := by decide)
  (hs : starEach [a, .Tuple [.Name y q1, .Name z q2] j tpos] X.env = (false, eval a X.env) :: starEach [.Tuple [.Name y q1, .Name z q2] j tpos] X.env := by rfl) :
  PE X (.Call (.Name "isinstance" p) [a, .Tuple [.Name y q1, .Name z q2] j tpos] [] pos) (cIsE2 X.K T U ta) :=
 pe_callB (Nm hT hU) hg hm boot_isinstance (pa_cons ha (pa_cons (pe_tup (pa_cons (pe_bltn (v := .ty T) hgT hmT hv rfl hn hd) (pa_cons (pe_bltn (v := .ty U) hgU hmU hw rfl hn2 hd2) pa_nil))) pa_nil) hs) (he := hs)
end
structure OkMX (P : Program) (w : World) (K : aD) (mg : Str -> Option Value) (base : Heap) (k : Nat) (C m : Str) (ps : List Str) (sp : Sp) : Prop where
 ex : ∃ fd, FnOk P w K mg base (L2.CX P w) k (He.ma K (He.ga K C) m) fd ps sp /\ Binds K fd ps []
 mt : Meth K (He.ga K C) m (He.ma K (He.ga K C) m)
section
variable {X : Cx} {o e : Expr} {es : List Expr} {t : TA} {ta : TE} {apos pos p : Pos} {C m x : Str} {ps : List Str} {sp : Sp} {k j : Nat} {E : XK} {W : WX}
def cMeth (C : Addr) (m : Str) (sp : Sp) (E : XK) (ta : TE) (t : TA) : TE := fun σ H Q => ta σ H fun x H1 => match x with
 | .ref a => ∃ dx fs, H1 a = some (.ins C dx fs) /\ fs.lookup m = none /\ t σ H1 fun vs H2 => sp (.ref a :: vs) H2 Q E
 | _ => False
def cFld (C : Addr) (f : Str) (ta : TE) : TE := fun σ H Q => ta σ H fun x H1 => match x with
 | .ref a => ∃ dx fs v, H1 a = some (.ins C dx fs) /\ fs.lookup f = some v /\ Q v H1
 | _ => False
theorem e_fld {C : Addr} {f : Str} (c : Cls X.K C) (n : NoAttr X.K C f) (he : PE X e ta) (hb : attributeBase e f X.env (eval e X.env) = eval e X.env := by rfl) : PE X (.Attribute e f pos) (cFld C f ta) := by
 refine ⟨fun pins s σ H Q I h => ?_⟩
 refine attr_of hb (thn (he.run pins s σ H _ I h) fun u s1 hh => ?_)
 obtain ⟨x, H1, I1, rx, hq⟩ := hh;cases x with
 | ref a =>
  obtain ⟨dx, fs, v, ea, l, q⟩ := hq;obtain rfl : u = Value.ref a := rx;exact getattr_ok I1 ea c n l fun _ _ I2 ru => ⟨v, H1, I2, ru, q⟩
 | _ => exact hq.elim
def cSetF (C : Addr) (f : Str) (ta tv : TE) : TS := fun D σ H => tv σ H fun y H1 => ta σ H1 fun x H2 => match x with
 | .ref a => ∃ dx fs, H2 a = some (.ins C dx fs) /\ fs.length < 1000 /\ D.nx σ (upd H2 a (.ins C dx (putF f y fs)))
 | _ => False
theorem Ux {C : Addr} {f : Str} {value : Expr} {tv : TE} {pos' : Pos} (c : Cls X.K C) (n : NoAttr X.K C f) (ha : PE X o ta) (hv : PE X value tv) (hs : swapsWith value (some (.Attribute o f pos')) pos.line X.env = pure false := by rfl) : PS X (.Assign [.Attribute o f pos'] value pos) (cSetF C f ta tv) := by
 refine ⟨fun pins s σ H D I h => ?_⟩
 refine plainObj_wpAny_Assign_Attribute (thn (hv.run pins s σ H _ I h) fun u s1 hh => ?_) hs
 obtain ⟨y, H1, I1, ry, q⟩ := hh;refine thn (ha.run pins s1 σ H1 _ I1 q) fun ov s2 hh => ?_
 obtain ⟨x, H2, I2, rx, hq⟩ := hh;cases x with
 | ref a =>
  obtain ⟨dx, fs, ea, l, q2⟩ := hq;obtain rfl : ov = Value.ref a := rx;exact setattr_ok I2 ea c n l ry fun _ I3 => ⟨σ, _, I3, q2⟩
 | _ => exact hq.elim
structure ClF (K : aD) (mg : Str -> Option Value) (C : Str) : Prop where
 cls : Cls K (He.ga K C)
 mak : Mk K (He.ga K C) (He.ma K (He.ga K C) "__init__")
 glo : mg C = some (.ref (He.ga K C))
def rLenO (C : Addr) (sp : Sp) (E : XK) : V -> Hp -> VK -> Prop := fun x H Q => match x with
 | .ref a => ∃ dx fs, H a = some (.ins C dx fs) /\ sp [.ref a] H (fun v H' => match v with | .int n => (0 <= n /\ n < 2 ^ 62) /\ Q (.int n) H' | _ => False) E
 | _ => False
end
abbrev Jz (K : aD) (C m q : Str) (st : Stmt) : Prop := ∃ fd, FunD K m q (defArgs st) (defBody st) (defScope st) [] [] (He.ma K (He.ga K C) m) fd
section
variable {P : Program} {w : World} {K : aD} {mg : Str -> Option Value} {base : Heap}
theorem Rv {C m q : Str} {st : Stmt} {N ps : List Str} {k : Nat} {sp : Sp} (F : Jz K C m q st) (g : Meth K (He.ga K C) m (He.ma K (He.ga K C) m)) (S : FnScope N ps (defScope st)) (len : ∀ vs H Q E, sp vs H Q E -> vs.length = ps.length)
  (bnd : ∀ (kV doc pm : Value) (an : Option Addr) (cdv ct : Value) (us : List Value), us.length = ps.length -> bindArgs (dH m q (defArgs st) (defBody st) (defScope st) .none kV doc pm an cdv ct) ⟨us, []⟩ = pure (ps.zip us))
  (hbody : ∀ (cdv : Value) (A : Around) (outer : List Env) (s : Shared) (H : Hp) (vs : List V) (Q : VK) (E : XK), Room k (A.deeper (envOfC q (defScope st) s.heap.objs.size (He.ma K (He.ga K C) m) cdv)) -> sp vs H Q E ->
   ∃ t, PSs (cxOf (L2.CX P w) P w K mg base N q (defScope st) (He.ma K (He.ga K C) m) cdv A outer s H E) (defBody st) t /\ t { nx := fun _ H' => Q .non H', rt := Q } (start N vs) H) : OkMX P w K mg base (k + 1) C m ps sp := by
 obtain ⟨fd, F⟩ := F;exact ⟨⟨fd, FunD.ok F S len fun cdv A outer s H vs Q E hr hsp => hbody cdv A outer s H vs Q E hr hsp, F.bindsN bnd⟩, g⟩
end
inductive D where
 | non | bl (b : Bool) | int (i : Int) | str (x : Str) | lst (xs : List D) | tup (xs : List D) | ins (C : Str) (ns : List Str) (xs : List D) | dct | opq (k : Option (Int × Int))
inductive Vl where
 | dat (d : D) | cel (n : Nat) | cels (ns : List Nat) | scr (ns : List Int) | tc (xs : List (D ⊕ Nat))
inductive Cell where
 | dead | lst (xs : List D) | ins (C : Str) (fs : List (Str × Vl)) | dct (fs : List (Str × Vl)) | lv (xs : List Vl) | dki (ks : List Int) (xs : List Vl) | dkt (ks : List (Int × Int)) (xs : List Vl)
abbrev aO := List Cell
abbrev Ev := List (Option Vl)
structure Er where
 cls : Str
 ns : List Str := []
 xs : List D := []
inductive Res (α : Type) where
 | ok (a : α) (S : aO) | err (e : Er) (S : aO) | stuck
def Res.bind {α β : Type} (r : Res α) (k : α -> aO -> Res β) : Res β := match r with
 | .ok a S => k a S
 | .err e S => .err e S
 | .stuck => .stuck
def nS (φ : List Addr) (S : aO) (a : Addr) : Prop := ∃ (n : Nat) (c : Cell), S[n]? = some c /\ c ≠ .dead /\ φ[n]? = some a
def kA (B : Addr -> Prop) (φ : List Addr) (S : aO) (a : Addr) : Prop := B a \/ nS φ S a
mutual
/-- the tree d is at v -/
def Rep (K : aD) (Bk : Addr -> Prop) (H : Hp) : D -> V -> Prop
 | .non, v => v = .non
 | .bl b, v => v = .bl b
 | .int i, v => v = .int i
 | .str x, v => v = .str x
 | .lst ds, v => ∃ a vs, v = .ref a /\ ¬ Bk a /\ H a = some (.lst vs) /\ RepL K Bk H ds vs
 | .tup ds, v => ∃ a vs, v = .ref a /\ SqT K H a vs /\ RepL K Bk H ds vs
 | .ins C ns ds, v => ∃ a dx vs, v = .ref a /\ ¬ Bk a /\ H a = some (.ins (He.ga K C) dx (ns.zip vs)) /\ RepL K Bk H ds vs
 | .dct, v => ∃ a, v = .ref a /\ ¬ Bk a /\ H a = some (.dK [])
 | .opq none, v => ∃ a, v = .ref a
 | .opq (some k), v => ∃ a, v = .ref a /\ ¬ Bk a /\ H a = some (.tup [.int k.1, .int k.2])
def RepL (K : aD) (Bk : Addr -> Prop) (H : Hp) : List D -> List V -> Prop
 | [], vs => vs = []
 | d :: ds, vs => ∃ v ws, vs = v :: ws /\ Rep K Bk H d v /\ RepL K Bk H ds ws
end
structure Kp (Bk : Addr -> Prop) (H : Hp) (Bk' : Addr -> Prop) (H' : Hp) : Prop where
 old : ∀ b o, H b = some o -> ¬ Bk b -> H' b = some o /\ ¬ Bk' b
 tup : ∀ b u, Rd H b (.tup u) -> Rd H' b (.tup u)
theorem SqT.kp {K : aD} {H H' : Hp} {a : Addr} {vs : List V} (t : ∀ b u, Rd H b (.tup u) -> Rd H' b (.tup u)) (h : SqT K H a vs) : SqT K H' a vs := by
 rcases h with h | h
 ·exact .inl (t _ _ h)
 ·exact .inr h
mutual
theorem Rep.kp {K : aD} {Bk Bk' : Addr -> Prop} {H H' : Hp} (k' : Kp Bk H Bk' H') : ∀ (d : D) (v : V), Rep K Bk H d v -> Rep K Bk' H' d v
 | .non, v, h => h
 | .bl b, v, h => h
 | .int i, v, h => h
 | .str x, v, h => h
 | .lst ds, v, ⟨a, vs, e, nb, h, r⟩ => ⟨a, vs, e, (k'.old _ _ h nb).2, (k'.old _ _ h nb).1, RepL.kp k' ds vs r⟩
 | .tup ds, v, ⟨a, vs, e, h, r⟩ => ⟨a, vs, e, SqT.kp k'.tup h, RepL.kp k' ds vs r⟩
 | .ins C ns ds, v, ⟨a, dx, vs, e, nb, h, r⟩ => ⟨a, dx, vs, e, (k'.old _ _ h nb).2, (k'.old _ _ h nb).1, RepL.kp k' ds vs r⟩
 | .dct, v, ⟨a, e, nb, h⟩ => ⟨a, e, (k'.old _ _ h nb).2, (k'.old _ _ h nb).1⟩
 | .opq none, v, h => h
 | .opq (some k), v, ⟨a, e, nb, h⟩ => ⟨a, e, (k'.old _ _ h nb).2, (k'.old _ _ h nb).1⟩
theorem RepL.kp {K : aD} {Bk Bk' : Addr -> Prop} {H H' : Hp} (k : Kp Bk H Bk' H') : ∀ (ds : List D) (vs : List V), RepL K Bk H ds vs -> RepL K Bk' H' ds vs
 | [], vs, h => h
 | d :: ds, vs, ⟨v, ws, e, h1, h2⟩ => ⟨v, ws, e, Rep.kp k d v h1, RepL.kp k ds ws h2⟩
end
def ScrAt (K : aD) (H : Hp) (a : Addr) (vs : List V) : Prop := (∃ o, H a = some (.frz o (.lst vs))) \/ SqL K (fun _ => none) a vs
theorem ScrAt.sq {K : aD} {H : Hp} {a : Addr} {vs : List V} (h : ScrAt K H a vs) : SqL K H a vs := by
 rcases h with ⟨o, h⟩ | (h | ⟨o, h⟩) | h
 ·exact .inl (.inr ⟨o, h⟩)
 ·cases h
 ·cases h
 ·exact .inr h
theorem ScrAt.keep {K : aD} {H H' : Hp} {a : Addr} {vs : List V} (h : ScrAt K H a vs) (k : ∀ o u, H a = some (.frz o u) -> H' a = some (.frz o u)) : ScrAt K H' a vs := by
 rcases h with ⟨o, h⟩ | h
 ·exact .inl ⟨o, k _ _ h⟩
 ·exact .inr h
def RepI (K : aD) (Bk : Addr -> Prop) (φ : List Addr) (H : Hp) : D ⊕ Nat -> V -> Prop
 | .inl d, v => Rep K Bk H d v
 | .inr n, v => ∃ a, v = .ref a /\ φ[n]? = some a
def RepIs (K : aD) (Bk : Addr -> Prop) (φ : List Addr) (H : Hp) : List (D ⊕ Nat) -> List V -> Prop
 | [], vs => vs = []
 | x :: xs, vs => ∃ v ws, vs = v :: ws /\ RepI K Bk φ H x v /\ RepIs K Bk φ H xs ws
theorem RepI.kp {K : aD} {Bk Bk' : Addr -> Prop} {φ φ' : List Addr} {H H' : Hp} (k : Kp Bk H Bk' H') (hφ : ∀ (n : Nat) (a : Addr), φ[n]? = some a -> φ'[n]? = some a) : ∀ {x : D ⊕ Nat} {v : V}, RepI K Bk φ H x v -> RepI K Bk' φ' H' x v
 | .inl d, v, h => Rep.kp k d v h
 | .inr n, v, ⟨a, h1, h2⟩ => ⟨a, h1, hφ _ _ h2⟩
theorem RepIs.kp {K : aD} {Bk Bk' : Addr -> Prop} {φ φ' : List Addr} {H H' : Hp} (k : Kp Bk H Bk' H') (hφ : ∀ (n : Nat) (a : Addr), φ[n]? = some a -> φ'[n]? = some a) : ∀ {xs : List (D ⊕ Nat)} {vs : List V}, RepIs K Bk φ H xs vs -> RepIs K Bk' φ' H' xs vs
 | [], vs, h => h
 | x :: xs, vs, ⟨v, ws, e, h1, h2⟩ => ⟨v, ws, e, h1.kp k hφ, RepIs.kp k hφ h2⟩
def RepV (K : aD) (B : Addr -> Prop) (φ : List Addr) (S : aO) (H : Hp) : Vl -> V -> Prop
 | .dat d, v => Rep K (kA B φ S) H d v
 | .cel n, v => ∃ a, v = .ref a /\ φ[n]? = some a
 | .cels ns, v => ∃ (a : Addr) (as : List Addr), v = .ref a /\ ¬ kA B φ S a /\ H a = some (.lst (as.map V.ref)) /\ ns.map (fun n => φ[n]?) = as.map some
 | .scr ns, v => ∃ a, v = .ref a /\ ScrAt K H a (ns.map V.int)
 | .tc xs, v => ∃ a vs, v = .ref a /\ SqT K H a vs /\ RepIs K (kA B φ S) φ H xs vs
def RepVs (K : aD) (B : Addr -> Prop) (φ : List Addr) (S : aO) (H : Hp) : List Vl -> List V -> Prop
 | [], vs => vs = []
 | d :: ds, vs => ∃ v ws, vs = v :: ws /\ RepV K B φ S H d v /\ RepVs K B φ S H ds ws
def RepF (K : aD) (B : Addr -> Prop) (φ : List Addr) (S : aO) (H : Hp) : List (Str × Vl) -> List (Str × V) -> Prop
 | [], vs => vs = []
 | d :: ds, vs => ∃ v ws, vs = (d.1, v) :: ws /\ RepV K B φ S H d.2 v /\ RepF K B φ S H ds ws
def jJ (fs : List (Str × V)) : List (Key × V) := fs.map fun p => (Sum.inr p.1, p.2)
def kvI (ks : List Int) (vs : List V) : List (Key × V) := (ks.map Sum.inl).zip vs
def kvT (ks : List (Int × Int)) (vs : List V) : List (List Key × V) := (ks.map fun p => [Sum.inl p.1, Sum.inl p.2]).zip vs
def Hj (K : aD) (B : Addr -> Prop) (φ : List Addr) (S : aO) (H : Hp) : Cell -> Addr -> Prop
 | .dead, _ => True
 | .lst ds, a => ∃ vs, H a = some (.lst vs) /\ RepL K (kA B φ S) H ds vs
 | .ins C fs, a => ∃ dx vfs, H a = some (.ins (He.ga K C) dx vfs) /\ RepF K B φ S H fs vfs
 | .dct fs, a => ∃ vfs, H a = some (.dK (jJ vfs)) /\ RepF K B φ S H fs vfs
 | .lv xs, a => ∃ vs, H a = some (.lst vs) /\ RepVs K B φ S H xs vs
 | .dki ks xs, a => ∃ vs, H a = some (.dK (kvI ks vs)) /\ RepVs K B φ S H xs vs
 | .dkt ks xs, a => ∃ vs, H a = some (.dT (kvT ks vs)) /\ RepVs K B φ S H xs vs
structure GInv (K : aD) (B : Addr -> Prop) (φ : List Addr) (S : aO) (H : Hp) : Prop where
 len : φ.length = S.length
 ok : ∀ (n : Nat) (c : Cell) (a : Addr), S[n]? = some c -> φ[n]? = some a -> Hj K B φ S H c a
 inj : ∀ (n m : Nat) (c c' : Cell) (a : Addr), S[n]? = some c -> c ≠ .dead -> S[m]? = some c' -> c' ≠ .dead -> φ[n]? = some a -> φ[m]? = some a -> n = m
 blk : ∀ a, nS φ S a -> ¬ B a
 btr : ∀ a, B a -> ∃ o, H a = some o
structure Ext (φ : List Addr) (S : aO) (H : Hp) (φ' : List Addr) (S' : aO) (H' : Hp) : Prop where
 old : ∀ b o, H b = some o -> ¬ nS φ S b -> H' b = some o /\ ¬ nS φ' S' b
 ids : ∀ (n : Nat) (a : Addr), φ[n]? = some a -> φ'[n]? = some a
section
variable {K : aD} {B : Addr -> Prop} {φ φ' φ₂ : List Addr} {S S' S₂ : aO} {H H' H₂ : Hp}
theorem Ext.refl : Ext φ S H φ S H := ⟨fun _ _ h n => ⟨h, n⟩, fun _ _ h => h⟩
theorem Ext.trans (a : Ext φ S H φ' S' H') (b : Ext φ' S' H' φ₂ S₂ H₂) : Ext φ S H φ₂ S₂ H₂ :=
 ⟨fun c o h n => b.old c o (a.old c o h n).1 (a.old c o h n).2, fun n x h => b.ids n x (a.ids n x h)⟩
theorem GInv.at_ (I : GInv K B φ S H) {a : Addr} (h : nS φ S a) : (∃ vs, H a = some (.lst vs)) \/ (∃ C dx fs, H a = some (.ins C dx fs)) \/ (∃ kvs, H a = some (.dK kvs)) \/ ∃ kvs, H a = some (.dT kvs) := by
 obtain ⟨n, c, h1, h2, h3⟩ := h;have q := I.ok n c a h1 h3;cases c with
 | dead => exact absurd rfl h2
 | lst ds => obtain ⟨vs, e, _⟩ := q; exact .inl ⟨vs, e⟩
 | ins C fs => obtain ⟨dx, vs, e, _⟩ := q; exact .inr (.inl ⟨_, dx, vs, e⟩)
 | dct fs => obtain ⟨vs, e, _⟩ := q; exact .inr (.inr (.inl ⟨_, e⟩))
 | lv xs => obtain ⟨vs, e, _⟩ := q; exact .inl ⟨vs, e⟩
 | dki ks xs => obtain ⟨vs, e, _⟩ := q; exact .inr (.inr (.inl ⟨_, e⟩))
 | dkt ks xs => obtain ⟨vs, e, _⟩ := q; exact .inr (.inr (.inr ⟨_, e⟩))
theorem GInv.some_ (I : GInv K B φ S H) {a : Addr} (h : nS φ S a) : H a ≠ none := by
 rcases I.at_ h with ⟨_, e⟩ | ⟨_, _, _, e⟩ | ⟨_, e⟩ | ⟨_, e⟩ <;> rw [e] <;> simp
theorem GInv.fresh (I : GInv K B φ S H) {a : Addr} (h : H a = none) : ¬ nS φ S a := fun q => I.some_ q h
theorem GInv.nblk (I : GInv K B φ S H) {a : Addr} (h : H a = none) : ¬ kA B φ S a := fun q => by
 rcases q with q | q
 ·obtain ⟨u, e⟩ := I.btr a q; rw [h] at e; cases e
 ·exact I.fresh h q
theorem GInv.ntup (I : GInv K B φ S H) {a : Addr} {xs : List V} (h : H a = some (.tup xs)) : ¬ nS φ S a := fun q => by
 rcases I.at_ q with ⟨_, e⟩ | ⟨_, _, _, e⟩ | ⟨_, e⟩ | ⟨_, e⟩ <;> rw [h] at e <;> cases e
theorem GInv.nfrz (I : GInv K B φ S H) {a : Addr} {o : Obj} {u : HO} (h : H a = some (.frz o u)) : ¬ nS φ S a := fun q => by
 rcases I.at_ q with ⟨_, e⟩ | ⟨_, _, _, e⟩ | ⟨_, e⟩ | ⟨_, e⟩ <;> rw [h] at e <;> cases e
theorem Ext.kp (e : Ext φ S H φ' S' H') (I : GInv K B φ S H) : Kp (kA B φ S) H (kA B φ' S') H' where
 old := fun b o h n => by
  obtain ⟨h1, h2⟩ := e.old b o h (fun q => n (.inr q))
  exact ⟨h1, fun q => by
   rcases q with q | q
   ·exact n (.inl q)
   ·exact h2 q⟩
 tup := fun b u h => by
  rcases h with h | ⟨o, h⟩
  ·exact .inl (e.old _ _ h (I.ntup h)).1
  ·exact .inr ⟨o, (e.old _ _ h (I.nfrz h)).1⟩
theorem Ac (e : ∀ (n : Nat) (a : Addr), φ[n]? = some a -> φ'[n]? = some a) : ∀ (ns : List Nat) (as : List Addr), ns.map (fun n => φ[n]?) = as.map some -> ns.map (fun n => φ'[n]?) = as.map some
 | [], as, h => h
 | n :: ns, [], h => by simp at h
 | n :: ns, a :: as, h => by
  simp only [aN, List.cons.injEq] at h ⊢;exact ⟨e _ _ h.1, Ac e ns as h.2⟩
theorem RepV.ext (e : Ext φ S H φ' S' H') (I : GInv K B φ S H) : ∀ {d : Vl} {v : V}, RepV K B φ S H d v -> RepV K B φ' S' H' d v
 | .dat d, v, h => Rep.kp (e.kp I) d v h
 | .cel n, v, ⟨a, h1, h2⟩ => ⟨a, h1, e.ids _ _ h2⟩
 | .cels ns, v, ⟨a, as, h1, h2, h3, h4⟩ => ⟨a, as, h1, ((e.kp I).old _ _ h3 h2).2, ((e.kp I).old _ _ h3 h2).1, Ac e.ids ns as h4⟩
 | .scr ns, v, ⟨a, h1, h2⟩ => ⟨a, h1, h2.keep fun o u h => (e.old _ _ h (I.nfrz h)).1⟩
 | .tc xs, v, ⟨a, vs, h1, h2, h3⟩ => ⟨a, vs, h1, SqT.kp (e.kp I).tup h2, h3.kp (e.kp I) e.ids⟩
theorem RepVs.ext (e : Ext φ S H φ' S' H') (I : GInv K B φ S H) : ∀ {ds : List Vl} {vs : List V}, RepVs K B φ S H ds vs -> RepVs K B φ' S' H' ds vs
 | [], vs, h => h
 | d :: ds, vs, ⟨v, ws, e1, h1, h2⟩ => ⟨v, ws, e1, h1.ext e I, RepVs.ext e I h2⟩
theorem RepF.ext (e : Ext φ S H φ' S' H') (I : GInv K B φ S H) : ∀ {ds : List (Str × Vl)} {vs : List (Str × V)}, RepF K B φ S H ds vs -> RepF K B φ' S' H' ds vs
 | [], vs, h => h
 | d :: ds, vs, ⟨v, ws, e1, h1, h2⟩ => ⟨v, ws, e1, h1.ext e I, RepF.ext e I h2⟩
theorem Ext.repL (e : Ext φ S H φ' S' H') (I : GInv K B φ S H) {ds : List D} {vs : List V} (h : RepL K (kA B φ S) H ds vs) : RepL K (kA B φ' S') H' ds vs := RepL.kp (e.kp I) ds vs h
theorem dW {B' : Addr -> Prop} (hV : ∀ {d : Vl} {v : V}, RepV K B φ S H d v -> RepV K B' φ' S' H' d v) : ∀ {ds : List Vl} {vs : List V}, RepVs K B φ S H ds vs -> RepVs K B' φ' S' H' ds vs
 | [], vs, h => h
 | d :: ds, vs, ⟨v, ws, e1, h1, h2⟩ => ⟨v, ws, e1, hV h1, dW hV h2⟩
def RepE (K : aD) (B : Addr -> Prop) (φ : List Addr) (S : aO) (H : Hp) (ρ : Ev) (σ : L2.St) : Prop :=
 ρ.length = σ.length /\ ∀ (i : Nat) (d : Vl), ρ[i]? = some (some d) -> ∃ v, σ[i]? = some (some v) /\ RepV K B φ S H d v
theorem RepE.ext {ρ : Ev} {σ : L2.St} (e : Ext φ S H φ' S' H') (I : GInv K B φ S H) (h : RepE K B φ S H ρ σ) : RepE K B φ' S' H' ρ σ :=
 ⟨h.1, fun i d q => by
  obtain ⟨v, h1, h2⟩ := h.2 i d q;exact ⟨v, h1, h2.ext e I⟩⟩
theorem RepE.set {ρ : Ev} {σ : L2.St} {d : Vl} {v : V} (h : RepE K B φ S H ρ σ) (r : RepV K B φ S H d v) (i : Nat) : RepE K B φ S H (ρ.set i (some d)) (σ.set i (some v)) := by
 refine ⟨by simp [h.1], fun j d' q => ?_⟩
 rw [aT] at q ⊢
 by_cases e : i = j
 ·subst e
  rw [if_pos rfl] at q ⊢
  by_cases hl : i < ρ.length
  ·rw [if_pos hl] at q
   cases q;rw [if_pos (by rw [<- h.1]; exact hl)]
   exact ⟨v, rfl, r⟩
  ·rw [if_neg hl] at q; cases q
 ·rw [if_neg e] at q ⊢
  exact h.2 j d' q
theorem RepE.forget {ρ : Ev} {σ : L2.St} (h : RepE K B φ S H ρ σ) (i : Nat) : RepE K B φ S H (ρ.set i none) σ := by
 refine ⟨by simp [h.1], fun j d' q => ?_⟩
 rw [aT] at q
 by_cases e : i = j
 ·subst e
  rw [if_pos rfl] at q
  by_cases hl : i < ρ.length
  ·rw [if_pos hl] at q; cases q
  ·rw [if_neg hl] at q; cases q
 ·rw [if_neg e] at q
  exact h.2 j d' q
theorem mL {x : Cell} {p a : Addr} (hl : φ.length = S.length) : nS (φ ++ [p]) (S ++ [x]) a ↔ nS φ S a \/ (x ≠ .dead /\ a = p) := by
 constructor
 ·rintro ⟨n, c, h1, h2, h3⟩
  by_cases hn : n < S.length
  ·rw [aJ hn] at h1
   rw [aJ (by omega)] at h3
   exact .inl ⟨n, c, h1, h2, h3⟩
  ·have e : n = S.length := by
    have := (aH.mp h1).1;simp at this;omega
   subst e;rw [bC (cE _)] at h1;rw [<- hl, bC (cE _)] at h3;simp at h1 h3;subst h1;exact .inr ⟨h2, h3.symm⟩
 ·rintro (⟨n, c, h1, h2, h3⟩ | ⟨h, rfl⟩)
  ·exact ⟨n, c, by rw [aJ (aH.mp h1).1]; exact h1, h2, by rw [aJ (aH.mp h3).1]; exact h3⟩
  ·exact ⟨S.length, x, by simp, h, by rw [<- hl]; simp⟩
theorem Ext.new {p : Addr} {o : HO} (I : GInv K B φ S H) (hp : H p = none) : Ext φ S H φ S (upd H p o) :=
 ⟨fun b u h n => ⟨by rw [upd_ne (ne_of_none h hp)]; exact h, n⟩, fun _ _ h => h⟩
theorem GInv.mono {o : Ext φ S H φ S H'} (I : GInv K B φ S H) (h : ∀ (n : Nat) (c : Cell) (a : Addr), S[n]? = some c -> c ≠ .dead -> φ[n]? = some a -> H' a = H a) : GInv K B φ S H' where
 len := I.len
 ok := fun n c a h1 h2 => by
  have q := I.ok n c a h1 h2;cases c with
  | dead => trivial
  | lst ds => obtain ⟨vs, e, r⟩ := q; exact ⟨vs, by rw [h n _ a h1 (by simp) h2]; exact e, o.repL I r⟩
  | ins C fs => obtain ⟨dx, vs, e, r⟩ := q; exact ⟨dx, vs, by rw [h n _ a h1 (by simp) h2]; exact e, r.ext o I⟩
  | dct fs => obtain ⟨vs, e, r⟩ := q; exact ⟨vs, by rw [h n _ a h1 (by simp) h2]; exact e, r.ext o I⟩
  | lv xs => obtain ⟨vs, e, r⟩ := q; exact ⟨vs, by rw [h n _ a h1 (by simp) h2]; exact e, r.ext o I⟩
  | dki ks xs => obtain ⟨vs, e, r⟩ := q; exact ⟨vs, by rw [h n _ a h1 (by simp) h2]; exact e, r.ext o I⟩
  | dkt ks xs => obtain ⟨vs, e, r⟩ := q; exact ⟨vs, by rw [h n _ a h1 (by simp) h2]; exact e, r.ext o I⟩
 inj := I.inj
 blk := I.blk
 btr := fun a h => by
  obtain ⟨u, e⟩ := I.btr a h;exact ⟨u, (o.old a u e fun q => I.blk a q h).1⟩
theorem GInv.new {p : Addr} {o : HO} (I : GInv K B φ S H) (hp : H p = none) : GInv K B φ S (upd H p o) :=
 GInv.mono (o := Ext.new I hp) I fun n c a h1 h2 h3 => by
  rw [upd_ne];intro e;subst e;exact I.fresh hp ⟨n, c, h1, h2, h3⟩
theorem Ext.newC {p : Addr} {o : HO} {x : Cell} (I : GInv K B φ S H) (hp : H p = none) : Ext φ S H (φ ++ [p]) (S ++ [x]) (upd H p o) where
 old := fun b u h n => by
  have hb : b ≠ p := ne_of_none h hp;exact ⟨by rw [upd_ne hb]; exact h, fun q => by
   rcases (mL I.len).mp q with q | ⟨_, q⟩
   ·exact n q
   ·exact hb q⟩
 ids := fun n a h => by rw [aJ (aH.mp h).1]; exact h
theorem GInv.newC {p : Addr} {o : HO} {x : Cell} (I : GInv K B φ S H) (hp : H p = none) (hx : x ≠ .dead -> Hj K B (φ ++ [p]) (S ++ [x]) (upd H p o) x p) : GInv K B (φ ++ [p]) (S ++ [x]) (upd H p o) where
 len := by simp [I.len]
 ok := fun n c a h1 h2 => by
  by_cases hn : n < S.length
  ·rw [aJ hn] at h1
   rw [aJ (by rw [I.len]; exact hn)] at h2
   have q := I.ok n c a h1 h2;have ex := Ext.newC (o := o) (x := x) I hp;have ha : c ≠ .dead -> upd H p o a = H a := fun hc => by
    rw [upd_ne];intro e;subst e;exact I.fresh hp ⟨n, c, h1, hc, h2⟩
   cases c with
   | dead => trivial
   | lst ds => obtain ⟨vs, e, r⟩ := q; exact ⟨vs, by rw [ha (by simp)]; exact e, ex.repL I r⟩
   | ins C fs => obtain ⟨dx, vs, e, r⟩ := q; exact ⟨dx, vs, by rw [ha (by simp)]; exact e, r.ext ex I⟩
   | dct fs => obtain ⟨vs, e, r⟩ := q; exact ⟨vs, by rw [ha (by simp)]; exact e, r.ext ex I⟩
   | lv xs => obtain ⟨vs, e, r⟩ := q; exact ⟨vs, by rw [ha (by simp)]; exact e, r.ext ex I⟩
   | dki ks xs => obtain ⟨vs, e, r⟩ := q; exact ⟨vs, by rw [ha (by simp)]; exact e, r.ext ex I⟩
   | dkt ks xs => obtain ⟨vs, e, r⟩ := q; exact ⟨vs, by rw [ha (by simp)]; exact e, r.ext ex I⟩
  ·have e : n = S.length := by
    have := (aH.mp h1).1;simp at this;omega
   subst e;rw [bC (cE _)] at h1;rw [<- I.len, bC (cE _)] at h2;simp at h1 h2;subst h1 h2;cases x with
   | dead => trivial
   | _ => exact hx (by simp)
 inj := fun n m c c' a h1 h2 h3 h4 h5 h6 => by
  have key : ∀ (n : Nat) (c : Cell), (S ++ [x])[n]? = some c -> (n < S.length /\ S[n]? = some c) \/ n = S.length := fun n c h => by
   by_cases hn : n < S.length
   ·rw [aJ hn] at h; exact .inl ⟨hn, h⟩
   ·have := (aH.mp h).1
    simp at this;exact .inr (by omega)
  have kφ : ∀ n : Nat, n < S.length -> (φ ++ [p])[n]? = φ[n]? := fun n hn => aJ (by rw [I.len]; exact hn)
  have kp : (φ ++ [p])[S.length]? = some p := by rw [<- I.len]; simp
  rcases key n c h1 with ⟨hn, e1⟩ | e1 <;> rcases key m c' h3 with ⟨hm, e2⟩ | e2
  ·rw [kφ n hn] at h5
   rw [kφ m hm] at h6;exact I.inj n m c c' a e1 h2 e2 h4 h5 h6
  ·subst e2
   rw [kp] at h6;cases h6;rw [kφ n hn] at h5;exact absurd ⟨n, c, e1, h2, h5⟩ (I.fresh hp)
  ·subst e1
   rw [kp] at h5;cases h5;rw [kφ m hm] at h6;exact absurd ⟨m, c', e2, h4, h6⟩ (I.fresh hp)
  ·omega
 blk := fun a h => by
  rcases (mL I.len).mp h with h | ⟨_, h⟩
  ·exact I.blk a h
  ·rw [h]; intro q; obtain ⟨u, e⟩ := I.btr p q; rw [hp] at e; cases e
 btr := fun a h => by
  obtain ⟨u, e⟩ := I.btr a h;exact ⟨u, by rw [upd_ne (ne_of_none e hp)]; exact e⟩
theorem GX {n : Nat} {c x : Cell} {a : Addr} (h : S[n]? = some c) (hc : c ≠ .dead) (hx : x ≠ .dead) : nS φ (S.set n x) a ↔ nS φ S a := by
 constructor
 ·rintro ⟨m, c', h1, h2, h3⟩
  rw [aT] at h1
  by_cases e : n = m
  ·subst e
   exact ⟨n, c, h, hc, h3⟩
  ·rw [if_neg e] at h1
   exact ⟨m, c', h1, h2, h3⟩
 ·rintro ⟨m, c', h1, h2, h3⟩
  by_cases e : n = m
  ·subst e
   exact ⟨n, x, by rw [aT, if_pos rfl, if_pos (aH.mp h).1], hx, h3⟩
  ·exact ⟨m, c', by rw [aT, if_neg e]; exact h1, h2, h3⟩
theorem El {n : Nat} {a : Addr} (h : nS φ (S.set n .dead) a) : nS φ S a := by
 obtain ⟨m, c', h1, h2, h3⟩ := h;rw [aT] at h1
 by_cases e : n = m
 ·rw [if_pos e] at h1
  by_cases hl : n < S.length
  ·rw [if_pos hl] at h1; cases h1; exact absurd rfl h2
  ·rw [if_neg hl] at h1; cases h1
 ·rw [if_neg e] at h1
  exact ⟨m, c', h1, h2, h3⟩
theorem Ext.put {n : Nat} {c x : Cell} {a : Addr} {o : HO} (hn : S[n]? = some c) (hc : c ≠ .dead) (ha : φ[n]? = some a) (hx : x ≠ .dead) : Ext φ S H φ (S.set n x) (upd H a o) where
 old := fun b u h nb => by
  have hb : b ≠ a := fun e => by subst e; exact nb ⟨n, c, hn, hc, ha⟩
  exact ⟨by rw [upd_ne hb]; exact h, fun q => nb ((GX hn hc hx).mp q)⟩
 ids := fun _ _ h => h
theorem GInv.put {n : Nat} {c x : Cell} {a : Addr} {o : HO} (I : GInv K B φ S H) (hn : S[n]? = some c) (hc : c ≠ .dead) (ha : φ[n]? = some a) (hx : x ≠ .dead) (ok : Hj K B φ (S.set n x) (upd H a o) x a) : GInv K B φ (S.set n x) (upd H a o) where
 len := by simp [I.len]
 ok := fun m c' b h1 h2 => by
  by_cases e : n = m
  ·subst e
   rw [aT, if_pos rfl, if_pos (aH.mp hn).1] at h1;cases h1;rw [ha] at h2;cases h2;exact ok
  ·rw [aT, if_neg e] at h1
   have q := I.ok m c' b h1 h2;have ex := Ext.put (H := H) (o := o) hn hc ha hx;have hb : c' ≠ .dead -> upd H a o b = H b := fun hc' => upd_ne fun e2 => by
    subst e2;exact e (I.inj n m c c' b hn hc h1 hc' ha h2)
   cases c' with
   | dead => trivial
   | lst ds => obtain ⟨vs, e, r⟩ := q; exact ⟨vs, by rw [hb (by simp)]; exact e, ex.repL I r⟩
   | ins C fs => obtain ⟨dx, vs, e, r⟩ := q; exact ⟨dx, vs, by rw [hb (by simp)]; exact e, r.ext ex I⟩
   | dct fs => obtain ⟨vs, e, r⟩ := q; exact ⟨vs, by rw [hb (by simp)]; exact e, r.ext ex I⟩
   | lv xs => obtain ⟨vs, e, r⟩ := q; exact ⟨vs, by rw [hb (by simp)]; exact e, r.ext ex I⟩
   | dki ks xs => obtain ⟨vs, e, r⟩ := q; exact ⟨vs, by rw [hb (by simp)]; exact e, r.ext ex I⟩
   | dkt ks xs => obtain ⟨vs, e, r⟩ := q; exact ⟨vs, by rw [hb (by simp)]; exact e, r.ext ex I⟩
 inj := fun i j d d' b h1 h2 h3 h4 h5 h6 => by
  have key : ∀ (i : Nat) (d : Cell), (S.set n x)[i]? = some d -> d ≠ .dead -> ∃ d0, S[i]? = some d0 /\ d0 ≠ .dead := fun i d h hd => by
   by_cases e : n = i
   ·subst e; exact ⟨c, hn, hc⟩
   ·rw [aT, if_neg e] at h; exact ⟨d, h, hd⟩
  obtain ⟨d0, e1, e2⟩ := key i d h1 h2;obtain ⟨d1, e3, e4⟩ := key j d' h3 h4;exact I.inj i j d0 d1 b e1 e2 e3 e4 h5 h6
 blk := fun b h => I.blk b ((GX hn hc hx).mp h)
 btr := fun b h => by
  obtain ⟨u, e⟩ := I.btr b h;exact ⟨u, by rw [upd_ne]; exact e; intro q; subst q; exact I.blk b ⟨n, c, hn, hc, ha⟩ h⟩
theorem Ext.kill {n : Nat} : Ext φ S H φ (S.set n .dead) H := ⟨fun b o h nb => ⟨h, fun q => nb (El q)⟩, fun _ _ h => h⟩
theorem GInv.kill {n : Nat} (I : GInv K B φ S H) : GInv K B φ (S.set n .dead) H where
 len := by simp [I.len]
 ok := fun m c' b h1 h2 => by
  by_cases e : n = m
  ·rw [aT, if_pos e] at h1
   by_cases hl : n < S.length
   ·rw [if_pos hl] at h1; cases h1; trivial
   ·rw [if_neg hl] at h1; cases h1
  ·rw [aT, if_neg e] at h1
   have q := I.ok m c' b h1 h2;have ex := Ext.kill (φ := φ) (S := S) (H := H) (n := n);cases c' with
   | dead => trivial
   | lst ds => obtain ⟨vs, e, r⟩ := q; exact ⟨vs, e, ex.repL I r⟩
   | ins C fs => obtain ⟨dx, vs, e, r⟩ := q; exact ⟨dx, vs, e, r.ext ex I⟩
   | dct fs => obtain ⟨vs, e, r⟩ := q; exact ⟨vs, e, r.ext ex I⟩
   | lv xs => obtain ⟨vs, e, r⟩ := q; exact ⟨vs, e, r.ext ex I⟩
   | dki ks xs => obtain ⟨vs, e, r⟩ := q; exact ⟨vs, e, r.ext ex I⟩
   | dkt ks xs => obtain ⟨vs, e, r⟩ := q; exact ⟨vs, e, r.ext ex I⟩
 inj := fun i j d d' b h1 h2 h3 h4 h5 h6 => by
  have key : ∀ (i : Nat) (d : Cell), (S.set n .dead)[i]? = some d -> d ≠ .dead -> S[i]? = some d := fun i d h hd => by
   rw [aT] at h
   by_cases e : n = i
   ·rw [if_pos e] at h
    by_cases hl : n < S.length
    ·rw [if_pos hl] at h; cases h; exact absurd rfl hd
    ·rw [if_neg hl] at h; cases h
   ·rw [if_neg e] at h; exact h
  exact I.inj i j d d' b (key i d h1 h2) h2 (key j d' h3 h4) h4 h5 h6
 blk := fun b h => I.blk b (El h)
 btr := I.btr
theorem GInv.killed {n : Nat} {c : Cell} {a : Addr} (I : GInv K B φ S H) (hn : S[n]? = some c) (hc : c ≠ .dead) (ha : φ[n]? = some a) : ¬ kA B φ (S.set n .dead) a := fun q => by
 rcases q with q | ⟨m, c', h1, h2, h3⟩
 ·exact I.blk a ⟨n, c, hn, hc, ha⟩ q
 ·rw [aT] at h1
  by_cases e : n = m
  ·rw [if_pos e] at h1
   by_cases hl : n < S.length
   ·rw [if_pos hl] at h1; cases h1; exact h2 rfl
   ·rw [if_neg hl] at h1; cases h1
  ·rw [if_neg e] at h1
   exact e (I.inj n m c c' a hn hc h1 h2 ha h3)
end
abbrev FE := Ev -> aO -> Res Vl
abbrev FT := Ev -> aO -> Res Bool
abbrev FA := Ev -> aO -> Res (List Vl)
abbrev FO := Ev -> aO -> Res (Option Int)
abbrev Rl (α β : Type) := (Addr -> Prop) -> List Addr -> aO -> Hp -> α -> β -> Prop
def RepX (K : aD) (B : Addr -> Prop) (φ : List Addr) (S : aO) (H : Hp) (e : Er) (c : Value) (x : Option Addr) : Prop :=
 c = .ref (He.ga K e.cls) /\ ((e.ns = [] /\ x = none) \/ ∃ d vs, x = some d /\ H d = some (.xd (e.ns.zip vs)) /\ RepL K (kA B φ S) H e.xs vs)
section
variable {α β α' β' : Type}
def Fin (K : aD) (W : WX) (σ : L2.St) (R : Rl α β) (B : Addr -> Prop) (φ : List Addr) (S : aO) (H : Hp) (r : Res α) (Q : β -> Hp -> Prop) : Prop := match r with
 | .ok d S' => ∀ φ' v H', GInv K B φ' S' H' -> Ext φ S H φ' S' H' -> R B φ' S' H' d v -> Q v H'
 | .err e S' => ∀ φ' c x H', GInv K B φ' S' H' -> Ext φ S H φ' S' H' -> RepX K B φ' S' H' e c x -> W c x σ H'
 | .stuck => False
def rd (K : aD) (W : WX) (R : Rl α β) (m : Ev -> aO -> Res α) : L2.St -> Hp -> (β -> Hp -> Prop) -> Prop := fun σ H Q =>
 ∃ B φ S ρ, GInv K B φ S H /\ RepE K B φ S H ρ σ /\ Fin K W σ R B φ S H (m ρ S) Q
end
def RB : Rl Bool Bool := fun _ _ _ _ b c => c = b
def RO : Rl (Option Int) (Option Int) := fun _ _ _ _ b c => c = b
abbrev dC (K : aD) (W : WX) (m : FE) : TE := rd K W (RepV K) m
abbrev yS (K : aD) (W : WX) (m : FT) : TT := rd K W RB m
abbrev F8 (K : aD) (W : WX) (m : FA) : TA := rd K W (RepVs K) m
abbrev rdO (K : aD) (W : WX) (m : FO) : TO := rd K W RO m
section
variable {α β α' β' : Type} {K : aD} {W : WX} {σ : L2.St} {R : Rl α β} {R' : Rl α' β'} {B : Addr -> Prop} {φ φ' : List Addr} {S S' : aO} {H H' : Hp}
theorem Fin.ext {r : Res α} {Q : β -> Hp -> Prop} (f : Fin K W σ R B φ S H r Q) (e : Ext φ S H φ' S' H') : Fin K W σ R B φ' S' H' r Q := by
 cases r with
 | ok d S1 => exact fun φ1 v H1 I1 X r => f φ1 v H1 I1 (e.trans X) r
 | err x S1 => exact fun φ1 c x H1 I1 X r => f φ1 c x H1 I1 (e.trans X) r
 | stuck => exact f
theorem cR {m : Ev -> aO -> Res α} {k : α -> Ev -> aO -> Res α'} {Q : β' -> Hp -> Prop} {Q1 : β -> Hp -> Prop} (h : rd K W R' (fun ρ S => (m ρ S).bind fun a S' => k a ρ S') σ H Q)
  (hk : ∀ B φ S ρ d v H1, GInv K B φ S H1 -> RepE K B φ S H1 ρ σ -> R B φ S H1 d v -> Fin K W σ R' B φ S H1 (k d ρ S) Q -> Q1 v H1) : rd K W R m σ H Q1 := by
 obtain ⟨B, φ, S, ρ, I, E, f⟩ := h;refine ⟨B, φ, S, ρ, I, E, ?_⟩
 dsimp only at f;cases e : m ρ S with
 | stuck => rw [e] at f; exact f
 | err x S' => rw [e] at f; exact f
 | ok d S' =>
  rw [e] at f;exact fun φ' v H' I' X r => hk B φ' S' ρ d v H' I' (E.ext X I) r (Fin.ext f X)
theorem jK {ρ : Ev} {m : Ev -> aO -> Res α} {k : α -> aO -> Res α'} {Q : β' -> Hp -> Prop} {Q1 : β -> Hp -> Prop} (I : GInv K B φ S H) (E : RepE K B φ S H ρ σ) (f : Fin K W σ R' B φ S H ((m ρ S).bind k) Q)
  (hk : ∀ φ' S' d v H1, GInv K B φ' S' H1 -> Ext φ S H φ' S' H1 -> RepE K B φ' S' H1 ρ σ -> R B φ' S' H1 d v -> Fin K W σ R' B φ' S' H1 (k d S') Q -> Q1 v H1) : rd K W R m σ H Q1 := by
 refine ⟨B, φ, S, ρ, I, E, ?_⟩
 cases e : m ρ S with
 | stuck => rw [e] at f; exact f
 | err x S' => rw [e] at f; exact f
 | ok d S' =>
  rw [e] at f;exact fun φ' v H' I' X r => hk φ' S' d v H' I' X (E.ext X I) r (Fin.ext f X)
theorem Fin.now {d : α} {v : β} {Q : β -> Hp -> Prop} (f : Fin K W σ R B φ S H (.ok d S) Q) (I : GInv K B φ S H) (r : R B φ S H d v) : Q v H := f φ v H I Ext.refl r
end
def newL (c : Bool) (ds : List D) (S : aO) : Res Vl := if c then .ok (.cel S.length) (S ++ [.lst ds]) else .ok (.dat (.lst ds)) S
section
variable {K : aD} {W : WX} {σ : L2.St} {B : Addr -> Prop} {φ φ' : List Addr} {S S' : aO} {H H' : Hp} {Q : VK}
theorem pL {l : List Addr} {p : Addr} : (l ++ [p])[l.length]? = some p := by simp
theorem Fin.newT {ds : List D} {vs : List V} {p : Addr} (f : Fin K W σ (RepV K) B φ S H (.ok (.dat (.tup ds)) S) Q) (I : GInv K B φ S H) (r : RepL K (kA B φ S) H ds vs) (hp : H p = none) : Q (.ref p) (upd H p (.tup vs)) :=
 f φ _ _ (I.new hp) (Ext.new I hp) ⟨p, vs, rfl, .inl (.inl upd_same), (Ext.new I hp).repL I r⟩
theorem Fin.newL {c : Bool} {ds : List D} {vs : List V} {p : Addr} (f : Fin K W σ (RepV K) B φ S H (newL c ds S) Q) (I : GInv K B φ S H) (r : RepL K (kA B φ S) H ds vs) (hp : H p = none) : Q (.ref p) (upd H p (.lst vs)) := by
 unfold PH.newL at f;cases c with
 | false =>
  refine f φ _ _ (I.new hp) (Ext.new I hp) ⟨p, vs, rfl, I.nblk hp, upd_same, (Ext.new I hp).repL I r⟩
 | true =>
  have X := Ext.newC (o := .lst vs) (x := .lst ds) I hp;refine f (φ ++ [p]) _ _ (I.newC hp fun _ => ⟨vs, upd_same, X.repL I r⟩) X ⟨p, rfl, ?_⟩
  rw [<- I.len];exact pL
end
instance instIntMulOk (a b : Int) : Decidable (IntMulOk a b) := by unfold IntMulOk; infer_instance
instance instCDiv (a b : Int) : Decidable (CDiv a b) := by unfold CDiv; infer_instance
instance instCPow (a b : Int) : Decidable (CPow a b) := by unfold CPow; infer_instance
def lk : Ev -> Nat -> Option Vl
 | [], _ => none
 | x :: _, 0 => x
 | _ :: r, n + 1 => lk r n
theorem PF : ∀ {ρ : Ev} {i : Nat} {d : Vl}, lk ρ i = some d -> ρ[i]? = some (some d)
 | [], _, _, h => by cases h
 | x :: _, 0, d, h => by
  have e : x = some d := h;rw [e]; rfl
 | _ :: r, n + 1, d, h => by
  have e := PF (ρ := r) (i := n) (d := d) h
  simpa using e
def aC (i : Nat) : FE := fun ρ S => match lk ρ i with
 | some d => .ok d S
 | none => .stuck
def mC (d : D) : FE := fun _ S => .ok (.dat d) S
def aU (f : Vl -> Vl -> aO -> Res Vl) (a b : FE) : FE := fun ρ S => (a ρ S).bind fun x S1 => (b ρ S1).bind fun y S2 => f x y S2
def m1 (f : Vl -> aO -> Res Vl) (a : FE) : FE := fun ρ S => (a ρ S).bind fun x S1 => f x S1
def fR (K : aD) (r : R2) (f : Vl -> Vl -> aO -> Res Vl) : Prop := ∀ {W : WX} {σ : L2.St} {B : Addr -> Prop} {φ : List Addr} {S : aO} {H : Hp} {x y : V} {d e : Vl} {Q : VK}, GInv K B φ S H -> RepV K B φ S H d x -> RepV K B φ S H e y -> Fin K W σ (RepV K) B φ S H (f d e S) Q -> r x y H Q
def Hf (K : aD) (r : V -> Hp -> VK -> Prop) (f : Vl -> aO -> Res Vl) : Prop := ∀ {W : WX} {σ : L2.St} {B : Addr -> Prop} {φ : List Addr} {S : aO} {H : Hp} {x : V} {d : Vl} {Q : VK}, GInv K B φ S H -> RepV K B φ S H d x -> Fin K W σ (RepV K) B φ S H (f d S) Q -> r x H Q
section
variable {X : Cx} {W : WX} {e a b c : Expr} {pos p : Pos} {x : Str}
theorem fv (i : Nat) (hN : X.N[i]? = some x := by rfl) (hv : Vis X.env.scope x := by first | exact FK rfl | exact Cr (FK rfl) | exact Cr (Cr rfl)) (hd : (x == ("__debug__" : Str)) = false := by decide)
  (hcd : (x == ("__classdict__" : Str)) = false := by decide) : PE X (.Name x pos) (dC X.K W (aC i)) := dM (pe_var hN hv hd hcd) fun σ H Q h => by
 obtain ⟨B, φ, S, ρ, I, E, f⟩ := h;unfold aC at f;cases q : lk ρ i with
 | none => rw [q] at f; exact f.elim
 | some d =>
  rw [q] at f;obtain ⟨v, h1, h2⟩ := E.2 i d (PF q);exact ⟨v, h1, f.now I h2⟩
theorem QT {v : V} {d : D} (h : PE X e (tC v)) (r : ∀ Bk H, Rep X.K Bk H d v) : PE X e (dC X.K W (mC d)) := dM h fun σ H Q h => by
 obtain ⟨B, φ, S, ρ, I, E, f⟩ := h;exact Fin.now (v := v) f I (r _ _)
theorem DV {K : aD} {r : R2} {f : Vl -> Vl -> aO -> Res Vl} {ma mb : FE} {σ : L2.St} {H : Hp} {Q : VK} (s : fR K r f) (h : dC K W (aU f ma mb) σ H Q) : tOp r (dC K W ma) (dC K W mb) σ H Q :=
 cR (k := fun x ρ S => (mb ρ S).bind fun y S2 => f x y S2) h fun B φ S ρ d v H1 I E r1 f' => jK I E f' fun φ' S' e w H2 I2 X2 E2 r2 f2 => s I2 (r1.ext X2 I) r2 f2
theorem cV {op : Operator} {r : R2} {f : Vl -> Vl -> aO -> Res Vl} {ma mb : FE} (o : OpR X (binaryOp op) r) (s : fR X.K r f) (ha : PE X a (dC X.K W ma)) (hb : PE X b (dC X.K W mb)) : PE X (.BinOp a op b pos) (dC X.K W (aU f ma mb)) :=
 dM (pe_op o ha hb) fun σ H Q h => DV s h
theorem uJ {op : CmpOp} {r : R2} {f : Vl -> Vl -> aO -> Res Vl} {ma mb : FE} (o : OpR X (compareOp op) r) (s : fR X.K r f) (ha : PE X a (dC X.K W ma)) (hb : PE X b (dC X.K W mb)) (hm : behindInMarks op b = false := by rfl) : PE X (.Compare a [op] [b] pos) (dC X.K W (aU f ma mb)) :=
 dM (e_cmp o ha hb hm) fun σ H Q h => DV s h
theorem OX {K : aD} {r : V -> Hp -> VK -> Prop} {f : Vl -> aO -> Res Vl} {ma : FE} {σ : L2.St} {H : Hp} {Q : VK} (s : Hf K r f) (h : dC K W (m1 f ma) σ H Q) : dC K W ma σ H fun x H1 => r x H1 Q :=
 cR (k := fun x ρ S => f x S) h fun B φ S ρ d v H1 I E r1 f' => s I r1 f'
def wQ : Vl -> Vl -> aO -> Res Vl
 | .dat (.int i), .dat (.int j), S => .ok (.dat (.int (i - j))) S
 | _, _, _ => .stuck
def qN : Vl -> Vl -> aO -> Res Vl
 | .dat (.int i), .dat (.int j), S => if IntMulOk i j then .ok (.dat (.int (i * j))) S else .stuck
 | _, _, _ => .stuck
def CC : Vl -> Vl -> aO -> Res Vl
 | .dat (.int i), .dat (.int j), S => if 0 < j then .ok (.dat (.int (i % j))) S else .stuck
 | _, _, _ => .stuck
def CY : Vl -> Vl -> aO -> Res Vl
 | .dat (.int i), .dat (.int j), S => if CDiv i j then .ok (.dat (.int (i / j))) S else .stuck
 | _, _, _ => .stuck
def JP : Vl -> Vl -> aO -> Res Vl
 | .dat (.int i), .dat (.int j), S => if CPow i j then .ok (.dat (.int (i ^ j.toNat))) S else .stuck
 | _, _, _ => .stuck
def M7 : Vl -> Vl -> aO -> Res Vl
 | .dat (.int i), .dat (.int j), S => .ok (.dat (.bl (decide (i < j)))) S
 | _, _, _ => .stuck
def Nx : Vl -> Vl -> aO -> Res Vl
 | .dat (.int i), .dat (.int j), S => .ok (.dat (.bl (decide (i <= j)))) S
 | _, _, _ => .stuck
def M8 : Vl -> Vl -> aO -> Res Vl
 | .dat (.int i), .dat (.int j), S => .ok (.dat (.bl (decide (j < i)))) S
 | _, _, _ => .stuck
def fGe : Vl -> Vl -> aO -> Res Vl
 | .dat (.int i), .dat (.int j), S => .ok (.dat (.bl (decide (j <= i)))) S
 | _, _, _ => .stuck
variable {K : aD}
theorem rB : fR K Om wQ := fun {W σ B φ S H x y d e Q} I r1 r2 f => by
 unfold wQ at f;split at f
 ·cases r1; cases r2; exact Fin.now f I rfl
 ·exact f.elim
theorem mT : fR K UD qN := fun {W σ B φ S H x y d e Q} I r1 r2 f => by
 unfold qN at f;split at f
 ·cases r1; cases r2
  split at f
  ·rename_i h; exact ⟨h, Fin.now f I rfl⟩
  ·exact f.elim
 ·exact f.elim
theorem AN : fR K UE CC := fun {W σ B φ S H x y d e Q} I r1 r2 f => by
 unfold CC at f;split at f
 ·cases r1; cases r2
  split at f
  ·rename_i h; exact ⟨h, Fin.now f I rfl⟩
  ·exact f.elim
 ·exact f.elim
theorem Gm : fR K Oo CY := fun {W σ B φ S H x y d e Q} I r1 r2 f => by
 unfold CY at f;split at f
 ·cases r1; cases r2
  split at f
  ·rename_i h; exact ⟨h, Fin.now f I rfl⟩
  ·exact f.elim
 ·exact f.elim
theorem Ob : fR K UC JP := fun {W σ B φ S H x y d e Q} I r1 r2 f => by
 unfold JP at f;split at f
 ·cases r1; cases r2
  split at f
  ·rename_i h; exact ⟨h, Fin.now f I rfl⟩
  ·exact f.elim
 ·exact f.elim
theorem F7 : fR K rLtC M7 := fun {W σ B φ S H x y d e Q} I r1 r2 f => by
 unfold M7 at f;split at f
 ·cases r1; cases r2; exact Fin.now f I rfl
 ·exact f.elim
theorem IP : fR K rLeC Nx := fun {W σ B φ S H x y d e Q} I r1 r2 f => by
 unfold Nx at f;split at f
 ·cases r1; cases r2; exact Fin.now f I rfl
 ·exact f.elim
theorem IQ : fR K rGtC M8 := fun {W σ B φ S H x y d e Q} I r1 r2 f => by
 unfold M8 at f;split at f
 ·cases r1; cases r2; exact Fin.now f I rfl
 ·exact f.elim
theorem s_ge : fR K rGeC fGe := fun {W σ B φ S H x y d e Q} I r1 r2 f => by
 unfold fGe at f;split at f
 ·cases r1; cases r2; exact Fin.now f I rfl
 ·exact f.elim
def wR : Vl -> aO -> Res Vl
 | .dat (.int i), S => .ok (.dat (.int (-i))) S
 | _, _ => .stuck
theorem sA {ma : FE} (ha : PE X a (dC X.K W ma)) : PE X (.UnaryOp .USub a pos) (dC X.K W (m1 wR ma)) :=
 dM (pe_un RL ha) fun σ H Q h => OX (r := cNeg) (fun {W σ B φ S H x d Q} I r f => by
  unfold wR at f;split at f
  ·cases r; exact Fin.now f I rfl
  ·exact f.elim) h
theorem RepL.len {Bk : Addr -> Prop} {H : Hp} : ∀ {ds : List D} {vs : List V}, RepL K Bk H ds vs -> vs.length = ds.length
 | [], vs, h => by cases h; rfl
 | d :: ds, vs, ⟨v, ws, e, _, h2⟩ => by subst e; simp [RepL.len h2]
theorem RepL.get {Bk : Addr -> Prop} {H : Hp} : ∀ {ds : List D} {vs : List V} {i : Nat} {d : D}, RepL K Bk H ds vs -> ds[i]? = some d -> ∃ v, vs[i]? = some v /\ Rep K Bk H d v
 | [], vs, i, d, h, q => by simp at q
 | d :: ds, vs, 0, d', ⟨v, ws, e, h1, h2⟩, q => by simp at q; subst q e; exact ⟨v, rfl, h1⟩
 | d :: ds, vs, i + 1, d', ⟨v, ws, e, h1, h2⟩, q => by
  subst e;obtain ⟨v', h3, h4⟩ := RepL.get (i := i) (d := d') h2 (by simpa using q)
  exact ⟨v', by simpa using h3, h4⟩
theorem RepL.append {Bk : Addr -> Prop} {H : Hp} : ∀ {ds es : List D} {vs ws : List V}, RepL K Bk H ds vs -> RepL K Bk H es ws -> RepL K Bk H (ds ++ es) (vs ++ ws)
 | [], es, vs, ws, h, h' => by cases h; exact h'
 | d :: ds, es, vs, ws, ⟨v, us, e, h1, h2⟩, h' => by subst e; exact ⟨v, us ++ ws, rfl, h1, RepL.append h2 h'⟩
theorem RepL.take {Bk : Addr -> Prop} {H : Hp} : ∀ {ds : List D} {vs : List V} (n : Nat), RepL K Bk H ds vs -> RepL K Bk H (ds.take n) (vs.take n)
 | ds, vs, 0, h => by simp [RepL]
 | [], vs, n + 1, h => by cases h; rfl
 | d :: ds, vs, n + 1, ⟨v, us, e, h1, h2⟩ => by subst e; exact ⟨v, us.take n, rfl, h1, RepL.take n h2⟩
theorem RepL.drop {Bk : Addr -> Prop} {H : Hp} : ∀ {ds : List D} {vs : List V} (n : Nat), RepL K Bk H ds vs -> RepL K Bk H (ds.drop n) (vs.drop n)
 | ds, vs, 0, h => h
 | [], vs, n + 1, h => by cases h; rfl
 | d :: ds, vs, n + 1, ⟨v, us, e, h1, h2⟩ => by subst e; exact RepL.drop n h2
theorem RepL.set {Bk : Addr -> Prop} {H : Hp} {d : D} {v : V} (r : Rep K Bk H d v) : ∀ {ds : List D} {vs : List V} (n : Nat), RepL K Bk H ds vs -> RepL K Bk H (ds.set n d) (vs.set n v)
 | [], vs, n, h => by cases h; rfl
 | _ :: ds, vs, 0, ⟨_, us, e, h1, h2⟩ => by subst e; exact ⟨v, us, rfl, r, h2⟩
 | d' :: ds, vs, n + 1, ⟨v', us, e, h1, h2⟩ => by subst e; exact ⟨v', us.set n v, rfl, h1, RepL.set r n h2⟩
theorem RepL.snoc {Bk : Addr -> Prop} {H : Hp} {ds : List D} {vs : List V} {d : D} {v : V} (h : RepL K Bk H ds vs) (r : Rep K Bk H d v) : RepL K Bk H (ds ++ [d]) (vs ++ [v]) := h.append ⟨v, [], rfl, r, rfl⟩
theorem RepL.atI {Bk : Addr -> Prop} {H : Hp} {ds : List D} {vs : List V} {i : Int} {d : D} (h : RepL K Bk H ds vs) (q : L2.atI ds i = some d) : ∃ v, L2.atI vs i = some v /\ Rep K Bk H d v := by
 unfold L2.atI at q ⊢;rw [h.len];cases e : ixN ds.length i with
 | none => rw [e] at q; cases q
 | some j =>
  rw [e] at q;exact h.get (i := j) q
theorem RepVs.len {B : Addr -> Prop} {φ : List Addr} {S : aO} {H : Hp} : ∀ {ds : List Vl} {vs : List V}, RepVs K B φ S H ds vs -> vs.length = ds.length
 | [], vs, h => by cases h; rfl
 | d :: ds, vs, ⟨v, ws, e, _, h2⟩ => by subst e; simp [RepVs.len h2]
def A7 : List Vl -> Option (List D)
 | [] => some []
 | .dat d :: r => match A7 r with
  | some ds => some (d :: ds)
  | none => none
 | _ :: _ => none
theorem BP {B : Addr -> Prop} {φ : List Addr} {S : aO} {H : Hp} : ∀ {xs : List Vl} {vs : List V} {ds : List D}, A7 xs = some ds -> RepVs K B φ S H xs vs -> RepL K (kA B φ S) H ds vs
 | [], vs, ds, h, r => by cases h; exact r
 | .dat d :: xs, vs, ds, h, ⟨v, ws, e, h1, h2⟩ => by
  unfold A7 at h;cases q : A7 xs with
  | none => rw [q] at h; cases h
  | some es => rw [q] at h; cases h; exact ⟨v, ws, e, h1, BP q h2⟩
 | .cel _ :: xs, vs, ds, h, _ => by cases h
 | .cels _ :: xs, vs, ds, h, _ => by cases h
 | .scr _ :: xs, vs, ds, h, _ => by cases h
 | .tc _ :: xs, vs, ds, h, _ => by cases h
def pD (S : aO) : Vl -> Option (List D)
 | .dat (.lst xs) => some xs
 | .cel n => match S[n]? with
  | some (.lst xs) => some xs
  | _ => none
 | _ => none
theorem lO {B : Addr -> Prop} {φ : List Addr} {S : aO} {H : Hp} {d : Vl} {v : V} {xs : List D} (I : GInv K B φ S H) (h : pD S d = some xs) (r : RepV K B φ S H d v) : ∃ a vs, v = .ref a /\ H a = some (.lst vs) /\ RepL K (kA B φ S) H xs vs := by
 unfold pD at h;split at h
 ·cases h
  obtain ⟨a, vs, e, _, h1, h2⟩ := r;exact ⟨a, vs, e, h1, h2⟩
 ·rename_i n
  obtain ⟨a, e, h1⟩ := r;split at h
  ·rename_i ys q
   cases h;obtain ⟨vs, h2, h3⟩ := I.ok n _ a q h1;exact ⟨a, vs, e, h2, h3⟩
  ·cases h
 ·cases h
end
section
variable {X : Cx} {W : WX} {e a b c : Expr} {es rest : List Expr} {pos p : Pos} {x : Str} {K : aD} {ma mb mc : FE} {mt mu : FT} {mas : FA} {B : Addr -> Prop} {φ : List Addr} {S : aO} {H : Hp} {σ : L2.St} {Q : VK}
def dY (cl : Bool) (x y : Vl) (S : aO) : Res Vl := match x, y with
 | .dat (.int i), .dat (.int j) => .ok (.dat (.int (i + j))) S
 | .dat (.str a), .dat (.str b) => if a.length + b.length <= sizeLine then .ok (.dat (.str (a ++ b))) S else .stuck
 | .dat (.tup xs), .dat (.tup ys) => if xs.length + ys.length <= sizeLine then .ok (.dat (.tup (xs ++ ys))) S else .stuck
 | x, y => match pD S x, pD S y with
  | some xs, some ys => if xs.length + ys.length <= sizeLine then newL cl (xs ++ ys) S else .stuck
  | _, _ => .stuck
theorem dO {cl : Bool} : fR K (Tn K) (dY cl) := fun {W σ B φ S H x y d e Q} I r1 r2 f => by
 unfold dY at f;split at f
 ·cases r1; cases r2; exact Fin.now f I rfl
 ·cases r1; cases r2
  split at f
  ·rename_i h; exact ⟨h, Fin.now f I rfl⟩
  ·exact f.elim
 ·rename_i xs ys
  obtain ⟨a, vs, rfl, h1, l1⟩ := r1;obtain ⟨b, ws, rfl, h2, l2⟩ := r2;split at f
  ·rename_i h
   refine Cr ⟨a, b, vs, ws, rfl, rfl, h1, h2, by rw [l1.len, l2.len]; exact h, fun e => ?_, fun e1 e2 => ?_, fun _ _ p hp => Fin.newT f I (l1.append l2) hp⟩
   ·have l := l1.append l2
    rw [e, bT] at l;exact Fin.now f I ⟨b, ws, rfl, h2, l⟩
   ·have l := l1.append l2
    rw [e2, cY] at l;exact Fin.now f I ⟨a, vs, rfl, h1, l⟩
  ·exact f.elim
 ·split at f
  ·rename_i xs ys q1 q2
   obtain ⟨a, vs, rfl, h1, l1⟩ := lO I q1 r1;obtain ⟨b, ws, rfl, h2, l2⟩ := lO I q2 r2;split at f
   ·rename_i h
    exact FK ⟨a, b, vs, ws, rfl, rfl, h1, h2, by rw [l1.len, l2.len]; exact h, fun p hp => Fin.newL f I (l1.append l2) hp⟩
   ·exact f.elim
  ·exact f.elim
def cH (x y : Vl) (S : aO) : Res Vl := match x, y with
 | .dat (.tup xs), .dat (.int i) => match atI xs i with
  | some d => .ok (.dat d) S
  | none => .stuck
 | .dat (.str z), .dat (.int i) => if z.length <= sizeLine then (match atI z.cps.toList i with
  | some c => .ok (.dat (.str ⟨#[c]⟩)) S
  | none => .stuck) else .stuck
 | .cels ns, .dat (.int i) => match atI ns i with
  | some n => .ok (.cel n) S
  | none => .stuck
 | x, .dat (.int i) => match pD S x with
  | some xs => (match atI xs i with
   | some d => .ok (.dat d) S
   | none => .stuck)
  | none => .stuck
 | _, _ => .stuck
theorem Ha {α β : Type} {f : α -> β} {xs : List α} {i : Int} : atI (xs.map f) i = (atI xs i).map f := by
 unfold atI;rw [aP];cases ixN xs.length i with
 | none => rfl
 | some j => simp
theorem s_ix : fR K (cIx K) cH := fun {W σ B φ S H x y d e Q} I r1 r2 f => by
 unfold cH at f;split at f
 ·cases r2
  obtain ⟨a, vs, rfl, h1, l1⟩ := r1;split at f
  ·rename_i q
   obtain ⟨v, h2, h3⟩ := l1.atI q;exact ⟨vs, v, .inr h1, h2, Fin.now f I h3⟩
  ·exact f.elim
 ·cases r1; cases r2
  split at f
  ·rename_i h
   split at f
   ·rename_i c q
    exact ⟨h, c, q, Fin.now f I rfl⟩
   ·exact f.elim
  ·exact f.elim
 ·rename_i ns i
  cases r2;obtain ⟨a, as, rfl, h1, h2, h3⟩ := r1;split at f
  ·rename_i n q
   have q2 : atI (ns.map fun n => φ[n]?) i = some φ[n]? := by rw [Ha, q]; rfl
   rw [h3, Ha] at q2;cases q3 : atI as i with
   | none => rw [q3] at q2; cases q2
   | some b =>
    rw [q3] at q2;refine ⟨as.map V.ref, .ref b, .inl (SqL.of h2), by rw [Ha, q3]; rfl, Fin.now f I ⟨b, rfl, ?_⟩⟩
    simpa using q2.symm
  ·exact f.elim
 ·cases r2
  split at f
  ·rename_i xs q1
   obtain ⟨a, vs, rfl, h1, l1⟩ := lO I q1 r1;split at f
   ·rename_i q
    obtain ⟨v, h2, h3⟩ := l1.atI q;exact ⟨vs, v, .inl (SqL.of h1), h2, Fin.now f I h3⟩
   ·exact f.elim
  ·exact f.elim
 ·exact f.elim
theorem bN (ha : PE X a (dC X.K W ma)) (hb : PE X b (dC X.K W mb)) (hs : PlainIx b := by intro _ _; rfl) : PE X (.Subscript a b pos) (dC X.K W (aU cH ma mb)) := dM (e_ix ha hb hs) fun σ H Q h => DV s_ix h
mutual
def D.py : D -> Option PyData
 | .non => some .none
 | .bl b => some (.bool b)
 | .int i => some (.int i)
 | .str x => some (.str x)
 | .lst xs => match D.pys xs with
  | some ys => some (.list ys)
  | none => none
 | .tup xs => match D.pys xs with
  | some ys => some (.tuple ys)
  | none => none
 | .ins _ _ _ => none
 | .dct => none
 | .opq _ => none
def D.pys : List D -> Option (List PyData)
 | [] => some []
 | d :: ds => match D.py d, D.pys ds with
  | some x, some xs => some (x :: xs)
  | _, _ => none
end
mutual
theorem Rep.dp {Bk : Addr -> Prop} {H : Hp} : ∀ (d : D) (v : V) (p : PyData), d.py = some p -> Rep K Bk H d v -> Dp K H v p
 | .non, v, p, h, r => by cases h; cases r; exact .non
 | .bl b, v, p, h, r => by cases h; cases r; exact .bl b
 | .int b, v, p, h, r => by cases h; cases r; exact .int b
 | .str b, v, p, h, r => by cases h; cases r; exact .str b
 | .lst xs, v, p, h, ⟨a, vs, e, _, h1, h2⟩ => by
  subst e;unfold D.py at h;cases q : D.pys xs with
  | none => rw [q] at h; cases h
  | some ys => rw [q] at h; cases h; exact .lst (SqL.of h1) (RepL.dp xs vs ys q h2)
 | .tup xs, v, p, h, ⟨a, vs, e, h1, h2⟩ => by
  subst e;unfold D.py at h;cases q : D.pys xs with
  | none => rw [q] at h; cases h
  | some ys => rw [q] at h; cases h; exact .tup h1 (RepL.dp xs vs ys q h2)
 | .ins _ _ _, v, p, h, r => by cases h
 | .dct, v, p, h, r => by cases h
 | .opq _, v, p, h, r => by cases h
theorem RepL.dp {Bk : Addr -> Prop} {H : Hp} : ∀ (ds : List D) (vs : List V) (ps : List PyData), D.pys ds = some ps -> RepL K Bk H ds vs -> DpAll K H vs ps
 | [], vs, ps, h, r => by cases h; cases r; exact .nil
 | d :: ds, vs, ps, h, ⟨v, ws, e, h1, h2⟩ => by
  subst e;unfold D.pys at h;cases q1 : D.py d with
  | none => rw [q1] at h; cases h
  | some x =>
   cases q2 : D.pys ds with
   | none => rw [q1, q2] at h; cases h
   | some xs => rw [q1, q2] at h; cases h; exact .cons (Rep.dp d v x q1 h1) (RepL.dp ds ws xs q2 h2)
end
def Ld (S : aO) : Vl -> Option PyData
 | .dat d => d.py
 | .cel n => match S[n]? with
  | some (.lst xs) => D.py (.lst xs)
  | _ => none
 | _ => none
def N4 (S : aO) : List Vl -> Option (List PyData)
 | [] => some []
 | x :: r => match Ld S x, N4 S r with
  | some p, some ps => some (p :: ps)
  | _, _ => none
def wN (S : aO) : Vl -> Option PyData
 | .dat d => d.py
 | .cel n => match S[n]? with
  | some (.lst xs) => D.py (.lst xs)
  | some (.lv xs) => (match N4 S xs with
   | some ps => some (.list ps)
   | none => none)
  | _ => none
 | _ => none
theorem Oq {d : Vl} {v : V} {p : PyData} (I : GInv K B φ S H) (h : Ld S d = some p) (r : RepV K B φ S H d v) : Dp K H v p := by
 unfold Ld at h;split at h
 ·exact Rep.dp _ _ _ h r
 ·rename_i n
  obtain ⟨a, rfl, h1⟩ := r;split at h
  ·rename_i xs q
   obtain ⟨vs, h2, h3⟩ := I.ok n _ a q h1;unfold D.py at h;cases q : D.pys xs with
   | none => rw [q] at h; cases h
   | some ys => rw [q] at h; cases h; exact .lst (SqL.of h2) (RepL.dp xs vs ys q h3)
  ·cases h
 ·cases h
theorem Lc (I : GInv K B φ S H) : ∀ {xs : List Vl} {vs : List V} {ps : List PyData}, N4 S xs = some ps -> RepVs K B φ S H xs vs -> DpAll K H vs ps
 | [], vs, ps, h, r => by cases h; cases r; exact .nil
 | x :: xs, vs, ps, h, ⟨v, ws, e, h1, h2⟩ => by
  subst e;unfold N4 at h;cases q1 : Ld S x with
  | none => rw [q1] at h; cases h
  | some p =>
   cases q2 : N4 S xs with
   | none => rw [q1, q2] at h; cases h
   | some qs => rw [q1, q2] at h; cases h; exact .cons (Oq I q1 h1) (Lc I q2 h2)
theorem qG {d : Vl} {v : V} {p : PyData} (I : GInv K B φ S H) (h : wN S d = some p) (r : RepV K B φ S H d v) : Dp K H v p := by
 unfold wN at h;split at h
 ·exact Rep.dp _ _ _ h r
 ·rename_i n
  obtain ⟨a, rfl, h1⟩ := r;split at h
  ·rename_i xs q
   obtain ⟨vs, h2, h3⟩ := I.ok n _ a q h1;unfold D.py at h;cases q : D.pys xs with
   | none => rw [q] at h; cases h
   | some ys => rw [q] at h; cases h; exact .lst (SqL.of h2) (RepL.dp xs vs ys q h3)
  ·rename_i xs q
   obtain ⟨vs, h2, h3⟩ := I.ok n _ a q h1;cases q : N4 S xs with
   | none => rw [q] at h; cases h
   | some ys => rw [q] at h; cases h; exact .lst (SqL.of h2) (Lc I q h3)
  ·cases h
 ·cases h
def shp (p q : PyData) : Bool := SeqAt.shaped p && SeqAt.shaped q
def fT (x y : Vl) (S : aO) : Res Vl := match x, y with
 | .dat (.int i), .dat (.int j) => .ok (.dat (.bl (decide (i = j)))) S
 | .dat (.str i), .dat (.str j) => .ok (.dat (.bl (decide (i = j)))) S
 | x, y => match wN S x, wN S y with
  | some p, some q => if shp p q = true then .ok (.dat (.bl (PyData.eqv p q))) S else .stuck
  | _, _ => .stuck
def Jx (x y : Vl) (S : aO) : Res Vl := match x, y with
 | .dat (.int i), .dat (.int j) => .ok (.dat (.bl (!decide (i = j)))) S
 | .dat (.str i), .dat (.str j) => .ok (.dat (.bl (!decide (i = j)))) S
 | x, y => match wN S x, wN S y with
  | some p, some q => if shp p q = true then .ok (.dat (.bl (!PyData.eqv p q))) S else .stuck
  | _, _ => .stuck
theorem Tj {x y : V} (h : rEqD K x y H Q) : cEq K x y H Q := by
 unfold cEq;split
 ·obtain ⟨d, e, h1, h2, _, _, q⟩ := h
  cases h1; cases h2;exact q
 ·obtain ⟨d, e, h1, h2, _, _, q⟩ := h
  cases h1; cases h2;exact q
 ·exact h
theorem Th {x y : V} (h : rNeD K x y H Q) : cNe K x y H Q := by
 unfold cNe;split
 ·obtain ⟨d, e, h1, h2, _, _, q⟩ := h
  cases h1; cases h2;exact q
 ·obtain ⟨d, e, h1, h2, _, _, q⟩ := h
  cases h1; cases h2;exact q
 ·exact h
theorem s_eq : fR K (cEq K) fT := fun {W σ B φ S H x y d e Q} I r1 r2 f => by
 unfold fT at f;split at f
 ·cases r1; cases r2; exact Fin.now f I rfl
 ·cases r1; cases r2; exact Fin.now f I rfl
 ·split at f
  ·rename_i p q h1 h2
   split at f
   ·rename_i h
    obtain ⟨h3, h4⟩ := He.ba h;exact Tj ⟨p, q, qG I h1 r1, qG I h2 r2, h3, h4, Fin.now f I rfl⟩
   ·exact f.elim
  ·exact f.elim
theorem F6 : fR K (cNe K) Jx := fun {W σ B φ S H x y d e Q} I r1 r2 f => by
 unfold Jx at f;split at f
 ·cases r1; cases r2; exact Fin.now f I rfl
 ·cases r1; cases r2; exact Fin.now f I rfl
 ·split at f
  ·rename_i p q h1 h2
   split at f
   ·rename_i h
    obtain ⟨h3, h4⟩ := He.ba h;exact Th ⟨p, q, qG I h1 r1, qG I h2 r2, h3, h4, Fin.now f I rfl⟩
   ·exact f.elim
  ·exact f.elim
def fIn (neg : Bool) (x y : Vl) (S : aO) : Res Vl := match wN S x, wN S y with
 | some p, some (.list qs) => if shp p (.list qs) = true then .ok (.dat (.bl (if neg then !(qs.any fun z => PyData.eqv z p) else (qs.any fun z => PyData.eqv z p)))) S else .stuck
 | _, _ => .stuck
theorem s_in : fR K (rInD K) (fIn false) := fun {W σ B φ S H x y d e Q} I r1 r2 f => by
 unfold fIn at f;split at f
 ·rename_i p qs h1 h2
  split at f
  ·rename_i h
   obtain ⟨h3, h4⟩ := He.ba h;exact ⟨p, qs, qG I h1 r1, qG I h2 r2, h3, h4, Fin.now f I rfl⟩
  ·exact f.elim
 ·exact f.elim
def isNon : Vl -> Bool
 | .dat .non => true
 | _ => false
def FF (neg : Bool) (x y : Vl) (S : aO) : Res Vl := match y with
 | .dat .non => .ok (.dat (.bl (if neg then !(isNon x) else isNon x))) S
 | _ => .stuck
theorem J6 {d : Vl} {v : V} (r : RepV K B φ S H d v) : decide (v = .non) = isNon d := by
 cases d with
 | dat d =>
  cases d with
  | non => cases r; rfl
  | bl b => cases r; rfl
  | int b => cases r; rfl
  | str b => cases r; rfl
  | lst xs => obtain ⟨a, vs, rfl, _⟩ := r; rfl
  | tup xs => obtain ⟨a, vs, rfl, _⟩ := r; rfl
  | ins C ns xs => obtain ⟨a, dx, vs, rfl, _⟩ := r; rfl
  | dct => obtain ⟨a, rfl, _⟩ := r; rfl
  | opq k => cases k with
   | none => obtain ⟨a, rfl⟩ := r; rfl
   | some k => obtain ⟨a, rfl, _⟩ := r; rfl
 | cel n => obtain ⟨a, rfl, _⟩ := r; rfl
 | cels ns => obtain ⟨a, as, rfl, _⟩ := r; rfl
 | scr ns => obtain ⟨a, rfl, _⟩ := r; rfl
 | tc xs => obtain ⟨a, vs, rfl, _⟩ := r; rfl
theorem Oe : fR K UF (FF false) := fun {W σ B φ S H x y d e Q} I r1 r2 f => by
 unfold FF at f;split at f
 ·cases r2
  show Q (.bl (decide (x = .non))) H
  rw [J6 r1];exact Fin.now f I rfl
 ·exact f.elim
theorem Oc : fR K On (FF true) := fun {W σ B φ S H x y d e Q} I r1 r2 f => by
 unfold FF at f;split at f
 ·cases r2
  show Q (.bl (!decide (x = .non))) H
  rw [J6 r1];exact Fin.now f I rfl
 ·exact f.elim
def unB : Vl -> aO -> Res Bool
 | .dat (.bl b), S => .ok b S
 | _, _ => .stuck
def mB (a : FE) : FT := fun ρ S => (a ρ S).bind unB
theorem OW {Q : Bool -> Hp -> Prop} (h : yS K W (mB ma) σ H Q) : dC K W ma σ H fun x H' => (match x with | .bl k => Q k H' | _ => False) :=
 cR (k := fun x _ S => unB x S) h fun B φ S ρ d v H1 I E r f => by
  unfold unB at f;split at f
  ·cases r; exact Fin.now f I rfl
  ·exact f.elim
theorem aW {op : CmpOp} {r : R2} {f : Vl -> Vl -> aO -> Res Vl} (o : OpR X (compareOp op) r) (s : fR X.K r f) (ha : PE X a (dC X.K W ma)) (hb : PE X b (dC X.K W mb)) (hm : behindInMarks op b = false := by rfl) : PT X (.Compare a [op] [b] pos) (yS X.K W (mB (aU f ma mb))) :=
 En (U5 o ha hb hm) fun σ H Q h => DV s (OW h)
def DN (x : Vl) (S : aO) : Res Bool := match x with
 | .dat .non => .ok false S
 | .dat (.bl b) => .ok b S
 | .dat (.int i) => .ok (i != 0) S
 | .dat (.str y) => if y.length <= sizeLine then .ok ((y.length : Int) != 0) S else .stuck
 | .dat (.tup xs) => .ok (!xs.isEmpty) S
 | x => match pD S x with
  | some xs => .ok (!xs.isEmpty) S
  | none => .stuck
theorem RepL.emp {Bk : Addr -> Prop} {ds : List D} {vs : List V} (h : RepL K Bk H ds vs) : (!ds.isEmpty) = !vs.isEmpty := by
 have := h.len;cases ds <;> cases vs <;> simp at this ⊢
theorem Gb {d : Vl} {v : V} {Q : Bool -> Hp -> Prop} (I : GInv K B φ S H) (r : RepV K B φ S H d v) (f : Fin K W σ RB B φ S H (DN d S) Q) : cT K v H Q := by
 unfold DN at f;split at f
 ·cases r; exact Fin.now f I rfl
 ·cases r; exact Fin.now f I rfl
 ·cases r; exact Fin.now f I rfl
 ·cases r
  split at f
  ·rename_i h; exact ⟨_, ⟨h, rfl⟩, Fin.now f I rfl⟩
  ·exact f.elim
 ·obtain ⟨a, vs, rfl, h1, l1⟩ := r
  exact ⟨_, .inr (.inl ⟨vs, h1, l1.emp⟩), Fin.now f I rfl⟩
 ·split at f
  ·rename_i xs q1
   obtain ⟨a, vs, rfl, h1, l1⟩ := lO I q1 r;exact ⟨_, .inl ⟨vs, SqL.of h1, l1.emp⟩, Fin.now f I rfl⟩
  ·exact f.elim
def fP (a : FE) : FT := fun ρ S => (a ρ S).bind DN
theorem eI (ha : PE X a (dC X.K W ma)) (he : ∀ whole, isTrue a X.env whole = (do let v <- whole; standAt a.pos; holding [v] (truthy v)) := by intro _; rfl) : PT X a (yS X.K W (fP ma)) :=
 En (t_val ha he) fun σ H Q h => cR (k := fun x _ S => DN x S) h fun B φ S ρ d v H1 I E r f => Gb I r f
def Il (a b : FT) : FT := fun ρ S => (a ρ S).bind fun c S1 => if c = true then b ρ S1 else .ok false S1
def Et (a b : FT) : FT := fun ρ S => (a ρ S).bind fun c S1 => if c = true then .ok true S1 else b ρ S1
def nA (a : FT) : FT := fun ρ S => (a ρ S).bind fun c S1 => .ok (!c) S1
theorem Qy {e : Expr} {t u : TT} (h : PW X e t) (i : ∀ σ H Q, u σ H Q -> t σ H Q) : PW X e u := ⟨fun whole pins s σ H Q I q => h.run whole pins s σ H Q I (i σ H Q q)⟩
theorem Rc {Q : Bool -> Hp -> Prop} (h : yS K W (Il mt mu) σ H Q) : tAnd (yS K W mt) (yS K W mu) σ H Q :=
 cR (k := fun c ρ S => if c = true then mu ρ S else .ok false S) h fun B φ S ρ d v H1 I E r f => by
  have r : v = d := r;subst r;cases v with
  | true => exact ⟨B, φ, S, ρ, I, E, f⟩
  | false => exact Fin.now f I rfl
theorem Uv {Q : Bool -> Hp -> Prop} (h : yS K W (Et mt mu) σ H Q) : tOr (yS K W mt) (yS K W mu) σ H Q :=
 cR (k := fun c ρ S => if c = true then .ok true S else mu ρ S) h fun B φ S ρ d v H1 I E r f => by
  have r : v = d := r;subst r;cases v with
  | false => exact ⟨B, φ, S, ρ, I, E, f⟩
  | true => exact Fin.now f I rfl
theorem ER (ha : PT X a (yS X.K W mt)) (hb : PW X (.BoolOp .And (b :: rest) pos) (yS X.K W mu)) : PW X (.BoolOp .And (a :: b :: rest) pos) (yS X.K W (Il mt mu)) := Qy (pw_and ha hb) fun σ H Q h => Rc h
theorem nY (ha : PT X a (yS X.K W mt)) (hb : PW X (.BoolOp .Or (b :: rest) pos) (yS X.K W mu)) : PW X (.BoolOp .Or (a :: b :: rest) pos) (yS X.K W (Et mt mu)) := Qy (pw_or ha hb) fun σ H Q h => Uv h
theorem fM (ha : PT X a (yS X.K W mt)) : PT X (.UnaryOp .Not a pos) (yS X.K W (nA mt)) := En (pt_not ha) fun σ H Q h =>
 cR (k := fun c _ S => .ok (!c) S) h fun B φ S ρ d v H1 I E r f => by cases r; exact Fin.now f I rfl
def pJ (a b : FE) : FE := fun ρ S => (a ρ S).bind fun x S1 => match x with
 | .dat (.bl c) => if c = true then b ρ S1 else .ok (.dat (.bl false)) S1
 | _ => .stuck
def VG (a b : FE) : FE := fun ρ S => (a ρ S).bind fun x S1 => match x with
 | .dat (.bl c) => if c = true then .ok (.dat (.bl true)) S1 else b ρ S1
 | _ => .stuck
def P6 (a : FE) : FE := fun ρ S => (a ρ S).bind fun x S1 => (DN x S1).bind fun k S2 => .ok (.dat (.bl (!k))) S2
theorem nM (ha : PE X a (dC X.K W ma)) (hb : PE X (.BoolOp .And (b :: rest) pos) (dC X.K W mb)) : PE X (.BoolOp .And (a :: b :: rest) pos) (dC X.K W (pJ ma mb)) := dM (e_and ha hb) fun σ H Q h =>
 cR (k := fun x ρ S1 => match x with | .dat (.bl c) => if c = true then mb ρ S1 else .ok (.dat (.bl false)) S1 | _ => .stuck) h fun B φ S ρ d v H1 I E r f => by
  split at f
  ·rename_i c
   cases r;cases c with
   | true => exact ⟨B, φ, S, ρ, I, E, f⟩
   | false => exact Fin.now f I rfl
  ·exact f.elim
theorem fe_or (ha : PE X a (dC X.K W ma)) (hb : PE X (.BoolOp .Or (b :: rest) pos) (dC X.K W mb)) : PE X (.BoolOp .Or (a :: b :: rest) pos) (dC X.K W (VG ma mb)) := dM (e_or ha hb) fun σ H Q h =>
 cR (k := fun x ρ S1 => match x with | .dat (.bl c) => if c = true then .ok (.dat (.bl true)) S1 else mb ρ S1 | _ => .stuck) h fun B φ S ρ d v H1 I E r f => by
  split at f
  ·rename_i c
   cases r;cases c with
   | false => exact ⟨B, φ, S, ρ, I, E, f⟩
   | true => exact Fin.now f I rfl
  ·exact f.elim
def VH (a b : FE) : FE := fun ρ S => (a ρ S).bind fun x S1 => (DN x S1).bind fun k S2 => if k = true then .ok x S2 else b ρ S2
theorem IB {x : Vl} {k : Bool} {S' : aO} (h : DN x S = .ok k S') : S' = S := by
 unfold DN at h;split at h
 ·cases h; rfl
 ·cases h; rfl
 ·cases h; rfl
 ·split at h <;> cases h; rfl
 ·cases h; rfl
 ·split at h <;> cases h; rfl
theorem tru_V {d : Vl} {v : V} {k : Bool} (I : GInv K B φ S H) (r : RepV K B φ S H d v) (h : DN d S = .ok k S) : TruV K v H k := by
 obtain ⟨k', h1, h2⟩ := Ql v H (fun b _ => b = k) (Gb (W := wNo) (σ := []) I r (by
  rw [h];exact fun φ' v' H' _ _ r => r))
 rw [<- h2]; exact h1
theorem WN (ha : PE X a (dC X.K W ma)) (hb : PE X (.BoolOp .Or (b :: rest) pos) (dC X.K W mb)) : PE X (.BoolOp .Or (a :: b :: rest) pos) (dC X.K W (VH ma mb)) := dM (pe_orT ha hb) fun σ H Q h =>
 cR (k := fun x ρ S1 => (DN x S1).bind fun k S2 => if k = true then .ok x S2 else mb ρ S2) h fun B φ S ρ d v H1 I E r f => by
  cases q : DN d S with
  | stuck => rw [q] at f; exact f.elim
  | err e S' =>
   exfalso
   unfold DN at q;split at q <;> first | cases q | (split at q <;> cases q)
  | ok k S' =>
   have e := IB q;subst e;rw [q] at f;refine ⟨k, tru_V I r q, ?_⟩
   cases k with
   | true => exact Fin.now f I r
   | false => exact ⟨B, φ, S', ρ, I, E, f⟩
theorem WO (ha : PE X a (dC X.K W ma)) : PE X (.UnaryOp .Not a pos) (dC X.K W (P6 ma)) := dM (e_not ha) fun σ H Q h =>
 cR (k := fun x _ S1 => (DN x S1).bind fun k S2 => Res.ok (Vl.dat (D.bl (!k))) S2) h fun B φ S ρ d v H1 I E r f => by
  cases q : DN d S with
  | stuck => rw [q] at f; exact f.elim
  | err e S' =>
   exfalso
   unfold DN at q;split at q <;> first | cases q | (split at q <;> cases q)
  | ok k S' =>
   have e := IB q;subst e;rw [q] at f;refine Gb (W := W) (σ := σ) I r ?_
   rw [q];intro φ' v' H' I' X' r';cases r';exact Fin.now (Fin.ext f X') I' rfl
def tU (f g : Vl -> Vl -> aO -> Res Vl) (a b c : FE) : FE := fun ρ S => (a ρ S).bind fun x S1 => (b ρ S1).bind fun y S2 => (f x y S2).bind fun z S3 => match z with
 | .dat (.bl k) => if k = true then (c ρ S3).bind fun w S4 => g y w S4 else .ok (.dat (.bl false)) S3
 | _ => .stuck
theorem FU {r r' : R2} {f g : Vl -> Vl -> aO -> Res Vl} (s : fR K r f) (s' : fR K r' g) (h : dC K W (tU f g ma mb mc) σ H Q) : HY r r' (dC K W ma) (dC K W mb) (dC K W mc) σ H Q := by
 refine cR (k := fun x ρ S1 => (mb ρ S1).bind fun y S2 => (f x y S2).bind fun z S3 => match z with | .dat (.bl k) => if k = true then (mc ρ S3).bind fun w S4 => g y w S4 else .ok (.dat (.bl false)) S3 | _ => .stuck) h fun B φ S ρ d v H1 I E r1 f' => jK I E f' fun φ' S' e w H2 I2 X2 E2 r2 f2 => ?_
 have r1' := r1.ext X2 I;refine s (W := W) (σ := σ) I2 r1' r2 ?_
 cases q : f d e S' with
 | stuck => rw [q] at f2; exact f2
 | err x S3 => rw [q] at f2; exact f2
 | ok z S3 =>
  rw [q] at f2;intro φ3 v3 H3 I3 X3 r3;have f3 := Fin.ext f2 X3;dsimp only [Res.bind] at f3;split at f3
  ·rename_i k
   cases r3;cases k with
   | false => exact Fin.now f3 I3 rfl
   | true => exact jK I3 (E2.ext X3 I2) f3 fun φ4 S4 d4 v4 H4 I4 X4 E4 r4 f4 => s' I4 ((r2.ext X3 I2).ext X4 I3) r4 f4
  ·exact f3.elim
theorem HS {op op' : CmpOp} {r r' : R2} {f g : Vl -> Vl -> aO -> Res Vl} (ho : OpR X (compareOp op) r) (s : fR X.K r f) (ho' : OpR X (compareOp op') r') (s' : fR X.K r' g) (ha : PE X a (dC X.K W ma)) (hb : PE X b (dC X.K W mb)) (hc : PE X c (dC X.K W mc))
  (hm : lastMarks [op, op'] [b, c] = false := by with_unfolding_all rfl) : PE X (.Compare a [op, op'] [b, c] pos) (dC X.K W (tU f g ma mb mc)) := dM (Tb ho ho' ha hb hc hm) fun σ H Q h => FU s s' h
theorem JJ {op op' : CmpOp} {r r' : R2} {f g : Vl -> Vl -> aO -> Res Vl} (ho : OpR X (compareOp op) r) (s : fR X.K r f) (ho' : OpR X (compareOp op') r') (s' : fR X.K r' g) (ha : PE X a (dC X.K W ma)) (hb : PE X b (dC X.K W mb)) (hc : PE X c (dC X.K W mc))
  (hm : lastMarks [op, op'] [b, c] = false := by with_unfolding_all rfl) : PT X (.Compare a [op, op'] [b, c] pos) (yS X.K W (mB (tU f g ma mb mc))) := En (RS ho ho' ha hb hc hm) fun σ H Q h => FU s s' (OW h)
def mIf (t : FT) (a b : FE) : FE := fun ρ S => (t ρ S).bind fun c S1 => if c = true then a ρ S1 else b ρ S1
def aL : FA := fun _ S => .ok [] S
def aB (a : FE) (r : FA) : FA := fun ρ S => (a ρ S).bind fun x S1 => (r ρ S1).bind fun xs S2 => .ok (x :: xs) S2
theorem L3 {t u : TA} (h : PA X es t) (i : ∀ σ H Q, u σ H Q -> t σ H Q) : PA X es u := ⟨fun pos pins s σ H Q I q => h.run pos pins s σ H Q I (i σ H Q q)⟩
theorem aG : PA X [] (F8 X.K W aL) := L3 pa_nil fun σ H Q h => by
 obtain ⟨B, φ, S, ρ, I, E, f⟩ := h;exact Fin.now (v := []) f I rfl
theorem aA (ha : PE X a (dC X.K W ma)) (hr : PA X es (F8 X.K W mas)) (hs : starEach (a :: es) X.env = (false, eval a X.env) :: starEach es X.env := by rfl) : PA X (a :: es) (F8 X.K W (aB ma mas)) := L3 (pa_cons ha hr hs) fun σ H Q h =>
 cR (k := fun x ρ S1 => (mas ρ S1).bind fun xs S2 => .ok (x :: xs) S2) h fun B φ S ρ d v H1 I E r f => jK I E f fun φ' S' ds vs H2 I2 X2 E2 r2 f2 => Fin.now f2 I2 ⟨v, vs, rfl, r.ext X2 I, r2⟩
def eB (cl : Bool) (r : FA) : FE := fun ρ S => (r ρ S).bind fun xs S1 => match A7 xs with
 | some ds => if ds.length <= sizeLine then newL cl ds S1 else .stuck
 | none => .stuck
def bX (r : FA) : FE := fun ρ S => (r ρ S).bind fun xs S1 => match A7 xs with
 | some ds => if ds.length <= sizeLine then .ok (.dat (.tup ds)) S1 else .stuck
 | none => .stuck
theorem dF {cl : Bool} (h : PA X es (F8 X.K W mas)) : PE X (.List es pos) (dC X.K W (eB cl mas)) := dM (pe_lst h) fun σ H Q h =>
 cR (k := fun xs ρ S1 => match A7 xs with | some ds => if ds.length <= sizeLine then newL cl ds S1 else .stuck | none => .stuck) h fun B φ S ρ d v H1 I E r f => by
  split at f
  ·rename_i ds q
   have l := BP q r;split at f
   ·rename_i hl
    exact ⟨by rw [l.len]; exact hl, fun p hp => Fin.newL f I l hp⟩
   ·exact f.elim
  ·exact f.elim
theorem bO (h : PA X es (F8 X.K W mas)) : PE X (.Tuple es x1 pos) (dC X.K W (bX mas)) := dM (pe_tup h) fun σ H Q h =>
 cR (k := fun xs ρ S1 => match A7 xs with | some ds => if ds.length <= sizeLine then Res.ok (Vl.dat (D.tup ds)) S1 else .stuck | none => .stuck) h fun B φ S ρ d v H1 I E r f => by
  split at f
  ·rename_i ds q
   have l := BP q r;split at f
   ·rename_i hl
    exact ⟨by rw [l.len]; exact hl, fun p hp => Fin.newT f I l hp⟩
   ·exact f.elim
  ·exact f.elim
end
section
variable {X : Cx} {W : WX} {e a b c : Expr} {es rest : List Expr} {pos p q p2 : Pos} {x y z : Str} {K : aD} {ma mb mc : FE} {mt mu : FT} {mas : FA} {B : Addr -> Prop} {φ : List Addr} {S : aO} {H : Hp} {σ : L2.St} {Q : VK}
theorem Bg {r : V -> Hp -> VK -> Prop} {f : Vl -> aO -> Res Vl} (s : Hf K r f) (h : dC K W (m1 f ma) σ H Q) : tCB (c1 r) (tCons (dC K W ma) tNil) σ H Q := OX s h
def eW (x : Vl) (S : aO) : Res Vl := match x with
 | .dat (.tup xs) => .ok (.dat (.int xs.length)) S
 | .dat (.str z) => if z.length <= sizeLine then .ok (.dat (.int z.length)) S else .stuck
 | .cels ns => .ok (.dat (.int ns.length)) S
 | x => match pD S x with
  | some xs => .ok (.dat (.int xs.length)) S
  | none => .stuck
theorem s_len : Hf K (Ti K) eW := fun {W σ B φ S H x d Q} I r f => by
 unfold eW at f;split at f
 ·obtain ⟨a, vs, rfl, h1, l1⟩ := r
  refine ⟨vs, .inr h1, ?_⟩
  rw [l1.len];exact Fin.now f I rfl
 ·cases r
  split at f
  ·rename_i h; exact ⟨h, Fin.now f I rfl⟩
  ·exact f.elim
 ·rename_i ns
  obtain ⟨a, as, rfl, h1, h2, h3⟩ := r;refine ⟨as.map V.ref, .inl (SqL.of h2), ?_⟩
  have e : as.length = ns.length := by
   have := congrArg Ew h3
   simpa using this.symm
  rw [aP, e];exact Fin.now f I rfl
 ·split at f
  ·rename_i xs q1
   obtain ⟨a, vs, rfl, h1, l1⟩ := lO I q1 r;refine ⟨vs, .inl (SqL.of h1), ?_⟩
   rw [l1.len];exact Fin.now f I rfl
  ·exact f.elim
theorem fD (hm : X.mg "len" = none) (ha : PE X a (dC X.K W ma)) (hg : Gl X "len" := by rfl) (hs : starEach [a] X.env = [(false, eval a X.env)] := by rfl) : PE X (.Call (.Name "len" p) [a] [] pos) (dC X.K W (m1 eW ma)) := dM (Uc hm ha hg hs) fun σ H Q h => Bg s_len h
def uK (x : Vl) (S : aO) : Res Vl := match x with
 | .dat (.int i) => .ok (.dat (.int i)) S
 | .dat (.bl k) => .ok (.dat (.int (if k then 1 else 0))) S
 | _ => .stuck
theorem s_int : Hf K cInt uK := fun {W σ B φ S H x d Q} I r f => by
 unfold uK at f;split at f
 ·cases r; exact Fin.now f I rfl
 ·cases r; exact Fin.now f I rfl
 ·exact f.elim
theorem sC (hm : X.mg "int" = none) (ha : PE X a (dC X.K W ma)) (hg : Gl X "int" := by rfl) (hs : starEach [a] X.env = [(false, eval a X.env)] := by rfl) : PE X (.Call (.Name "int" p) [a] [] pos) (dC X.K W (m1 uK ma)) := dM (e_int hm ha hg hs) fun σ H Q h => Bg s_int h
def Ek : List D -> Option (List Bool)
 | [] => some []
 | .bl b :: r => match Ek r with
  | some bs => some (b :: bs)
  | none => none
 | _ :: _ => none
theorem Jn {Bk : Addr -> Prop} : ∀ {ds : List D} {bs : List Bool} {vs : List V}, Ek ds = some bs -> RepL K Bk H ds vs -> vs = bs.map V.bl
 | [], bs, vs, h, r => by cases h; exact r
 | d :: ds, bs, vs, h, ⟨v, ws, e, h1, h2⟩ => by
  subst e;cases d with
  | bl b =>
   unfold Ek at h;cases q : Ek ds with
   | none => rw [q] at h; cases h
   | some es => rw [q] at h; cases h; cases h1; rw [Jn q h2]; rfl
  | _ => cases h
def Wb : List D -> Option (List Int)
 | [] => some []
 | .int b :: r => match Wb r with
  | some bs => some (b :: bs)
  | none => none
 | _ :: _ => none
def EU (x : Vl) (S : aO) : Res Vl := match pD S x with
 | some xs => (match Ek xs with
  | some bs => .ok (.dat (.bl (bs.all id))) S
  | none => .stuck)
 | none => .stuck
theorem s_all : Hf K (cAll K) EU := fun {W σ B φ S H x d Q} I r f => by
 unfold EU at f;split at f
 ·rename_i xs q1
  obtain ⟨a, vs, rfl, h1, l1⟩ := lO I q1 r;split at f
  ·rename_i bs q2
   rw [Jn q2 l1] at h1;exact ⟨bs, SqL.of h1, Fin.now f I rfl⟩
  ·exact f.elim
 ·exact f.elim
theorem QX (hm : X.mg "all" = none) (ha : PE X a (dC X.K W ma)) (hc : X.calm = true := by rfl) (hg : Gl X "all" := by rfl) (hs : starEach [a] X.env = [(false, eval a X.env)] := by rfl) : PE X (.Call (.Name "all" p) [a] [] pos) (dC X.K W (m1 EU ma)) := dM (e_all hm ha hc hg hs) fun σ H Q h => Bg s_all h
def wI (cl : Bool) (x : Vl) (S : aO) : Res Vl := match x with
 | .dat (.tup xs) => newL cl xs S
 | x => match pD S x with
  | some xs => newL cl xs S
  | none => .stuck
theorem Uy {cl : Bool} : Hf K (Ug K) (wI cl) := fun {W σ B φ S H x d Q} I r f => by
 unfold wI at f;split at f
 ·obtain ⟨a, vs, rfl, h1, l1⟩ := r
  exact ⟨vs, .inr h1, fun l hl => Fin.newL f I l1 hl⟩
 ·split at f
  ·rename_i xs q1
   obtain ⟨a, vs, rfl, h1, l1⟩ := lO I q1 r;exact ⟨vs, .inl (SqL.of h1), fun l hl => Fin.newL f I l1 hl⟩
  ·exact f.elim
theorem Ku {cl : Bool} (hm : X.mg "list" = none) (ha : PE X a (dC X.K W ma)) (hg : Gl X "list" := by rfl) (hs : starEach [a] X.env = [(false, eval a X.env)] := by rfl) : PE X (.Call (.Name "list" p) [a] [] pos) (dC X.K W (m1 (wI cl) ma)) := dM (WT hm ha hg hs) fun σ H Q h => Bg Uy h
def fTuple (x : Vl) (S : aO) : Res Vl := match pD S x with
 | some xs => .ok (.dat (.tup xs)) S
 | none => .stuck
theorem Rf : Hf K (Qk K) fTuple := fun {W σ B φ S H x d Q} I r f => by
 unfold fTuple at f;split at f
 ·rename_i xs q1
  obtain ⟨a, vs, rfl, h1, l1⟩ := lO I q1 r;exact ⟨vs, SqL.of h1, fun l hl => Fin.newT f I l1 hl⟩
 ·exact f.elim
theorem HQ (hm : X.mg "tuple" = none) (ha : PE X a (dC X.K W ma)) (hg : Gl X "tuple" := by rfl) (hs : starEach [a] X.env = [(false, eval a X.env)] := by rfl) : PE X (.Call (.Name "tuple" p) [a] [] pos) (dC X.K W (m1 fTuple ma)) := dM (Ta hm ha hg hs) fun σ H Q h => Bg Rf h
def fAbs (x : Vl) (S : aO) : Res Vl := match x with
 | .dat (.int i) => .ok (.dat (.int (if i < 0 then -i else i))) S
 | _ => .stuck
theorem J0 {a : Addr} {xs : List V} (h : SqT K H a xs) : Es K H a "tuple" := by
 refine ⟨by decide, ?_⟩
 rcases h with (h | ⟨o, h⟩) | ⟨o, its, n, h, hc, _⟩
 ·exact .base (.tup h)
 ·exact .fTuple h
 ·exact .kTuple h hc
theorem xT {a : Addr} {xs : List V} (h : SqL K H a xs) : Es K H a "list" := by
 refine ⟨by decide, ?_⟩
 rcases h with (h | ⟨o, h⟩) | ⟨o, its, n, h, hc, _⟩
 ·exact .base (.lst h)
 ·exact .base (.frz h)
 ·exact .kList h hc
def kindOf (S : aO) : Vl -> Option String
 | .dat .non => some "NoneType"
 | .dat (.bl _) => some "bool"
 | .dat (.int _) => some "int"
 | .dat (.str _) => some "str"
 | .dat (.lst _) => some "list"
 | .dat (.tup _) => some "tuple"
 | .dat .dct => some "dict"
 | .dat (.opq _) => none
 | .dat (.ins _ _ _) => none
 | .cels _ => some "list"
 | .scr _ => some "list"
 | .tc _ => some "tuple"
 | .cel n => match S[n]? with
  | some (.lst _) => some "list"
  | some (.dct _) => some "dict"
  | some (.lv _) => some "list"
  | _ => none
def fIsi (T : String) (x : Vl) (S : aO) : Res Vl := match kindOf S x with
 | some n => .ok (.dat (.bl (isTy T n))) S
 | none => .stuck
theorem By {d : Vl} {v : V} {n : String} (I : GInv K B φ S H) (r : RepV K B φ S H d v) (h : kindOf S d = some n) : (v = .non /\ n = "NoneType") \/ (∃ b, v = .bl b /\ n = "bool") \/ (∃ b, v = .int b /\ n = "int") \/ (∃ b, v = .str b /\ n = "str") \/ ∃ a, v = .ref a /\ Es K H a n := by
 cases d with
 | dat d =>
  cases d with
  | non => cases h; cases r; exact .inl ⟨rfl, rfl⟩
  | bl b => cases h; cases r; exact .inr (.inl ⟨b, rfl, rfl⟩)
  | int b => cases h; cases r; exact .inr (.inr (.inl ⟨b, rfl, rfl⟩))
  | str b => cases h; cases r; exact .inr (.inr (.inr (.inl ⟨b, rfl, rfl⟩)))
  | lst xs => cases h; obtain ⟨a, vs, rfl, _, h1, _⟩ := r; exact .inr (.inr (.inr (.inr ⟨a, rfl, xT (SqL.of h1)⟩)))
  | tup xs => cases h; obtain ⟨a, vs, rfl, h1, _⟩ := r; exact .inr (.inr (.inr (.inr ⟨a, rfl, J0 h1⟩)))
  | ins C ns xs => cases h
  | opq _ => cases h
  | dct => cases h; obtain ⟨a, rfl, _, h1⟩ := r; exact .inr (.inr (.inr (.inr ⟨a, rfl, by decide, .base (.dK h1)⟩)))
 | cels ns => cases h; obtain ⟨a, as, rfl, _, h1, _⟩ := r; exact .inr (.inr (.inr (.inr ⟨a, rfl, xT (SqL.of h1)⟩)))
 | scr ns => cases h; obtain ⟨a, rfl, h1⟩ := r; exact .inr (.inr (.inr (.inr ⟨a, rfl, xT h1.sq⟩)))
 | tc xs => cases h; obtain ⟨a, vs, rfl, h1, _⟩ := r; exact .inr (.inr (.inr (.inr ⟨a, rfl, J0 h1⟩)))
 | cel n =>
  obtain ⟨a, rfl, h1⟩ := r;have h : (match S[n]? with | some (.lst _) => some "list" | some (.dct _) => some "dict" | some (.lv _) => some "list" | _ => none) = some _ := h
  split at h
  ·rename_i q
   cases h;obtain ⟨vs, h2, _⟩ := I.ok n _ a q h1;exact .inr (.inr (.inr (.inr ⟨a, rfl, xT (SqL.of h2)⟩)))
  ·rename_i q
   cases h;obtain ⟨vs, h2, _⟩ := I.ok n _ a q h1;exact .inr (.inr (.inr (.inr ⟨a, rfl, by decide, .base (.dK h2)⟩)))
  ·rename_i q
   cases h;obtain ⟨vs, h2, _⟩ := I.ok n _ a q h1;exact .inr (.inr (.inr (.inr ⟨a, rfl, xT (SqL.of h2)⟩)))
  ·cases h
theorem s_isi {T : String} (hT : T ∈ targets) : Hf K (Qn K T) (fIsi T) := fun {W σ B φ S H x d Q} I r f => by
 unfold fIsi at f;have h6 : T = "int" \/ T = "bool" \/ T = "str" \/ T = "list" \/ T = "tuple" \/ T = "dict" := by simpa [targets] using hT
 split at f
 ·rename_i n h
  have q : ∀ b, b = isTy T n -> Q (.bl b) H := fun b e => by rw [e]; exact Fin.now f I rfl
  rcases By I r h with ⟨rfl, rfl⟩ | ⟨b, rfl, rfl⟩ | ⟨b, rfl, rfl⟩ | ⟨b, rfl, rfl⟩ | ⟨a, rfl, hk⟩
  ·exact q false (by rcases h6 with e | e | e | e | e | e <;> subst e <;> decide)
  ·exact q _ (by rcases h6 with e | e | e | e | e | e <;> subst e <;> decide)
  ·exact q _ (by rcases h6 with e | e | e | e | e | e <;> subst e <;> decide)
  ·exact q _ (by rcases h6 with e | e | e | e | e | e <;> subst e <;> decide)
  ·have h3 : n = "list" \/ n = "tuple" \/ n = "dict" := by simpa using hk.1
   exact ⟨n, hk, q _ (by rcases h6 with e | e | e | e | e | e <;> rcases h3 with e' | e' | e' <;> subst e <;> subst e' <;> decide)⟩
 ·exact f.elim
theorem iP {T : String} (hm : X.mg "isinstance" = none) (hmT : X.mg y = none) (ha : PE X a (dC X.K W ma)) (hT : T ∈ targets := by decide) (hv : bootBuiltins y = some (.type T) := by decide +kernel)
  (hg : Gl X "isinstance" := by rfl) (hgT : Gl X y := by rfl) (hn : y ≠ "__name__" := by decide) (hd : (y == ("__debug__" : Str)) = false := by decide) (hs : starEach [a, .Name y q] X.env = (false, eval a X.env) :: starEach [.Name y q] X.env := by rfl) :
  PE X (.Call (.Name "isinstance" p) [a, .Name y q] [] pos) (dC X.K W (m1 (fIsi T) ma)) := dM (e_isi hm hmT ha hT hv hg hgT hn hd hs) fun σ H Q h => OX (s_isi hT) h
def fIsi2 (T U : String) (x : Vl) (S : aO) : Res Vl := match kindOf S x with
 | some n => .ok (.dat (.bl (isTy T n || isTy U n))) S
 | none => .stuck
theorem Uz {T U : String} (hT : T ∈ targets) (hU : U ∈ targets) {x : V} {d : Vl} (I : GInv K B φ S H) (r : RepV K B φ S H d x) (f : Fin K W σ (RepV K) B φ S H (fIsi2 T U d S) Q) {tp : Addr} {H' : Hp} (ntp : H tp = none) (hH : H' = upd H tp (.tup [.ty T, .ty U])) : Uh K T U x H' fun b => Q (.bl b) H' := by
 unfold fIsi2 at f;split at f
 ·rename_i n h
  have X1 := Ext.new (o := .tup [.ty T, .ty U]) I ntp;have I1 := I.new (o := .tup [.ty T, .ty U]) ntp;have hq : Q (.bl (isTy T n || isTy U n)) H' := by subst hH; exact f φ _ _ I1 X1 rfl
  have r' : RepV K B φ S H' d x := by subst hH; exact r.ext X1 I
  rcases By I r h with ⟨rfl, rfl⟩ | ⟨b, rfl, rfl⟩ | ⟨b, rfl, rfl⟩ | ⟨b, rfl, rfl⟩ | ⟨a, rfl, hk⟩
  ·have : ∀ T ∈ targets, isTy T "NoneType" = false := by decide
   rw [this T hT, this U hU] at hq;exact hq
  ·exact hq
  ·exact hq
  ·exact hq
  ·have I1' : GInv K B φ S H' := by subst hH; exact I1
   rcases By I1' r' h with ⟨z, _⟩ | ⟨b, z, _⟩ | ⟨b, z, _⟩ | ⟨b, z, _⟩ | ⟨a', z, hk'⟩ <;> cases z
   exact ⟨n, hk', hq⟩
 ·exact f.elim
theorem QW {q1 q2 tpos : Pos} {j : Nat} {T U : String} (hm : X.mg "isinstance" = none) (hmT : X.mg y = none) (hmU : X.mg z = none) (ha : PE X a (dC X.K W ma)) (hT : T ∈ targets := by decide) (hU : U ∈ targets := by decide)
  (hv : bootBuiltins y = some (.type T) := by decide +kernel) (hw : bootBuiltins z = some (.type U) := by decide +kernel) (hg : Gl X "isinstance" := by rfl) (hgT : Gl X y := by rfl) (hgU : Gl X z := by rfl) (hn : y ≠ "__name__" := by decide) (hd : (y == ("__debug__" : Str)) = false := by decide) (hn2 : z ≠ "__name__" := by decide) (hd2 : (z == ("__debug__" : Str)) = false := by decide)
  (hs : starEach [a, .Tuple [.Name y q1, .Name z q2] j tpos] X.env = (false, eval a X.env) :: starEach [.Tuple [.Name y q1, .Name z q2] j tpos] X.env := by rfl) :
  PE X (.Call (.Name "isinstance" p) [a, .Tuple [.Name y q1, .Name z q2] j tpos] [] pos) (dC X.K W (m1 (fIsi2 T U) ma)) :=
 dM (WU hm hmT hmU ha hT hU hv hw hg hgT hgU hn hd hn2 hd2 hs) fun σ H Q h => cR (k := fun x _ S => fIsi2 T U x S) h fun B φ S ρ d v H1 I E r f => by
  show _ /\ _
  exact ⟨(by show 2 <= sizeLine; decide), fun tp htp => ⟨upd_same, Uz hT hU I r f htp rfl⟩⟩
def cutD (xs : List D) (lo hi : Option Int) : List D := (xs.drop (HT.sIx xs.length 0 lo)).take (HT.sIx xs.length xs.length hi - HT.sIx xs.length 0 lo)
theorem RepL.cut {Bk : Addr -> Prop} {ds : List D} {vs : List V} {lo hi : Option Int} (h : RepL K Bk H ds vs) : RepL K Bk H (cutD ds lo hi) (cutV vs lo hi) := by
 unfold cutD cutV;rw [h.len];exact (h.drop _).take _
def RE (cl : Bool) (x : Vl) (lo hi : Option Int) (S : aO) : Res Vl := match x with
 | .dat (.tup xs) => .ok (.dat (.tup (cutD xs lo hi))) S
 | .dat (.str z) => if z.length <= sizeLine then .ok (.dat (.str (cutS z lo hi))) S else .stuck
 | .scr ns => newL cl (cutD (ns.map D.int) lo hi) S
 | x => match pD S x with
  | some xs => newL cl (cutD xs lo hi) S
  | none => .stuck
def qJ : FO := fun _ S => .ok none S
def gM (a : FE) : FO := fun ρ S => (a ρ S).bind fun x S1 => match x with
 | .dat (.int i) => .ok (some i) S1
 | _ => .stuck
theorem Qz {e : Option Expr} {t u : TO} (h : PO X e t) (i : ∀ σ H Q, u σ H Q -> t σ H Q) : PO X e u := ⟨fun pins s σ H Q I q => h.run pins s σ H Q I (i σ H Q q)⟩
theorem gK : PO X none (rdO X.K W qJ) := Qz po_none fun σ H Q h => by
 obtain ⟨B, φ, S, ρ, I, E, f⟩ := h;exact Fin.now (v := none) f I rfl
theorem eT (ha : PE X a (dC X.K W ma)) : PO X (some a) (rdO X.K W (gM ma)) := Qz (Ot ha) fun σ H Q h =>
 cR (k := fun x _ S1 => match x with | .dat (.int i) => .ok (some i) S1 | _ => .stuck) h fun B φ S ρ d v H1 I E r f => by
  split at f
  ·cases r; exact Fin.now f I rfl
  ·exact f.elim
theorem Fh {Bk : Addr -> Prop} : ∀ ns : List Int, RepL K Bk H (ns.map D.int) (ns.map V.int)
 | [] => rfl
 | n :: ns => ⟨_, _, rfl, rfl, Fh ns⟩
theorem Ng {xs : List D} {lo hi : Option Int} (h : HT.sIx xs.length 0 lo = 0 /\ HT.sIx xs.length xs.length hi = xs.length) : cutD xs lo hi = xs := by
 unfold cutD;rw [h.1, h.2];simp
def Bv (cl : Bool) (a : FE) (l h : FO) : FE := fun ρ S => (a ρ S).bind fun x S1 => (l ρ S1).bind fun lo S2 => (h ρ S2).bind fun hi S3 => RE cl x lo hi S3
theorem uI {cl : Bool} {lo hi : Option Expr} {ml mh : FO} (ha : PE X a (dC X.K W ma)) (hl : PO X lo (rdO X.K W ml)) (hh : PO X hi (rdO X.K W mh)) : PE X (.Subscript a (.Slice lo hi none p2) pos) (dC X.K W (Bv cl ma ml mh)) := dM (pe_slice sl_C ha hl hh) fun σ H Q h =>
 cR (k := fun x ρ S1 => (ml ρ S1).bind fun lo S2 => (mh ρ S2).bind fun hi S3 => RE cl x lo hi S3) h fun B φ S ρ d v H1 I E r f => jK I E f fun φ1 S1 d1 v1 H2 I1 X1 E1 r1 f1 => jK I1 E1 f1 fun φ2 S2 d2 v2 H3 I2 X2 E2 r2 f2 => by
  cases r1;cases r2
  replace r := (r.ext X1 I).ext X2 I1
  unfold RE at f2;split at f2
  ·rename_i xs
   obtain ⟨a, vs, rfl, h1, l1⟩ := r;refine Cr ⟨vs, h1, fun hw => ?_, fun hw p hp => Fin.newT f2 I2 l1.cut hp⟩
   rw [l1.len] at hw;have e := Ng (xs := xs) hw;rw [e] at f2;exact Fin.now f2 I2 ⟨a, vs, rfl, h1, l1⟩
  ·cases r
   split at f2
   ·rename_i hz; exact ⟨hz, Fin.now f2 I2 rfl⟩
   ·exact f2.elim
  ·obtain ⟨a, rfl, h1⟩ := r
   exact FK ⟨_, h1.sq, fun p hp => Fin.newL f2 I2 (Fh _).cut hp⟩
  ·split at f2
   ·rename_i xs q1
    obtain ⟨a, vs, rfl, h1, l1⟩ := lO I2 q1 r;exact FK ⟨vs, SqL.of h1, fun p hp => Fin.newL f2 I2 l1.cut hp⟩
   ·exact f2.elim
def uG (a : FE) : FE := fun ρ S => (a ρ S).bind fun x S1 => match x with
 | .cel n => (match S1[n]? with
  | some (.lst ds) => .ok (.dat (.lst ds)) (S1.set n .dead)
  | _ => .stuck)
 | _ => .stuck
theorem qC (ha : PE X a (dC X.K W ma)) : PE X a (dC X.K W (uG ma)) := dM ha fun σ H Q h =>
 cR (k := fun x _ S1 => match x with | .cel n => (match S1[n]? with | some (Cell.lst ds) => Res.ok (Vl.dat (D.lst ds)) (S1.set n Cell.dead) | _ => Res.stuck) | _ => Res.stuck) h fun B φ S ρ d v H1 I E r f => by
  split at f
  ·rename_i n
   obtain ⟨a, rfl, h1⟩ := r;split at f
   ·rename_i ds q
    obtain ⟨vs, h2, l⟩ := I.ok n _ a q h1;have X1 := Ext.kill (φ := φ) (S := S) (H := H1) (n := n);exact f φ _ H1 I.kill X1 ⟨a, vs, rfl, I.killed q (by simp) h1, h2, X1.repL I l⟩
   ·exact f.elim
  ·exact f.elim
def P5 (a : FE) (r : FA) : FA := fun ρ S => (a ρ S).bind fun x S1 => match (match x with | .dat (.tup xs) => some xs | x => pD S1 x) with
 | some xs => (r ρ S1).bind fun ys S2 => .ok (xs.map Vl.dat ++ ys) S2
 | none => .stuck
theorem RepL.vs {Bk : Addr -> Prop} : ∀ {ds : List D} {vs : List V}, RepL K (kA B φ S) H ds vs -> RepVs K B φ S H (ds.map Vl.dat) vs
 | [], vs, h => h
 | d :: ds, vs, ⟨v, ws, e, h1, h2⟩ => ⟨v, ws, e, h1, RepL.vs (Bk := Bk) h2⟩
theorem RepVs.append : ∀ {ds es : List Vl} {vs ws : List V}, RepVs K B φ S H ds vs -> RepVs K B φ S H es ws -> RepVs K B φ S H (ds ++ es) (vs ++ ws)
 | [], es, vs, ws, h, h' => by cases h; exact h'
 | d :: ds, es, vs, ws, ⟨v, us, e, h1, h2⟩, h' => by subst e; exact ⟨v, us ++ ws, rfl, h1, RepVs.append h2 h'⟩
theorem TL (ha : PE X a (dC X.K W ma)) (hr : PA X es (F8 X.K W mas)) (hs : starEach (.Starred a p :: es) X.env = (true, eval a X.env) :: starEach es X.env := by rfl) : PA X (.Starred a p :: es) (F8 X.K W (P5 ma mas)) := L3 (StX.pa_star ha hr hs) fun σ H Q h =>
 cR (k := fun x ρ S1 => match (match x with | Vl.dat (D.tup xs) => some xs | x => pD S1 x) with | some xs => (mas ρ S1).bind fun ys S2 => Res.ok (xs.map Vl.dat ++ ys) S2 | none => Res.stuck) h fun B φ S ρ d v H1 I E r f => by
  split at f
  ·rename_i xs q
   have : ∃ a vs, v = .ref a /\ (SqT X.K H1 a vs \/ SqL X.K H1 a vs) /\ RepL X.K (kA B φ S) H1 xs vs := by
    split at q
    ·cases q
     obtain ⟨a, vs, rfl, h1, l⟩ := r;exact ⟨a, vs, rfl, .inl h1, l⟩
    ·obtain ⟨a, vs, rfl, h1, l⟩ := lO I q r
     exact ⟨a, vs, rfl, .inr (SqL.of h1), l⟩
   obtain ⟨a, vs, rfl, h1, l⟩ := this;refine ⟨a, vs, rfl, h1, jK I E f fun φ1 S1 d1 v1 H2 I1 X1 E1 r1 f1 => Fin.now f1 I1 (RepVs.append (RepVs.ext X1 I (RepL.vs (Bk := fun _ => True) l)) r1)⟩
  ·exact f.elim
end
inductive Out where
 | next (ρ : Ev) (S : aO) | ret (d : Vl) (S : aO) | brk (ρ : Ev) (S : aO) | cnt (ρ : Ev) (S : aO) | err (e : Er) (ρ : Ev) (S : aO) | stuck
abbrev FS := Ev -> aO -> Out
def Res.toS {α : Type} (r : Res α) (ρ : Ev) (k : α -> aO -> Out) : Out := match r with
 | .ok a S => k a S
 | .err e S => .err e ρ S
 | .stuck => .stuck
def FinS (K : aD) (W : WX) (D : Ends) (B : Addr -> Prop) (φ : List Addr) (S : aO) (H : Hp) (o : Out) : Prop := match o with
 | .next ρ' S' => ∀ φ' σ' H', GInv K B φ' S' H' -> Ext φ S H φ' S' H' -> RepE K B φ' S' H' ρ' σ' -> D.nx σ' H'
 | .ret d S' => ∀ φ' v H', GInv K B φ' S' H' -> Ext φ S H φ' S' H' -> RepV K B φ' S' H' d v -> D.rt v H'
 | .brk ρ' S' => ∀ φ' σ' H', GInv K B φ' S' H' -> Ext φ S H φ' S' H' -> RepE K B φ' S' H' ρ' σ' -> D.bk σ' H'
 | .cnt ρ' S' => ∀ φ' σ' H', GInv K B φ' S' H' -> Ext φ S H φ' S' H' -> RepE K B φ' S' H' ρ' σ' -> D.ct σ' H'
 | .err e ρ' S' => ∀ φ' σ' c x H', GInv K B φ' S' H' -> Ext φ S H φ' S' H' -> RepE K B φ' S' H' ρ' σ' -> RepX K B φ' S' H' e c x -> W c x σ' H'
 | .stuck => False
def lG (K : aD) (W : WX) (m : FS) : TS := fun D σ H => ∃ B φ S ρ, GInv K B φ S H /\ RepE K B φ S H ρ σ /\ FinS K W D B φ S H (m ρ S)
section
variable {X : Cx} {W : WX} {e a b c : Expr} {es rest : List Expr} {pos p q p2 : Pos} {x y z : Str} {K : aD} {ma mb mc : FE} {mt mu : FT} {mas : FA} {B : Addr -> Prop} {φ φ' : List Addr} {S S' : aO} {H H' : Hp} {σ : L2.St} {Q : VK} {m n : FS} {st : Stmt} {iM : List Stmt} {D : Ends}
theorem gH {t u : TS} (h : PS X st t) (i : ∀ D σ H, u D σ H -> t D σ H) : PS X st u := ⟨fun pins s σ H D I q => h.run pins s σ H D I (i D σ H q)⟩
theorem Hg {t u : TS} (h : PSs X iM t) (i : ∀ D σ H, u D σ H -> t D σ H) : PSs X iM u := ⟨fun pins s σ H D I q => h.run pins s σ H D I (i D σ H q)⟩
theorem FinS.ext {o : Out} (f : FinS K W D B φ S H o) (e : Ext φ S H φ' S' H') : FinS K W D B φ' S' H' o := by
 cases o with
 | next ρ S1 => exact fun φ1 v H1 I1 X r => f φ1 v H1 I1 (e.trans X) r
 | ret d S1 => exact fun φ1 v H1 I1 X r => f φ1 v H1 I1 (e.trans X) r
 | brk ρ S1 => exact fun φ1 v H1 I1 X r => f φ1 v H1 I1 (e.trans X) r
 | cnt ρ S1 => exact fun φ1 v H1 I1 X r => f φ1 v H1 I1 (e.trans X) r
 | err x ρ S1 => exact fun φ1 σ1 c x H1 I1 X r => f φ1 σ1 c x H1 I1 (e.trans X) r
 | stuck => exact f
theorem cM {α β : Type} {R : Rl α β} {ρ : Ev} {m : Ev -> aO -> Res α} {k : α -> aO -> Out} {Q1 : β -> Hp -> Prop} (I : GInv K B φ S H) (E : RepE K B φ S H ρ σ) (f : FinS K W D B φ S H ((m ρ S).toS ρ k))
  (hk : ∀ φ' S' d v H1, GInv K B φ' S' H1 -> Ext φ S H φ' S' H1 -> RepE K B φ' S' H1 ρ σ -> R B φ' S' H1 d v -> FinS K W D B φ' S' H1 (k d S') -> Q1 v H1) : rd K W R m σ H Q1 := by
 refine ⟨B, φ, S, ρ, I, E, ?_⟩
 cases e : m ρ S with
 | stuck => rw [e] at f; exact f
 | err x S' =>
  rw [e] at f;exact fun φ' c d H' I' X r => f φ' σ c d H' I' X (E.ext X I) r
 | ok d S' =>
  rw [e] at f;exact fun φ' v H' I' X r => hk φ' S' d v H' I' X (E.ext X I) r (FinS.ext f X)
def aS (m n : FS) : FS := fun ρ S => match m ρ S with
 | .next ρ' S' => n ρ' S'
 | o => o
def bM : FS := fun ρ S => .next ρ S
def bQ (a : FE) : FS := fun ρ S => (a ρ S).toS ρ fun d S1 => .ret d S1
def eA (a : FE) : FS := fun ρ S => (a ρ S).toS ρ fun _ S1 => .next ρ S1
def cF (t : FT) (m n : FS) : FS := fun ρ S => (t ρ S).toS ρ fun c S1 => if c = true then m ρ S1 else n ρ S1
theorem RV (h : lG K W (aS m n) D σ H) : tSeq (lG K W m) (lG K W n) D σ H := by
 obtain ⟨B, φ, S, ρ, I, E, f⟩ := h;refine ⟨B, φ, S, ρ, I, E, ?_⟩
 unfold aS at f;cases e : m ρ S with
 | next ρ' S' =>
  rw [e] at f;exact fun φ' σ' H' I' X r => ⟨B, φ', S', ρ', I', r, FinS.ext f X⟩
 | ret d S' => rw [e] at f; exact f
 | brk d S' => rw [e] at f; exact f
 | cnt d S' => rw [e] at f; exact f
 | err x d S' => rw [e] at f; exact f
 | stuck => rw [e] at f; exact f
theorem aR : PSs X [] (lG X.K W bM) := Hg pss_nil fun D σ H h => by
 obtain ⟨B, φ, S, ρ, I, E, f⟩ := h;exact f φ σ H I Ext.refl E
theorem aI (h : PS X st (lG X.K W m)) : PSs X [st] (lG X.K W m) := pss_one h
theorem aE (h : PS X st (lG X.K W m)) (hr : PSs X iM (lG X.K W n)) : PSs X (st :: iM) (lG X.K W (aS m n)) := Hg (pss_cons h hr) fun D σ H h => RV h
theorem aQ (ha : PE X a (dC X.K W ma)) : PS X (.Return (some a) pos) (lG X.K W (bQ ma)) := gH (ps_ret ha) fun D σ H h => by
 obtain ⟨B, φ, S, ρ, I, E, f⟩ := h;exact cM I E f fun φ' S' d v H1 I1 X1 E1 r f1 => f1 φ' v H1 I1 Ext.refl r
theorem TF : PS X (.Return none pos) (lG X.K W (bQ (mC .non))) := gH ps_retN fun D σ H h => by
 obtain ⟨B, φ, S, ρ, I, E, f⟩ := h;exact f φ _ H I Ext.refl rfl
theorem cP (ha : PE X a (dC X.K W ma)) (hs : swapsWith a none pos.line X.env = pure false := by rfl) : PS X (.Expr a pos) (lG X.K W (eA ma)) := gH (ps_expr ha hs) fun D σ H h => by
 obtain ⟨B, φ, S, ρ, I, E, f⟩ := h;exact cM I E f fun φ' S' d v H1 I1 X1 E1 r f1 => f1 φ' σ H1 I1 Ext.refl E1
theorem bH {s1 s2 : List Stmt} (ht : PT X c (yS X.K W mt)) (ha : PSs X s1 (lG X.K W m)) (hb : PSs X s2 (lG X.K W n)) : PS X (.If c s1 s2 pos) (lG X.K W (cF mt m n)) := gH (ps_if ht ha hb) fun D σ H h => by
 obtain ⟨B, φ, S, ρ, I, E, f⟩ := h;refine cM I E f fun φ' S' d v H1 I1 X1 E1 r f1 => ?_
 have r : v = d := r;subst r;cases v with
 | true => exact ⟨B, φ', S', ρ, I1, E1, f1⟩
 | false => exact ⟨B, φ', S', ρ, I1, E1, f1⟩
inductive Tg where
 | nm (i : Nat) | tp (is : List Nat) | tn (i : Nat) (is : List Nat)
def HL : List Nat -> TGs
 | [] => gNil
 | i :: r => gCons (gName i) (HL r)
def LL (K : aD) : Tg -> TG
 | .nm i => gName i
 | .tp is => gTup K is.length (HL is)
 | .tn i is => gTup K 2 (gCons (gName i) (gCons (gTup K is.length (HL is)) gNil))
def putAll : List Nat -> List L2.V -> L2.St -> L2.St
 | i :: r, v :: vs, σ => putAll r vs (σ.set i (some v))
 | _, _, σ => σ
def jQ : List Nat -> List PH.D -> Ev -> Ev
 | i :: r, v :: vs, σ => jQ r vs (σ.set i (some (.dat v)))
 | _, _, σ => σ
def pR : Tg -> Vl -> Ev -> Option Ev
 | .nm i, d, ρ => some (ρ.set i (some d))
 | .tp is, .dat (.tup ds), ρ => if ds.length = is.length then some (jQ is ds ρ) else none
 | .tp _, _, _ => none
 | .tn i is, .dat (.tup [d, .tup ds]), ρ => if ds.length = is.length then some (jQ is ds (ρ.set i (some (.dat d)))) else none
 | .tn _ _, _, _ => none
def OG : Tg -> List Nat
 | .nm i => [i]
 | .tp is => is
 | .tn i is => i :: is
theorem C8 {Q : L2.St -> Hp -> Prop} : ∀ {is : List Nat} {vs : List L2.V} {σ : L2.St} {H : Hp}, vs.length = is.length -> Q (putAll is vs σ) H -> HL is vs σ H Q
 | [], [], σ, H, _, q => ⟨rfl, q⟩
 | i :: is, v :: vs, σ, H, h, q => ⟨v, vs, rfl, C8 (is := is) (by simpa using h) q⟩
 | [], _ :: _, _, _, h, _ => by simp at h
 | _ :: _, [], _, _, h, _ => by simp at h
theorem Dl : ∀ {is : List Nat} {ds : List PH.D} {vs : List L2.V} {ρ : Ev} {σ : L2.St}, RepL K (kA B φ S) H ds vs -> RepE K B φ S H ρ σ -> RepE K B φ S H (jQ is ds ρ) (putAll is vs σ)
 | [], ds, vs, ρ, σ, h, E => by cases ds <;> cases vs <;> exact E
 | i :: is, [], vs, ρ, σ, h, E => by cases h; exact E
 | i :: is, d :: ds, vs, ρ, σ, ⟨v, ws, e, h1, h2⟩, E => by subst e; exact Dl (is := is) h2 (E.set (d := .dat d) h1 i)
def ON : Tg -> L2.V -> List L2.V -> L2.St -> L2.St
 | .nm i, v, _, σ => σ.set i (some v)
 | .tp is, _, vs, σ => putAll is vs σ
 | .tn i is, _, v :: vs, σ => putAll is vs (σ.set i (some v))
 | .tn _ _, _, [], σ => σ
theorem Be {t : Tg} {d : Vl} {v : L2.V} {ρ ρ' : Ev} {Q : L2.St -> Hp -> Prop} (E : RepE K B φ S H ρ σ) (r : RepV K B φ S H d v) (h : pR t d ρ = some ρ') (q : ∀ vs, RepE K B φ S H ρ' (ON t v vs σ) -> Q (ON t v vs σ) H) : LL K t v σ H Q := by
 cases t with
 | nm i => cases h; exact q [] (E.set r i)
 | tp is =>
  cases d with
  | dat d =>
   cases d with
   | tup ds =>
    have h : (if ds.length = is.length then some (jQ is ds ρ) else none) = some ρ' := h
    split at h
    ·rename_i hl
     cases h;obtain ⟨a, vs, rfl, h1, l⟩ := r;exact ⟨a, vs, rfl, h1, by rw [l.len, hl], C8 (by rw [l.len, hl]) (q vs (Dl l E))⟩
    ·cases h
   | _ => cases h
  | _ => cases h
 | tn i is =>
  cases d with
  | dat d =>
   cases d with
   | tup xs =>
    cases xs with
    | nil => cases h
    | cons d0 xs =>
     cases xs with
     | nil => cases h
     | cons d1 xs =>
      cases xs with
      | cons _ _ => cases d1 <;> cases h
      | nil =>
       cases d1 with
       | tup ds =>
        have h : (if ds.length = is.length then some (jQ is ds (ρ.set i (some (.dat d0)))) else none) = some ρ' := h
        split at h
        ·rename_i hl
         cases h;obtain ⟨a, vs, rfl, h1, v0, ws, rfl, r0, v1, us, rfl, ⟨b, zs, rfl, h2, l⟩, rfl⟩ := r;refine ⟨a, [v0, .ref b], rfl, h1, rfl, v0, _, rfl, .ref b, _, rfl, b, zs, rfl, h2, by rw [l.len, hl], ?_⟩
         refine C8 (Q := fun σ' H' => gNil [] σ' H' Q) (by rw [l.len, hl]) ⟨rfl, ?_⟩
         exact q (v0 :: zs) (Dl l (E.set (d := .dat d0) r0 i))
        ·cases h
       | _ => cases h
   | _ => cases h
  | _ => cases h
def cN (a : FE) (t : Tg) : FS := fun ρ S => (a ρ S).toS ρ fun d S1 => match pR t d ρ with
 | some ρ' => .next ρ' S1
 | none => .stuck
theorem LU {t : Tg} (h : lG K W (cN ma t) D σ H) : tAsg (dC K W ma) (LL K t) D σ H := by
 obtain ⟨B, φ, S, ρ, I, E, f⟩ := h;refine cM I E f fun φ' S' d v H1 I1 X1 E1 r f1 => ?_
 split at f1
 ·rename_i ρ' q
  exact Be E1 r q fun vs E2 => f1 φ' _ H1 I1 Ext.refl E2
 ·exact f1.elim
theorem tW {tg e : Expr} {t : Tg} (he : PE X e (dC X.K W ma)) (hg : PG X tg (LL X.K t)) (hs : swapsWithSole [tg] e pos.line X.env = pure false := by rfl) (hw : swappedStores [tg] e X.env = pure none := by rfl)
  (h1 : (assignEach [tg] X.env).map (·.2) = [assign tg X.env] := by rfl) : PS X (.Assign [tg] e pos) (lG X.K W (cN ma t)) := gH (ps_asg he hg hs hw h1) fun D σ H h => LU h
theorem bJ {i : Nat} {x : Str} {e : Expr} {pos' : Pos} (hN : X.N.Nodup) (hi : X.N[i]? = some x) (hx : Loc X.env.scope x) (he : PE X e (dC X.K W ma)) (hs : swapsWith e (some (.Name x pos')) pos.line X.env = pure false := by rfl) (hf : X.fn x = true \/ X.env.scope.names.lookup x = some .local := by first | exact .inl rfl | exact .inr rfl | assumption) :
  PS X (.Assign [.Name x pos'] e pos) (lG X.K W (cN ma (.nm i))) := gH (ps_set hN hi hx he hs hf) fun D σ H h => LU (t := .nm i) h
def wipeE (ρ : Ev) : List Nat -> Ev
 | [] => ρ
 | v :: vs => (wipeE ρ vs).set v none
theorem RepE.wipeE {ρ : Ev} (E : RepE K B φ S H ρ σ) : ∀ is : List Nat, RepE K B φ S H (wipeE ρ is) σ
 | [] => E
 | i :: is => (RepE.wipeE E is).forget i
def kW (is : List Nat) (m : FS) : FS := fun ρ S => match m ρ S with
 | .next ρ' S' => .next (wipeE ρ' is) S'
 | .cnt ρ' S' => .cnt (wipeE ρ' is) S'
 | .brk ρ' S' => .brk (wipeE ρ' is) S'
 | o => o
theorem OQ {is : List Nat} (h : lG K W (kW is m) D σ H) : lG K W m D σ H := by
 obtain ⟨B, φ, S, ρ, I, E, f⟩ := h;refine ⟨B, φ, S, ρ, I, E, ?_⟩
 unfold kW at f;cases e : m ρ S with
 | next ρ' S' => rw [e] at f; exact fun φ' σ' H' I' X r => f φ' σ' H' I' X (r.wipeE is)
 | ret d S' => rw [e] at f; exact f
 | brk ρ' S' => rw [e] at f; exact fun φ' σ' H' I' X r => f φ' σ' H' I' X (r.wipeE is)
 | cnt ρ' S' => rw [e] at f; exact fun φ' σ' H' I' X r => f φ' σ' H' I' X (r.wipeE is)
 | err x d S' => rw [e] at f; exact f
 | stuck => rw [e] at f; exact f
theorem fQ (is : List Nat) (h : PSs X iM (lG X.K W m)) : PSs X iM (lG X.K W (kW is m)) := Hg h fun D σ H h => OQ h
abbrev FI := Ev -> aO -> Res (List PH.D)
def R8 (K : aD) (B : Addr -> Prop) (φ : List Addr) (S : aO) (H : Hp) (J : It) (ds : List PH.D) : Prop := ∀ φ1 S1 H1 B1, GInv K B1 φ1 S1 H1 -> Kp (kA B φ S) H (kA B1 φ1 S1) H1 ->
 (∀ i, i < ds.length -> J.go i H1) /\ J.stop ds.length H1 /\ ∀ i x H2 d, ds[i]? = some d -> J.yld i H1 x H2 -> GInv K B1 φ1 S1 H2 /\ Ext φ1 S1 H1 φ1 S1 H2 /\ Rep K (kA B1 φ1 S1) H2 d x
def RI (K : aD) : Rl (List PH.D) It := fun B φ S H ds J => R8 K B φ S H J ds
abbrev KA (K : aD) (W : WX) (m : FI) : TI := rd K W (RI K) m
theorem Hh {tg iter : Expr} {t u : TI} (h : PI X tg iter t) (i : ∀ σ H R, u σ H R -> t σ H R) : PI X tg iter u := ⟨fun pins s σ H R I q => h.run pins s σ H R I (i σ H R q)⟩
theorem Kp.trans {B1 B2 B3 : Addr -> Prop} {H1 H2 H3 : Hp} (a : Kp B1 H1 B2 H2) (b : Kp B2 H2 B3 H3) : Kp B1 H1 B3 H3 := ⟨fun c o h n => b.old c o (a.old c o h n).1 (a.old c o h n).2, fun c u h => b.tup c u (a.tup c u h)⟩
theorem Ext.kpB {B1 : Addr -> Prop} {φ1 : List Addr} {S1 : aO} {H1 : Hp} (h1 : ∀ a, B a -> B1 a) (h2 : ∀ a, H a ≠ none -> B1 a -> B a) (I : GInv K B φ S H) (x : Ext φ S H φ1 S1 H1) : Kp (kA B φ S) H (kA B1 φ1 S1) H1 where
 old := fun b o h n => by
  obtain ⟨h3, h4⟩ := x.old b o h (fun q => n (.inr q))
  exact ⟨h3, fun q => by
   rcases q with q | q
   ·exact n (.inl (h2 b (by rw [h]; simp) q))
   ·exact h4 q⟩
 tup := (x.kp I).tup
theorem SQ {v : L2.V} {ds : List PH.D} (I : GInv K B φ S H) (r : Rep K (kA B φ S) H (.lst ds) v) : ∃ a, v = .ref a /\ (∃ xs, SqL K H a xs) /\ R8 K B φ S H (Itl K a) ds := by
 obtain ⟨a, vs, rfl, nb, h1, l⟩ := r;refine ⟨a, rfl, ⟨vs, SqL.of h1⟩, fun φ1 S1 H1 B1 I1 X1 => ?_⟩
 have h2 := (X1.old a _ h1 nb).1;have l2 := RepL.kp X1 ds vs l;have hl := l.len;refine ⟨fun i hi => ⟨vs, vs[i], SqL.of h2, by simp [hl, hi]⟩, ⟨vs, SqL.of h2, by omega⟩, fun i x H2 d hd y => ?_⟩
 obtain ⟨rfl, y⟩ := y;obtain ⟨v', h3, h4⟩ := l2.get hd;rw [y vs (SqL.of h2)] at h3;cases h3;exact ⟨I1, Ext.refl, h4⟩
theorem Vb {v : L2.V} {ds : List PH.D} (I : GInv K B φ S H) (r : Rep K (kA B φ S) H (.tup ds) v) : ∃ a, v = .ref a /\ (∃ xs, SqT K H a xs) /\ R8 K B φ S H (Itt K a) ds := by
 obtain ⟨a, vs, rfl, h1, l⟩ := r;refine ⟨a, rfl, ⟨vs, h1⟩, fun φ1 S1 H1 B1 I1 X1 => ?_⟩
 have h2 : SqT K H1 a vs := SqT.kp X1.tup h1;have l2 := RepL.kp X1 ds vs l;have hl := l.len;refine ⟨fun i hi => ⟨vs, vs[i], h2, by simp [hl, hi]⟩, ⟨vs, h2, by omega⟩, fun i x H2 d hd y => ?_⟩
 obtain ⟨rfl, y⟩ := y;obtain ⟨v', h3, h4⟩ := l2.get hd;rw [y vs h2] at h3;cases h3;exact ⟨I1, Ext.refl, h4⟩
def itemsOf : Vl -> aO -> Res (List PH.D)
 | .dat (.lst ds), S => .ok ds S
 | .dat (.tup ds), S => .ok ds S
 | _, _ => .stuck
def jU (a : FE) : FI := fun ρ S => (a ρ S).bind itemsOf
theorem hZ {tg : Expr} (ha : PE X a (dC X.K W ma)) : PI X tg a (KA X.K W (jU ma)) := Hh (V4 ha) fun σ H R h =>
 cR (k := fun x _ S => itemsOf x S) h fun B φ S ρ d v H1 I E r f => by
  unfold itemsOf at f;split at f
  ·obtain ⟨a, rfl, h1, h2⟩ := SQ I r
   exact FK ⟨h1, Fin.now f I h2⟩
  ·obtain ⟨a, rfl, h1, h2⟩ := Vb I r
   exact Cr ⟨h1, Fin.now f I h2⟩
  ·exact f.elim
def iC (lo : Int) (n : Nat) : List PH.D := (aX n).map fun (k : Nat) => PH.D.int (lo + (k : Int))
theorem Vc {lo : Int} {n : Nat} : R8 K B φ S H (Itr lo n) (iC lo n) := fun φ1 S1 H1 B1 I1 X1 => by
 refine ⟨fun i hi => by show i < n; simpa [iC] using hi, by show n <= _; simp [iC], fun i x H2 d hd y => ?_⟩
 obtain ⟨rfl, rfl⟩ := y;have : d = .int (lo + (i : Int)) := by
  unfold iC at hd;rw [cL] at hd;cases q : (aX n)[i]? with
  | none => rw [q] at hd; cases hd
  | some k =>
   rw [q] at hd;have := aH.mp q;obtain ⟨_, e⟩ := this;simp at e;subst e;cases hd;rfl
 subst this;exact ⟨I1, Ext.refl, rfl⟩
def kX (a : FE) : FI := fun ρ S => (a ρ S).bind fun x S1 => match x with
 | .dat (.int j) => if -(2 ^ 62) <= j /\ j < 2 ^ 62 then .ok (iC 0 j.toNat) S1 else .stuck
 | _ => .stuck
theorem hR {tg : Expr} (hg : Gl X "range") (hm : X.mg "range" = none) (ha : PE X a (dC X.K W ma)) (hs : starEach [a] X.env = [(false, eval a X.env)] := by rfl) : PI X tg (.Call (.Name "range" p) [a] [] pos) (KA X.K W (kX ma)) := Hh (pi_range1 hg hm (pa_cons ha pa_nil hs) hs) fun σ H R h =>
 cR (k := fun x _ S1 => match x with | Vl.dat (PH.D.int j) => if -(2 ^ 62) <= j /\ j < 2 ^ 62 then Res.ok (iC 0 j.toNat) S1 else .stuck | _ => .stuck) h fun B φ S ρ d v H1 I E r f => by
  split at f
  ·rename_i j
   cases r;split at f
   ·rename_i hj
    exact ⟨j, rfl, hj.1, hj.2, Fin.now f I Vc⟩
   ·exact f.elim
  ·exact f.elim
def eC : Nat -> List PH.D -> List PH.D
 | _, [] => []
 | n, d :: r => .tup [.int (n : Nat), d] :: eC (n + 1) r
theorem GA : ∀ (n : Nat) (ds : List PH.D), (eC n ds).length = ds.length
 | _, [] => rfl
 | n, d :: r => by simp [eC, GA (n + 1) r]
theorem GB : ∀ (n : Nat) (ds : List PH.D) (i : Nat), (eC n ds)[i]? = (ds[i]?).map fun d => PH.D.tup [.int ((n + i : Nat) : Int), d]
 | n, [], i => by simp [eC]
 | n, d :: r, 0 => by simp [eC]
 | n, d :: r, i + 1 => by
  simp only [eC, fU];rw [GB (n + 1) r i, show n + 1 + i = n + (i + 1) by omega]
def Fu (a : FE) : FI := fun ρ S => (a ρ S).bind fun x S1 => match x with
 | .dat (.lst ds) => .ok (eC 0 ds) S1
 | _ => .stuck
theorem SS {a : Addr} {vs : List L2.V} {ds : List PH.D} (I : GInv K B φ S H) (nb : ¬ kA B φ S a) (h1 : H a = some (.lst vs)) (l : RepL K (kA B φ S) H ds vs) : R8 K B φ S H (Ite K a) (eC 0 ds) := fun φ1 S1 H1 B1 I1 X1 => by
 have h2 := (X1.old a _ h1 nb).1;have l2 := RepL.kp X1 ds vs l;have hl := l.len;rw [GA];refine ⟨fun i hi => ⟨vs, vs[i], SqL.of h2, by simp [hl, hi]⟩, ⟨vs, SqL.of h2, by omega⟩, fun i x H2 d hd y => ?_⟩
 obtain ⟨T, x', rfl, nT, rfl, y⟩ := y;rw [GB, lQ] at hd;cases q : ds[i]? with
 | none => rw [q] at hd; cases hd
 | some d' =>
  rw [q] at hd;cases hd;obtain ⟨v', h3, h4⟩ := l2.get q;rw [y vs (SqL.of h2)] at h3;cases h3;have X2 := Ext.new (o := .tup [.int (i : Nat), x']) I1 nT;exact ⟨I1.new nT, X2, T, _, rfl, .inl (.inl upd_same), _, _, rfl, rfl, _, _, rfl, Rep.kp (X2.kp I1) _ _ h4, rfl⟩
theorem D9 {elts : List Expr} {kk : Nat} {tpos : Pos} (hg : Gl X "enumerate") (hm : X.mg "enumerate" = none) (ha : PE X a (dC X.K W ma)) (hs : starEach [a] X.env = [(false, eval a X.env)] := by rfl) : PI X (.Tuple elts kk tpos) (.Call (.Name "enumerate" p) [a] [] pos) (KA X.K W (Fu ma)) := Hh (pi_enum hg hm (pa_cons ha pa_nil hs) hs) fun σ H R h =>
 cR (k := fun x _ S1 => match x with | Vl.dat (PH.D.lst ds) => Res.ok (eC 0 ds) S1 | _ => .stuck) h fun B φ S ρ d v H1 I E r f => by
  split at f
  ·obtain ⟨a, vs, rfl, nb, h1, l⟩ := r
   exact ⟨a, vs, rfl, SqL.of h1, Fin.now f I (SS I nb h1 l)⟩
  ·exact f.elim
def zR : List PH.D -> List PH.D -> List PH.D
 | a :: r, b :: s => .tup [a, b] :: zR r s
 | _, _ => []
theorem Hq : ∀ (xs ys : List PH.D) (i : Nat) (d : PH.D), (zR xs ys)[i]? = some d -> ∃ a b, xs[i]? = some a /\ ys[i]? = some b /\ d = .tup [a, b]
 | [], ys, i, d, h => by simp [zR] at h
 | _ :: _, [], i, d, h => by simp [zR] at h
 | a :: r, b :: s, 0, d, h => by simp [zR] at h; exact ⟨a, b, rfl, rfl, h.symm⟩
 | a :: r, b :: s, i + 1, d, h => by
  simp only [zR, fU] at h;obtain ⟨x, y, h1, h2, h3⟩ := Hq r s i d h;exact ⟨x, y, by simpa using h1, by simpa using h2, h3⟩
theorem Ho : ∀ (xs ys : List PH.D), (zR xs ys).length = min xs.length ys.length
 | [], ys => by simp [zR]
 | _ :: _, [] => by simp [zR]
 | a :: r, b :: s => by simp [zR, Ho r s]
def P4 (a b : FE) : FI := fun ρ S => (a ρ S).bind fun x S1 => (b ρ S1).bind fun y S2 => match x, y with
 | .dat (.lst ds), .dat (.lst es) => .ok (zR ds es) S2
 | _, _ => .stuck
theorem WM {elts : List Expr} {kk : Nat} {tpos : Pos} (hg : Gl X "zip") (hm : X.mg "zip" = none) (ha : PE X a (dC X.K W ma)) (hb : PE X b (dC X.K W mb)) (hs : starEach [a, b] X.env = (false, eval a X.env) :: starEach [b] X.env := by rfl) (hs2 : starEach [b] X.env = [(false, eval b X.env)] := by rfl) (hpl : (backTo pos (starEach [b] X.env)).any (·.1) = false := by rfl) : PI X (.Tuple elts kk tpos) (.Call (.Name "zip" p) [a, b] [] pos) (KA X.K W (P4 ma mb)) := Hh (pi_zip hg hm (pa_cons ha (pa_cons hb pa_nil hs2) hs) hs hpl) fun σ H R h =>
 cR (k := fun x ρ S1 => (mb ρ S1).bind fun y S2 => match x, y with | Vl.dat (PH.D.lst ds), Vl.dat (PH.D.lst es) => Res.ok (zR ds es) S2 | _, _ => .stuck) h fun B φ S ρ d v H1 I E r f => jK I E f fun φ' S' d2 v2 H2 I2 X2 E2 r2 f2 => by
  split at f2
  ·rename_i ds es
   replace r := r.ext X2 I
   obtain ⟨a, vs, rfl, na, h1, l1⟩ := r;obtain ⟨b, ws, rfl, nb, h2, l2⟩ := r2;refine ⟨a, b, vs, ws, rfl, SqL.of h1, SqL.of h2, Fin.now f2 I2 fun φ3 S3 H3 B3 I3 X3 => ?_⟩
   have h1' := (X3.old a _ h1 na).1;have h2' := (X3.old b _ h2 nb).1;have l1' := RepL.kp X3 ds vs l1;have l2' := RepL.kp X3 es ws l2;have e1 := l1.len;have e2 := l2.len;rw [Ho];refine ⟨fun i hi => ?_, ⟨vs, ws, SqL.of h1', SqL.of h2', by omega⟩, fun i x H4 d hd y => ?_⟩
   ·have i1 : i < vs.length := by omega
    have i2 : i < ws.length := by omega
    exact ⟨vs, ws, vs[i], ws[i], SqL.of h1', SqL.of h2', by simp [i1], by simp [i2]⟩
   ·obtain ⟨T, x', y', rfl, nT, rfl, y1, y2⟩ := y
    obtain ⟨a', b', g1, g2, rfl⟩ := Hq ds es i d hd;obtain ⟨v1, k1, k2⟩ := l1'.get g1;obtain ⟨v2, k3, k4⟩ := l2'.get g2;rw [y1 vs (SqL.of h1')] at k1;rw [y2 ws (SqL.of h2')] at k3;cases k1;cases k3;have X4 := Ext.new (o := .tup [x', y']) I3 nT;exact ⟨I3.new nT, X4, T, _, rfl, .inl (.inl upd_same), _, _, rfl, Rep.kp (X4.kp I3) _ _ k2, _, _, rfl, Rep.kp (X4.kp I3) _ _ k4, rfl⟩
  ·exact f2.elim
end
section
variable {X : Cx} {W : WX} {e a b c : Expr} {es rest : List Expr} {pos p q p2 : Pos} {x y z : Str} {K : aD} {ma mb mc : FE} {mt mu : FT} {mas : FA} {mi : FI} {B : Addr -> Prop} {φ φ' : List Addr} {S S' : aO} {H H' : Hp} {σ : L2.St} {Q : VK} {m n : FS} {st : Stmt} {iM : List Stmt} {D : Ends} {t : Tg}
def loop (t : Tg) (mb : FS) : List PH.D -> Ev -> aO -> Out
 | [], ρ, S => .next ρ S
 | d :: r, ρ, S => match pR t (.dat d) ρ with
  | none => .stuck
  | some ρ1 => match mb ρ1 S with
   | .next ρ2 S2 => loop t mb r ρ2 S2
   | .cnt ρ2 S2 => loop t mb r ρ2 S2
   | .brk ρ2 S2 => .next ρ2 S2
   | .ret d S2 => .ret d S2
   | .err e ρ2 S2 => .err e ρ2 S2
   | .stuck => .stuck
def tT (mi : FI) (t : Tg) (mb : FS) : FS := fun ρ S => (mi ρ S).toS ρ fun ds S1 => loop t mb ds ρ S1
theorem RZ (h : lG K W (tT mi t m) D σ H) : tFor (KA K W mi) (LL K t) (lG K W m) D σ H := by
 obtain ⟨B, φ, S, ρ, I, E, f⟩ := h;refine cM I E f fun φ0 S0 ds J H0 I0 X0 E0 r f0 => ?_
 refine ⟨fun i k σ' H' => i <= ds.length /\ k = ds.length - i /\ ∃ φ1 S1 ρ1, GInv K B φ1 S1 H' /\ Ext φ0 S0 H0 φ1 S1 H' /\ RepE K B φ1 S1 H' ρ1 σ' /\ FinS K W D B φ1 S1 H' (loop t m (ds.drop i) ρ1 S1), ⟨_, gL _, rfl, φ0, S0, ρ, I0, Ext.refl, E0, f0⟩, ?_⟩
 rintro i k σ' H' ⟨hi, rfl, φ1, S1, ρ1, I1, X1, E1, f1⟩
 obtain ⟨hgo, hstop, hyld⟩ := r φ1 S1 H' B I1 (X1.kp I0)
 by_cases hlt : i < ds.length
 ·refine .inr ⟨hgo i hlt, fun σ2 H2 => i + 1 <= ds.length /\ ∃ φ2 S2 ρ2, GInv K B φ2 S2 H2 /\ Ext φ0 S0 H0 φ2 S2 H2 /\ RepE K B φ2 S2 H2 ρ2 σ2 /\ FinS K W D B φ2 S2 H2 (loop t m (ds.drop (i + 1)) ρ2 S2), fun σ2 H2 ⟨h1, h2⟩ => ⟨ds.length - (i + 1), by omega, h1, rfl, h2⟩, fun x H2 y => ?_⟩
  have hd : ds[i]? = some ds[i] := by simp [hlt]
  obtain ⟨I2, X2, r2⟩ := hyld i x H2 ds[i] hd y;rw [iB hlt] at f1;unfold loop at f1;have E2 := E1.ext X2 I1;have f2 := FinS.ext f1 X2;split at f2
  ·exact f2.elim
  ·rename_i ρ2 q2
   refine Be E2 (d := .dat ds[i]) r2 q2 fun vs E3 => ⟨B, φ1, S1, ρ2, I2, E3, ?_⟩
   cases q3 : m ρ2 S1 with
   | next ρ3 S3 =>
    rw [q3] at f2;exact fun φ3 σ3 H3 I3 X3 E4 => ⟨hlt, φ3, S3, ρ3, I3, X1.trans (X2.trans X3), E4, FinS.ext f2 X3⟩
   | cnt ρ3 S3 =>
    rw [q3] at f2;exact fun φ3 σ3 H3 I3 X3 E4 => ⟨hlt, φ3, S3, ρ3, I3, X1.trans (X2.trans X3), E4, FinS.ext f2 X3⟩
   | brk ρ3 S3 => rw [q3] at f2; exact f2
   | ret d S3 => rw [q3] at f2; exact f2
   | err e ρ3 S3 => rw [q3] at f2; exact f2
   | stuck => rw [q3] at f2; exact f2
 ·have e : i = ds.length := by omega
  subst e;rw [pX] at f1;exact .inl ⟨hstop, f1 φ1 σ' H' I1 Ext.refl E1⟩
theorem jN {tg iter : Expr} (hp : PassesOwn (model X.prog X.w) X.A X.env X.xe) (hc : X.calm = true) (hi : PI X tg iter (KA X.K W mi)) (hg : PG X tg (LL X.K t)) (hb : PSs X iM (lG X.K W m))
  (hs : ∀ x, foldedSetIterable iter X.env x = pure x := by intro _; rfl) : PS X (.For tg iter iM [] pos) (lG X.K W (tT mi t m)) := gH (ps_for hp hc hi hg hb hs) fun D σ H h => RZ h
def sN (mt : FT) (mb : FS) : Nat -> Ev -> aO -> Out
 | 0, _, _ => .stuck
 | n + 1, ρ, S => (mt ρ S).toS ρ fun c S1 => if c = true then (match mb ρ S1 with
   | .next ρ2 S2 => sN mt mb n ρ2 S2
   | .cnt ρ2 S2 => sN mt mb n ρ2 S2
   | .brk ρ2 S2 => .next ρ2 S2
   | .ret d S2 => .ret d S2
   | .err e ρ2 S2 => .err e ρ2 S2
   | .stuck => .stuck) else .next ρ S1
def Bu (k : Nat) (mt : FT) (mb : FS) : FS := fun ρ S => sN mt mb k ρ S
theorem Mo {k : Nat} (h : lG K W (Bu k mt m) D σ H) : tWhile (yS K W mt) (lG K W m) D σ H := by
 obtain ⟨B, φ, S, ρ, I, E, f⟩ := h;refine ⟨fun k σ' H' => ∃ φ1 S1 ρ1, GInv K B φ1 S1 H' /\ RepE K B φ1 S1 H' ρ1 σ' /\ FinS K W D B φ1 S1 H' (sN mt m k ρ1 S1), ⟨k, φ, S, ρ, I, E, f⟩, ?_⟩
 rintro k σ' H' ⟨φ1, S1, ρ1, I1, E1, f1⟩
 cases k with
 | zero => exact f1.elim
 | succ k =>
  refine cM I1 E1 f1 fun φ2 S2 d v H2 I2 X2 E2 r f2 => ?_
  have r : v = d := r;subst r;cases v with
  | false => exact f2 φ2 σ' H2 I2 Ext.refl E2
  | true =>
   refine ⟨fun σ3 H3 => ∃ φ1 S1 ρ1, GInv K B φ1 S1 H3 /\ RepE K B φ1 S1 H3 ρ1 σ3 /\ FinS K W D B φ1 S1 H3 (sN mt m k ρ1 S1), fun σ3 H3 h3 => ⟨k, Ex _, h3⟩, ⟨B, φ2, S2, ρ1, I2, E2, ?_⟩⟩
   rw [if_pos rfl] at f2;cases q3 : m ρ1 S2 with
   | next ρ3 S3 =>
    rw [q3] at f2;exact fun φ3 σ3 H3 I3 X3 E4 => ⟨φ3, S3, ρ3, I3, E4, FinS.ext f2 X3⟩
   | cnt ρ3 S3 =>
    rw [q3] at f2;exact fun φ3 σ3 H3 I3 X3 E4 => ⟨φ3, S3, ρ3, I3, E4, FinS.ext f2 X3⟩
   | brk ρ3 S3 => rw [q3] at f2; exact f2
   | ret d S3 => rw [q3] at f2; exact f2
   | err e ρ3 S3 => rw [q3] at f2; exact f2
   | stuck => rw [q3] at f2; exact f2
theorem JK {k : Nat} (hp : PassesOwn (model X.prog X.w) X.A X.env X.xe) (hc : PT X c (yS X.K W mt)) (hb : PSs X iM (lG X.K W m)) : PS X (.While c iM [] pos) (lG X.K W (Bu k mt m)) := gH (ps_while hp hc hb) fun D σ H h => Mo h
theorem yM : ∀ (vs : List Nat) (σ : L2.St) (j : Nat), (wipe σ vs)[j]? = if j ∈ vs then (σ[j]?).map (fun _ => none) else σ[j]?
 | [], σ, j => by simp [wipe]
 | v :: vs, σ, j => by
  unfold wipe;rw [aT, yM vs σ j, wipe_length]
  by_cases e : v = j
  ·subst e
   rw [if_pos rfl, if_pos (aV ..)]
   by_cases hl : v < σ.length
   ·rw [if_pos hl]; simp [hl]
   ·rw [if_neg hl]; simp [wU hl]
  ·rw [if_neg e]
   by_cases hm : j ∈ vs
   ·rw [if_pos hm, if_pos (aM _ hm)]
   ·rw [if_neg hm, if_neg]
    intro h;rcases aY.mp h with h | h
    ·exact e h.symm
    ·exact hm h
theorem DK {vs : List Nat} {σ : L2.St} {i : Nat} {v : Option L2.V} (hi : i ∈ vs) : wipe (σ.set i v) vs = wipe σ vs := by
 apply fV
 intro j;rw [yM, yM]
 by_cases hj : j ∈ vs
 ·rw [if_pos hj, if_pos hj, aT]
  by_cases e : i = j
  ·subst e
   rw [if_pos rfl]
   by_cases hl : i < σ.length
   ·rw [if_pos hl]; simp [hl]
   ·rw [if_neg hl]; simp [wU hl]
  ·rw [if_neg e]
 ·rw [if_neg hj, if_neg hj, aT, if_neg]
  intro e;subst e;exact hj hi
theorem yK {vs : List Nat} {σ : L2.St} : wipe (wipe σ vs) vs = wipe σ vs := by
 apply fV
 intro j;rw [yM]
 by_cases hj : j ∈ vs
 ·rw [if_pos hj, yM, if_pos hj]
  cases σ[j]? <;> rfl
 ·rw [if_neg hj]
theorem wW {vs : List Nat} : ∀ {is : List Nat} {ws : List L2.V} {σ : L2.St}, (∀ i ∈ is, i ∈ vs) -> wipe (putAll is ws σ) vs = wipe σ vs
 | [], ws, σ, _ => by cases ws <;> rfl
 | i :: is, [], σ, _ => rfl
 | i :: is, w :: ws, σ, h => by
  unfold putAll;rw [wW (is := is) fun j hj => h j (aM _ hj), DK (h i (aV ..))]
theorem yL {vs : List Nat} {v : L2.V} {ws : List L2.V} (h : ∀ i ∈ OG t, i ∈ vs) : wipe (ON t v ws σ) vs = wipe σ vs := by
 cases t with
 | nm i => exact DK (h i (by simp [OG]))
 | tp is => exact wW h
 | tn i is =>
  cases ws with
  | nil => rfl
  | cons w ws =>
   show wipe (putAll is ws (σ.set i (some w))) vs = _
   rw [wW fun j hj => h j (aM _ hj), DK (h i (aV ..))]
theorem RepE.wipes {ρ : Ev} (E : RepE K B φ S H ρ σ) (vs : List Nat) : RepE K B φ S H (PH.wipeE ρ vs) (wipe σ vs) := by
 have hl : ∀ vs : List Nat, (PH.wipeE ρ vs).length = ρ.length := fun vs => by
  induction vs with
  | nil => rfl
  | cons v vs ih => simp [PH.wipeE, ih]
 have hg : ∀ (vs : List Nat) (i : Nat) (d : Vl), (PH.wipeE ρ vs)[i]? = some (some d) -> i ∉ vs /\ ρ[i]? = some (some d) := fun vs => by
  induction vs with
  | nil => intro i d h; exact ⟨by simp, h⟩
  | cons v vs ih =>
   intro i d h;unfold PH.wipeE at h;rw [aT] at h
   by_cases e : v = i
   ·rw [if_pos e] at h
    by_cases hv : v < (PH.wipeE ρ vs).length
    ·rw [if_pos hv] at h; cases h
    ·rw [if_neg hv] at h; cases h
   ·rw [if_neg e] at h
    obtain ⟨h1, h2⟩ := ih i d h;exact ⟨fun q => by
     rcases aY.mp q with q | q
     ·exact e q.symm
     ·exact h1 q, h2⟩
 refine ⟨by rw [hl, wipe_length]; exact E.1, fun i d h => ?_⟩
 obtain ⟨h1, h2⟩ := hg vs i d h;obtain ⟨v, h3, h4⟩ := E.2 i d h2;exact ⟨v, by rw [yM, if_neg h1]; exact h3, h4⟩
def gC (B : Addr -> Prop) (a : Addr) : Addr -> Prop := fun b => B b \/ b = a
theorem GInv.plus {a : Addr} {o : HO} (I : GInv K B φ S H) (ha : H a = none) : GInv K (gC B a) φ S (upd H a o) where
 len := I.len
 ok := fun n c b h1 h2 => by
  have q := I.ok n c b h1 h2;have k : Kp (kA B φ S) H (kA (gC B a) φ S) (upd H a o) := Ext.kpB (B1 := gC B a) (fun _ h => .inl h) (fun b hb h => by
   rcases h with h | h
   ·exact h
   ·exact absurd (by rw [h]; exact ha) hb) I (Ext.new I ha)
  have hb : c ≠ .dead -> upd H a o b = H b := fun hc => upd_ne fun e => by
   subst e;exact I.fresh ha ⟨n, c, h1, hc, h2⟩
  have hV : ∀ {d : Vl} {v : L2.V}, RepV K B φ S H d v -> RepV K (gC B a) φ S (upd H a o) d v := fun {d v} r => by
   cases d with
   | dat d => exact Rep.kp k d v r
   | cel n => exact r
   | cels ns => obtain ⟨a', as, e1, e2, e3, e4⟩ := r; exact ⟨a', as, e1, (k.old _ _ e3 e2).2, (k.old _ _ e3 e2).1, e4⟩
   | scr ns => obtain ⟨a', e1, e2⟩ := r; exact ⟨a', e1, e2.keep fun o u h => by rw [upd_ne (ne_of_none h ha)]; exact h⟩
   | tc xs => obtain ⟨a', vs, e1, e2, e3⟩ := r; exact ⟨a', vs, e1, SqT.kp k.tup e2, e3.kp k (fun _ _ h => h)⟩
  have hF : ∀ {fs : List (Str × Vl)} {vs : List (Str × L2.V)}, RepF K B φ S H fs vs -> RepF K (gC B a) φ S (upd H a o) fs vs := fun {fs} => by
   induction fs with
   | nil => intro vs r; exact r
   | cons f fs ih => rintro vs ⟨v, ws, e, h1, h2⟩; exact ⟨v, ws, e, hV h1, ih h2⟩
  cases c with
  | dead => trivial
  | lst ds => obtain ⟨vs, e, r⟩ := q; exact ⟨vs, by rw [hb (by simp)]; exact e, RepL.kp k ds vs r⟩
  | ins C fs => obtain ⟨dx, vs, e, r⟩ := q; exact ⟨dx, vs, by rw [hb (by simp)]; exact e, hF r⟩
  | dct fs => obtain ⟨vs, e, r⟩ := q; exact ⟨vs, by rw [hb (by simp)]; exact e, hF r⟩
  | lv xs => obtain ⟨vs, e, r⟩ := q; exact ⟨vs, by rw [hb (by simp)]; exact e, dW hV r⟩
  | dki ks xs => obtain ⟨vs, e, r⟩ := q; exact ⟨vs, by rw [hb (by simp)]; exact e, dW hV r⟩
  | dkt ks xs => obtain ⟨vs, e, r⟩ := q; exact ⟨vs, by rw [hb (by simp)]; exact e, dW hV r⟩
 inj := I.inj
 blk := fun b h q => by
  rcases q with q | q
  ·exact I.blk b h q
  ·subst q; exact I.fresh ha h
 btr := fun b h => by
  rcases h with h | h
  ·obtain ⟨u, e⟩ := I.btr b h
   exact ⟨u, by rw [upd_ne (ne_of_none e ha)]; exact e⟩
  ·subst h; exact ⟨o, upd_same⟩
theorem RepV.less {a : Addr} {d : Vl} {v : L2.V} (r : RepV K (gC B a) φ S H d v) : RepV K B φ S H d v := by
 have k : Kp (kA (gC B a) φ S) H (kA B φ S) H := ⟨fun b o h n => ⟨h, fun q => n (by
  rcases q with q | q
  ·exact .inl (.inl q)
  ·exact .inr q)⟩, fun _ _ h => h⟩
 cases d with
 | dat d => exact Rep.kp k d v r
 | cel n => exact r
 | cels ns => obtain ⟨a', as, e1, e2, e3, e4⟩ := r; exact ⟨a', as, e1, (k.old _ _ e3 e2).2, e3, e4⟩
 | scr ns => exact r
 | tc xs => obtain ⟨a', vs, e1, e2, e3⟩ := r; exact ⟨a', vs, e1, SqT.kp k.tup e2, e3.kp k (fun _ _ h => h)⟩
theorem RepL.less {a : Addr} {ds : List PH.D} {vs : List L2.V} (r : RepL K (kA (gC B a) φ S) H ds vs) : RepL K (kA B φ S) H ds vs :=
 RepL.kp ⟨fun b o h n => ⟨h, fun q => n (by
  rcases q with q | q
  ·exact .inl (.inl q)
  ·exact .inr q)⟩, fun _ _ h => h⟩ ds vs r
theorem RepF.less {a : Addr} : ∀ {fs : List (Str × Vl)} {vs : List (Str × L2.V)}, RepF K (gC B a) φ S H fs vs -> RepF K B φ S H fs vs
 | [], vs, r => r
 | f :: fs, vs, ⟨v, ws, e, h1, h2⟩ => ⟨v, ws, e, h1.less, RepF.less h2⟩
theorem GInv.less {a : Addr} (I : GInv K (gC B a) φ S H) : GInv K B φ S H where
 len := I.len
 ok := fun n c b h1 h2 => by
  have q := I.ok n c b h1 h2;cases c with
  | dead => trivial
  | lst ds => obtain ⟨vs, e, r⟩ := q; exact ⟨vs, e, r.less⟩
  | ins C fs => obtain ⟨dx, vs, e, r⟩ := q; exact ⟨dx, vs, e, r.less⟩
  | dct fs => obtain ⟨vs, e, r⟩ := q; exact ⟨vs, e, r.less⟩
  | lv xs => obtain ⟨vs, e, r⟩ := q; exact ⟨vs, e, dW RepV.less r⟩
  | dki ks xs => obtain ⟨vs, e, r⟩ := q; exact ⟨vs, e, dW RepV.less r⟩
  | dkt ks xs => obtain ⟨vs, e, r⟩ := q; exact ⟨vs, e, dW RepV.less r⟩
 inj := I.inj
 blk := fun b h q => I.blk b h (.inl q)
 btr := fun b h => I.btr b (.inl h)
theorem Kp.plusPut {a : Addr} {acc : List L2.V} {o : HO} (ha : H a = some (.lst acc)) : Kp (kA (gC B a) φ S) H (kA (gC B a) φ S) (upd H a o) :=
 ⟨fun b o' h n => ⟨by
  rw [upd_ne]
  ·exact h
  ·intro e; subst e; exact n (.inl (.inr rfl)), n⟩, fun b w h => by
  have ne : b ≠ a := fun e => by
   subst e;rcases h with h | ⟨o', h⟩
   ·rw [ha] at h; cases h
   ·rw [ha] at h; cases h
  rcases h with h | ⟨o', h⟩
  ·exact .inl (by rw [upd_ne ne]; exact h)
  ·exact .inr ⟨o', by rw [upd_ne ne]; exact h⟩⟩
theorem RepV.plusPut {a : Addr} {acc : List L2.V} {o : HO} (ha : H a = some (.lst acc)) {d : Vl} {v : L2.V} (r : RepV K (gC B a) φ S H d v) : RepV K (gC B a) φ S (upd H a o) d v := by
 have k := Kp.plusPut (B := B) (φ := φ) (S := S) (o := o) ha;cases d with
 | dat d => exact Rep.kp k d v r
 | cel n => exact r
 | cels ns => obtain ⟨a', as, e1, e2, e3, e4⟩ := r; exact ⟨a', as, e1, (k.old _ _ e3 e2).2, (k.old _ _ e3 e2).1, e4⟩
 | scr ns =>
  obtain ⟨a', e1, e2⟩ := r;refine ⟨a', e1, e2.keep fun o u h => ?_⟩
  rw [upd_ne]
  ·exact h
  ·intro e; subst e; rw [ha] at h; cases h
 | tc xs => obtain ⟨a', vs, e1, e2, e3⟩ := r; exact ⟨a', vs, e1, SqT.kp k.tup e2, e3.kp k (fun _ _ h => h)⟩
theorem RepF.plusPut {a : Addr} {acc : List L2.V} {o : HO} (ha : H a = some (.lst acc)) : ∀ {fs : List (Str × Vl)} {vs : List (Str × L2.V)}, RepF K (gC B a) φ S H fs vs -> RepF K (gC B a) φ S (upd H a o) fs vs
 | [], vs, r => r
 | f :: fs, vs, ⟨v, ws, e, h1, h2⟩ => ⟨v, ws, e, h1.plusPut ha, RepF.plusPut ha h2⟩
theorem GInv.plusPut {a : Addr} {acc : List L2.V} {o : HO} (I : GInv K (gC B a) φ S H) (ha : H a = some (.lst acc)) : GInv K (gC B a) φ S (upd H a o) where
 len := I.len
 ok := fun n c b h1 h2 => by
  have q := I.ok n c b h1 h2;have k := Kp.plusPut (B := B) (φ := φ) (S := S) (o := o) ha;have hb : c ≠ .dead -> upd H a o b = H b := fun hc => upd_ne fun e => by
   subst e;exact I.blk b ⟨n, c, h1, hc, h2⟩ (.inr rfl)
  cases c with
  | dead => trivial
  | lst ds => obtain ⟨vs, e, r⟩ := q; exact ⟨vs, by rw [hb (by simp)]; exact e, RepL.kp k ds vs r⟩
  | ins C fs => obtain ⟨dx, vs, e, r⟩ := q; exact ⟨dx, vs, by rw [hb (by simp)]; exact e, r.plusPut ha⟩
  | dct fs => obtain ⟨vs, e, r⟩ := q; exact ⟨vs, by rw [hb (by simp)]; exact e, r.plusPut ha⟩
  | lv xs => obtain ⟨vs, e, r⟩ := q; exact ⟨vs, by rw [hb (by simp)]; exact e, dW (RepV.plusPut ha) r⟩
  | dki ks xs => obtain ⟨vs, e, r⟩ := q; exact ⟨vs, by rw [hb (by simp)]; exact e, dW (RepV.plusPut ha) r⟩
  | dkt ks xs => obtain ⟨vs, e, r⟩ := q; exact ⟨vs, by rw [hb (by simp)]; exact e, dW (RepV.plusPut ha) r⟩
 inj := I.inj
 blk := I.blk
 btr := fun b h => by
  by_cases e : b = a
  ·subst e; exact ⟨o, upd_same⟩
  ·obtain ⟨u, h1⟩ := I.btr b h
   exact ⟨u, by rw [upd_ne e]; exact h1⟩
theorem RepV.plus {a : Addr} {o : HO} (I : GInv K B φ S H) (ha : H a = none) {d : Vl} {v : L2.V} (r : RepV K B φ S H d v) : RepV K (gC B a) φ S (upd H a o) d v := by
 have k : Kp (kA B φ S) H (kA (gC B a) φ S) (upd H a o) := Ext.kpB (B1 := gC B a) (fun _ h => .inl h) (fun b hb h => by
  rcases h with h | h
  ·exact h
  ·exact absurd (by rw [h]; exact ha) hb) I (Ext.new I ha)
 cases d with
 | dat d => exact Rep.kp k d v r
 | cel n => exact r
 | cels ns => obtain ⟨a', as, e1, e2, e3, e4⟩ := r; exact ⟨a', as, e1, (k.old _ _ e3 e2).2, (k.old _ _ e3 e2).1, e4⟩
 | scr ns => obtain ⟨a', e1, e2⟩ := r; exact ⟨a', e1, e2.keep fun o u h => by rw [upd_ne (ne_of_none h ha)]; exact h⟩
 | tc xs => obtain ⟨a', vs, e1, e2, e3⟩ := r; exact ⟨a', vs, e1, SqT.kp k.tup e2, e3.kp k (fun _ _ h => h)⟩
theorem RepE.plus {a : Addr} {o : HO} {ρ : Ev} (I : GInv K B φ S H) (ha : H a = none) (E : RepE K B φ S H ρ σ) : RepE K (gC B a) φ S (upd H a o) ρ σ :=
 ⟨E.1, fun i d h => by
  obtain ⟨v, h1, h2⟩ := E.2 i d h;exact ⟨v, h1, h2.plus I ha⟩⟩
theorem RepE.plusPut {a : Addr} {acc : List L2.V} {o : HO} {ρ : Ev} (ha : H a = some (.lst acc)) (E : RepE K (gC B a) φ S H ρ σ) : RepE K (gC B a) φ S (upd H a o) ρ σ :=
 ⟨E.1, fun i d h => by
  obtain ⟨v, h1, h2⟩ := E.2 i d h;exact ⟨v, h1, h2.plusPut ha⟩⟩
theorem Fin.done {cl : Bool} {a : Addr} {ds : List PH.D} {vs : List L2.V} {H0 : Hp} {φ0 : List Addr} {S0 : aO} (f : Fin K W σ (RepV K) B φ0 S0 H0 (PH.newL cl ds S) Q) (I : GInv K (gC B a) φ S H) (X0 : Ext φ0 S0 H0 φ S H) (h0 : H0 a = none) (nB : ¬ B a) (ha : H a = some (.lst vs)) (l : RepL K (kA (gC B a) φ S) H ds vs) : Q (.ref a) H := by
 have na : ¬ nS φ S a := fun q => I.blk a q (.inr rfl)
 unfold PH.newL at f;cases cl with
 | false =>
  refine f φ _ H I.less X0 ⟨a, vs, rfl, fun q => ?_, ha, l.less⟩
  rcases q with q | q
  ·exact nB q
  ·exact na q
 | true =>
  have X1 : Ext φ0 S0 H0 (φ ++ [a]) (S ++ [.lst ds]) H := {
   old := fun b o h n => by
    obtain ⟨h1, h2⟩ := X0.old b o h n;refine ⟨h1, fun q => ?_⟩
    rcases (mL I.len).mp q with q | ⟨_, q⟩
    ·exact h2 q
    ·subst q; rw [h0] at h; cases h
   ids := fun n b h => by
    have := X0.ids n b h;rw [aJ (aH.mp this).1]; exact this }
  have hS : ∀ b, kA B (φ ++ [a]) (S ++ [.lst ds]) b -> kA (gC B a) φ S b := fun b q => by
   rcases q with q | q
   ·exact .inl (.inl q)
   ·rcases (mL I.len).mp q with q | ⟨_, q⟩
    ·exact .inr q
    ·exact .inl (.inr q)
  have k : Kp (kA (gC B a) φ S) H (kA B (φ ++ [a]) (S ++ [.lst ds])) H := ⟨fun b o h n => ⟨h, fun q => n (hS b q)⟩, fun _ _ h => h⟩
  have hφ : ∀ (n : Nat) (b : Addr), φ[n]? = some b -> (φ ++ [a])[n]? = some b := fun n b h => by rw [aJ (aH.mp h).1]; exact h
  have hV : ∀ {d : Vl} {v : L2.V}, RepV K (gC B a) φ S H d v -> RepV K B (φ ++ [a]) (S ++ [.lst ds]) H d v := fun {d v} r => by
   cases d with
   | dat d => exact Rep.kp k d v r
   | cel n => obtain ⟨b, e1, e2⟩ := r; exact ⟨b, e1, hφ _ _ e2⟩
   | cels ns => obtain ⟨a', as, e1, e2, e3, e4⟩ := r; exact ⟨a', as, e1, (k.old _ _ e3 e2).2, e3, Ac hφ ns as e4⟩
   | scr ns => exact r
   | tc xs => obtain ⟨a', vs, e1, e2, e3⟩ := r; exact ⟨a', vs, e1, SqT.kp k.tup e2, e3.kp k hφ⟩
  have hF : ∀ {fs : List (Str × Vl)} {vs : List (Str × L2.V)}, RepF K (gC B a) φ S H fs vs -> RepF K B (φ ++ [a]) (S ++ [.lst ds]) H fs vs := fun {fs} => by
   induction fs with
   | nil => intro vs r; exact r
   | cons f fs ih => rintro vs ⟨v, ws, e, h1, h2⟩; exact ⟨v, ws, e, hV h1, ih h2⟩
  refine f (φ ++ [a]) _ H ?_ X1 ⟨a, rfl, by rw [<- I.len]; exact pL⟩
  exact {
   len := by simp [I.len]
   ok := fun n c b h1 h2 => by
    by_cases hn : n < S.length
    ·rw [aJ hn] at h1
     rw [aJ (by rw [I.len]; exact hn)] at h2
     have q := I.ok n c b h1 h2;cases c with
     | dead => trivial
     | lst es => obtain ⟨us, e, r⟩ := q; exact ⟨us, e, RepL.kp k es us r⟩
     | ins C fs => obtain ⟨dx, us, e, r⟩ := q; exact ⟨dx, us, e, hF r⟩
     | dct fs => obtain ⟨us, e, r⟩ := q; exact ⟨us, e, hF r⟩
     | lv xs => obtain ⟨us, e, r⟩ := q; exact ⟨us, e, dW hV r⟩
     | dki ks xs => obtain ⟨us, e, r⟩ := q; exact ⟨us, e, dW hV r⟩
     | dkt ks xs => obtain ⟨us, e, r⟩ := q; exact ⟨us, e, dW hV r⟩
    ·have e : n = S.length := by
      have := (aH.mp h1).1;simp at this;omega
     subst e;rw [bC (cE _)] at h1;rw [<- I.len, bC (cE _)] at h2;simp at h1 h2;subst h1 h2;exact ⟨vs, ha, RepL.kp k ds vs l⟩
   inj := fun n m c c' b h1 h2 h3 h4 h5 h6 => by
    have key : ∀ (n : Nat) (c : Cell), (S ++ [.lst ds])[n]? = some c -> (n < S.length /\ S[n]? = some c) \/ n = S.length := fun n c h => by
     by_cases hn : n < S.length
     ·rw [aJ hn] at h; exact .inl ⟨hn, h⟩
     ·have := (aH.mp h).1
      simp at this;exact .inr (by omega)
    have kφ : ∀ n : Nat, n < S.length -> (φ ++ [a])[n]? = φ[n]? := fun n hn => aJ (by rw [I.len]; exact hn)
    have kp : (φ ++ [a])[S.length]? = some a := by rw [<- I.len]; simp
    rcases key n c h1 with ⟨hn, e1⟩ | e1 <;> rcases key m c' h3 with ⟨hm, e2⟩ | e2
    ·rw [kφ n hn] at h5
     rw [kφ m hm] at h6;exact I.inj n m c c' b e1 h2 e2 h4 h5 h6
    ·subst e2
     rw [kp] at h6;cases h6;rw [kφ n hn] at h5;exact absurd ⟨n, c, e1, h2, h5⟩ na
    ·subst e1
     rw [kp] at h5;cases h5;rw [kφ m hm] at h6;exact absurd ⟨m, c', e2, h4, h6⟩ na
    ·omega
   blk := fun b h => by
    rcases (mL I.len).mp h with h | ⟨_, h⟩
    ·exact fun q => I.blk b h (.inl q)
    ·subst h; exact nB
   btr := fun b h => I.btr b (.inl h) }
end
section
variable {X : Cx} {W : WX} {e a b c : Expr} {es rest : List Expr} {pos p q p2 : Pos} {x y z : Str} {K : aD} {ma mb mc : FE} {mt mu : FT} {mas : FA} {mi mj : FI} {B : Addr -> Prop} {φ φ' : List Addr} {S S' : aO} {H H' : Hp} {σ : L2.St} {Q : VK} {m n : FS} {st : Stmt} {iM : List Stmt} {D : Ends} {t t1 : Tg}
def gO : FT := fun _ S => .ok true S
theorem RU {Q : Bool -> Hp -> Prop} (h : yS K W gO σ H Q) : tYes σ H Q := by
 obtain ⟨B, φ, S, ρ, I, E, f⟩ := h;exact Fin.now (v := true) f I rfl
theorem Tw {es : List Expr} {t u : TT} (h : PTs X es t) (i : ∀ σ H Q, u σ H Q -> t σ H Q) : PTs X es u := ⟨fun pins s σ H Q I q => h.run pins s σ H Q I (i σ H Q q)⟩
theorem eO : PTs X [] (yS X.K W gO) := Tw pts_nil fun σ H Q h => RU h
theorem M4 {c : Expr} (h : PT X c (yS X.K W mt)) : PTs X [c] (yS X.K W mt) := pts_one h
def iJ (t : Tg) (mt : FT) (me : FE) (ρ : Ev) : List PH.D -> aO -> Res (List PH.D)
 | [], S => .ok [] S
 | d :: r, S => match pR t (.dat d) ρ with
  | none => .stuck
  | some ρ1 => match mt ρ1 S with
   | .ok b S1 => if b = true then (match me ρ1 S1 with
     | .ok (.dat e) S2 => (match iJ t mt me ρ r S2 with
      | .ok es S3 => .ok (e :: es) S3
      | _ => .stuck)
     | _ => .stuck) else iJ t mt me ρ r S1
   | _ => .stuck
def BX (cl : Bool) (mi : FI) (t : Tg) (mt : FT) (me : FE) (vs : List Nat) : FE := fun ρ S => (mi ρ S).bind fun ds S1 => if ds.length <= sizeLine then (match iJ t mt me (wipeE ρ vs) ds S1 with
 | .ok es S2 => newL cl es S2
 | _ => .stuck) else .stuck
theorem OS {cl : Bool} {me : FE} {vs : List Nat} (ht : ∀ i ∈ OG t, i ∈ vs) (h : dC K W (BX cl mi t mt me vs) σ H Q) : tLc (KA K W mi) (LL K t) (yS K wNo mt) (dC K wNo me) vs σ H Q := by
 refine cR (k := fun ds ρ S1 => if ds.length <= sizeLine then (match iJ t mt me (wipeE ρ vs) ds S1 with | .ok es S2 => newL cl es S2 | _ => .stuck) else .stuck) h fun B φ0 S0 ρ ds J H0 I0 E0 r f0 => ?_
 intro A hA;split at f0
 case isFalse => exact f0.elim
 rename_i hsz;cases q0 : iJ t mt me (wipeE ρ vs) ds S0 with
 | stuck => rw [q0] at f0; exact f0.elim
 | err e S' => rw [q0] at f0; exact f0.elim
 | ok es0 Sz =>
 rw [q0] at f0;have nB : ¬ B A := fun q => by obtain ⟨u, e⟩ := I0.btr A q; rw [hA] at e; cases e
 have IA : GInv K (gC B A) φ0 S0 (upd H0 A (.lst [])) := I0.plus hA;have b2 : ∀ a, H0 a ≠ none -> gC B A a -> B a := fun b hb h => by
  rcases h with h | h
  ·exact h
  ·exact absurd (by rw [h]; exact hA) hb
 -- what is known at a turn
 refine ⟨fun i k H' => i <= ds.length /\ k = ds.length - i /\ ∃ φ1 S1 us acc rest, GInv K (gC B A) φ1 S1 H' /\ Ext φ0 S0 H0 φ1 S1 H' /\ RepE K (gC B A) φ1 S1 H' (wipeE ρ vs) (wipe σ vs) /\ H' A = some (.lst us) /\ us.length <= i /\ RepL K (kA (gC B A) φ1 S1) H' acc us /\ iJ t mt me (wipeE ρ vs) (ds.drop i) S1 = .ok rest Sz /\ acc ++ rest = es0,
  ⟨_, gL _, rfl, φ0, S0, [], [], es0, IA, Ext.new I0 hA, (E0.wipes vs).plus I0 hA, upd_same, cE _, rfl, q0, rfl⟩, ?_⟩
 rintro i k H' ⟨hi, rfl, φ1, S1, us, acc, rs, I1, X1, E1, hA1, hul, l1, g1, ea⟩
 obtain ⟨hgo, hstop, hyld⟩ := r φ1 S1 H' (gC B A) I1 (X1.kpB (fun _ h => .inl h) b2 I0)
 by_cases hlt : i < ds.length
 ·refine .inr ⟨hgo i hlt, fun H2 => i + 1 <= ds.length /\ ∃ φ1 S1 us acc rest, GInv K (gC B A) φ1 S1 H2 /\ Ext φ0 S0 H0 φ1 S1 H2 /\ RepE K (gC B A) φ1 S1 H2 (wipeE ρ vs) (wipe σ vs) /\ H2 A = some (.lst us) /\ us.length <= i + 1 /\ RepL K (kA (gC B A) φ1 S1) H2 acc us /\ iJ t mt me (wipeE ρ vs) (ds.drop (i + 1)) S1 = .ok rest Sz /\ acc ++ rest = es0, fun H2 ⟨h1, h2⟩ => ⟨ds.length - (i + 1), by omega, h1, rfl, h2⟩, fun x H2 y => ?_⟩
  have hd : ds[i]? = some ds[i] := by simp [hlt]
  obtain ⟨I2, X2, r2⟩ := hyld i x H2 ds[i] hd y;rw [iB hlt] at g1;unfold iJ at g1;split at g1
  case h_1 => cases g1
  rename_i ρ2 q2;have hA2 := (X2.old A _ hA1 fun q => I1.blk A q (.inr rfl)).1
  refine Be (E1.ext X2 I1) (d := .dat ds[i]) r2 q2 fun ws E3 => ⟨by rw [yL ht, yK], gC B A, φ1, S1, ρ2, I2, E3, ?_⟩
  split at g1
  case h_2 => cases g1
  rename_i b S3 q3;rw [q3];intro φ3 b' H3 I3 X3 rb;have rb : b' = b := rb;subst rb;have hA3 := (X3.old A _ hA2 fun q => I2.blk A q (.inr rfl)).1
  have Xa := X1.trans (X2.trans X3);cases b' with
  | false =>
   exact ⟨hlt, φ3, S3, us, acc, rs, I3, Xa, (E1.ext X2 I1).ext X3 I2, hA3, Nat.le_succ_of_le hul, X3.repL I2 (X2.repL I1 l1), g1, ea⟩
  | true =>
   rw [if_pos rfl];rw [if_pos rfl] at g1;refine ⟨gC B A, φ3, S3, ρ2, I3, E3.ext X3 I2, ?_⟩
   split at g1
   case h_2 => cases g1
   rename_i e S4 q4;rw [q4];intro φ4 v4 H4 I4 X4 r4;have hA4 := (X4.old A _ hA3 fun q => I3.blk A q (.inr rfl)).1
   split at g1
   case h_2 => cases g1
   rename_i es S5 q5;cases g1;have l4 : RepL K (kA (gC B A) φ4 S4) H4 (acc ++ [e]) (us ++ [v4]) := (X4.repL I3 (X3.repL I2 (X2.repL I1 l1))).snoc r4;refine ⟨us, hA4, by omega, hlt, φ4, S4, us ++ [v4], acc ++ [e], es, I4.plusPut hA4, ?_, (((E1.ext X2 I1).ext X3 I2).ext X4 I3).plusPut hA4, upd_same, by simp; omega, RepL.kp (Kp.plusPut hA4) _ _ l4, q5, by rw [<- ea]; simp⟩
   exact ⟨fun b o h nb => by
    obtain ⟨h1, h2⟩ := (Xa.trans X4).old b o h nb;exact ⟨by rw [upd_ne (fun e => by subst e; rw [hA] at h; cases h)]; exact h1, h2⟩, (Xa.trans X4).ids⟩
 ·have e : i = ds.length := by omega
  subst e;rw [pX] at g1;cases g1;rw [cY] at ea;subst ea;exact .inl ⟨hstop, Fin.done f0 I1 X1 hA nB hA1 l1⟩
theorem wO {cl : Bool} {me : FE} {elt tg iter : Expr} {ifs : List Expr} {scope : Scope} {own : List (Str × Nat)} (hc : X.calm = true) (hN : X.N.Nodup) (hi : PI X tg iter (KA X.K W mi)) (ok : BlkOk X.N X.env.scope scope own)
  (hg : ∀ (s : Shared) (H : Hp) (C : Addr) (cl : List (Str × Addr)) (fp : List Addr), PG (X.blk s H scope (compEnvC scope cl C X.env) fp) tg (LL X.K t)) (ht : ∀ (s : Shared) (H : Hp) (C : Addr) (cl : List (Str × Addr)) (fp : List Addr), PTs (X.blk s H scope (compEnvC scope cl C X.env) fp) ifs (yS X.K wNo mt))
  (he : ∀ (s : Shared) (H : Hp) (C : Addr) (cl : List (Str × Addr)) (fp : List Addr), PE (X.blk s H scope (compEnvC scope cl C X.env) fp) elt (dC X.K wNo me)) (hs : ∀ x, foldedSetIterable iter X.env x = pure x := by intro _; rfl) (hv : ∀ i ∈ OG t, i ∈ own.map (·.2) := by decide) :
  PE X (.ListComp elt [⟨tg, iter, ifs, 0⟩] scope pos) (dC X.K W (BX cl mi t mt me (own.map (·.2)))) := dM (pe_lc hc hN hi ok hg ht he hs) fun σ H Q h => OS hv h
theorem Av {i : Nat} {y : Str} {py : Pos} {cl : Bool} {me : FE} {elt tg iter : Expr} {ifs : List Expr} {scope : Scope} {own : List (Str × Nat)} {spos : Pos} (hc : X.calm = true) (hN : X.N.Nodup) (hy : X.N[i]? = some y) (hyl : X.env.scope.names.lookup y = some .local)
  (hsw : swapsWith (.ListComp elt [⟨tg, iter, ifs, 0⟩] scope pos) (some (.Name y py)) spos.line X.env = pure true) (hi : PI X tg iter (KA X.K W mi)) (ok : BlkOk X.N X.env.scope scope own)
  (hg : ∀ (s : Shared) (H : Hp) (C : Addr) (cl : List (Str × Addr)) (fp : List Addr), PG (X.blk s H scope (compEnvC scope cl C X.env) fp) tg (LL X.K t)) (ht : ∀ (s : Shared) (H : Hp) (C : Addr) (cl : List (Str × Addr)) (fp : List Addr), PTs (X.blk s H scope (compEnvC scope cl C X.env) fp) ifs (yS X.K wNo mt))
  (he : ∀ (s : Shared) (H : Hp) (C : Addr) (cl : List (Str × Addr)) (fp : List Addr), PE (X.blk s H scope (compEnvC scope cl C X.env) fp) elt (dC X.K wNo me)) (hs : ∀ x, foldedSetIterable iter X.env x = pure x := by intro _; rfl) (hv : ∀ i ∈ OG t, i ∈ own.map (·.2) := by decide) :
  PS X (.Assign [.Name y py] (.ListComp elt [⟨tg, iter, ifs, 0⟩] scope pos) spos) (lG X.K W (cN (BX cl mi t mt me (own.map (·.2))) (.nm i))) := gH (ps_setLc hc hN hy hyl hsw hi ok hg ht he hs) fun D σ H h => by
 obtain ⟨B, φ, S, ρ, I, E, f⟩ := h;refine OS hv (cM I E f fun φ' S' d v H1 I1 X1 E1 r f1 => ?_)
 exact f1 φ' _ H1 I1 Ext.refl (E1.set r i)
end
section
variable {X : Cx} {W : WX} {e a b c o i : Expr} {es rest : List Expr} {pos p q p2 tpos apos cpos : Pos} {x y z : Str} {K : aD} {ma mb mc mo mx : FE} {mt mt1 mu : FT} {mas : FA} {mi mj : FI} {B : Addr -> Prop} {φ φ' : List Addr} {S S' : aO} {H H' : Hp} {σ : L2.St} {Q : VK} {m n : FS} {st : Stmt} {iM : List Stmt} {D : Ends} {t t1 : Tg}
def zJ (t : Tg) (mt : FT) (mj : FI) (t1 : Tg) (mt1 : FT) (me : FE) (vs1 : List Nat) (ρ : Ev) : List PH.D -> aO -> Res (List PH.D)
 | [], S => .ok [] S
 | d :: r, S => match pR t (.dat d) ρ with
  | none => .stuck
  | some ρ1 => match mt ρ1 S with
   | .ok b S1 => if b = true then (match mj ρ1 S1 with
     | .ok ds1 S2 => (match iJ t1 mt1 me (wipeE ρ1 vs1) ds1 S2 with
      | .ok xs S3 => (match zJ t mt mj t1 mt1 me vs1 ρ r S3 with
       | .ok ys S4 => .ok (xs ++ ys) S4
       | _ => .stuck)
      | _ => .stuck)
     | _ => .stuck) else zJ t mt mj t1 mt1 me vs1 ρ r S1
   | _ => .stuck
def P7 (cl : Bool) (mi : FI) (t : Tg) (mt : FT) (mj : FI) (t1 : Tg) (mt1 : FT) (me : FE) (vs vs1 : List Nat) : FE := fun ρ S => (mi ρ S).bind fun ds S1 => match zJ t mt mj t1 mt1 me vs1 (wipeE ρ vs) ds S1 with
 | .ok es S2 => if es.length <= sizeLine then newL cl es S2 else .stuck
 | _ => .stuck
theorem RY {cl : Bool} {me : FE} {vs vs1 : List Nat} (ht : ∀ i ∈ OG t, i ∈ vs) (ht1 : ∀ i ∈ OG t1, i ∈ vs1) (h : dC K W (P7 cl mi t mt mj t1 mt1 me vs vs1) σ H Q) : tLc2 (KA K W mi) (LL K t) (yS K wNo mt) (KA K wNo mj) (LL K t1) (yS K wNo mt1) (dC K wNo me) vs vs1 σ H Q := by
 refine cR (k := fun ds ρ S1 => match zJ t mt mj t1 mt1 me vs1 (wipeE ρ vs) ds S1 with | .ok es S2 => if es.length <= sizeLine then newL cl es S2 else .stuck | _ => .stuck) h fun B φ0 S0 ρ ds J H0 I0 E0 r f0 => ?_
 intro A hA;cases q0 : zJ t mt mj t1 mt1 me vs1 (wipeE ρ vs) ds S0 with
 | stuck => rw [q0] at f0; exact f0.elim
 | err e S' => rw [q0] at f0; exact f0.elim
 | ok es0 Sz =>
 rw [q0] at f0;dsimp only at f0;split at f0
 case isFalse => exact f0.elim
 rename_i hsz;have nB : ¬ B A := fun q => by obtain ⟨u, e⟩ := I0.btr A q; rw [hA] at e; cases e
 have IA : GInv K (gC B A) φ0 S0 (upd H0 A (.lst [])) := I0.plus hA;have b2 : ∀ a, H0 a ≠ none -> gC B A a -> B a := fun b hb h => by
  rcases h with h | h
  ·exact h
  ·exact absurd (by rw [h]; exact hA) hb
 refine ⟨fun i k H' => i <= ds.length /\ k = ds.length - i /\ ∃ φ1 S1 us acc rest, GInv K (gC B A) φ1 S1 H' /\ Ext φ0 S0 H0 φ1 S1 H' /\ RepE K (gC B A) φ1 S1 H' (wipeE ρ vs) (wipe σ vs) /\ H' A = some (.lst us) /\ RepL K (kA (gC B A) φ1 S1) H' acc us /\ zJ t mt mj t1 mt1 me vs1 (wipeE ρ vs) (ds.drop i) S1 = .ok rest Sz /\ acc ++ rest = es0,
  ⟨_, gL _, rfl, φ0, S0, [], [], es0, IA, Ext.new I0 hA, (E0.wipes vs).plus I0 hA, upd_same, rfl, q0, rfl⟩, ?_⟩
 rintro i k H' ⟨hi, rfl, φ1, S1, us, acc, rs, I1, X1, E1, hA1, l1, g1, ea⟩
 obtain ⟨hgo, hstop, hyld⟩ := r φ1 S1 H' (gC B A) I1 (X1.kpB (fun _ h => .inl h) b2 I0)
 by_cases hlt : i < ds.length
 ·refine .inr ⟨hgo i hlt, fun H2 => i + 1 <= ds.length /\ ∃ φ1 S1 us acc rest, GInv K (gC B A) φ1 S1 H2 /\ Ext φ0 S0 H0 φ1 S1 H2 /\ RepE K (gC B A) φ1 S1 H2 (wipeE ρ vs) (wipe σ vs) /\ H2 A = some (.lst us) /\ RepL K (kA (gC B A) φ1 S1) H2 acc us /\ zJ t mt mj t1 mt1 me vs1 (wipeE ρ vs) (ds.drop (i + 1)) S1 = .ok rest Sz /\ acc ++ rest = es0, fun H2 ⟨h1, h2⟩ => ⟨ds.length - (i + 1), by omega, h1, rfl, h2⟩, fun x H2 y => ?_⟩
  have hd : ds[i]? = some ds[i] := by simp [hlt]
  obtain ⟨I2, X2, r2⟩ := hyld i x H2 ds[i] hd y;rw [iB hlt] at g1;unfold zJ at g1;split at g1
  case h_1 => cases g1
  rename_i ρ2 q2;have hA2 := (X2.old A _ hA1 fun q => I1.blk A q (.inr rfl)).1
  refine Be (E1.ext X2 I1) (d := .dat ds[i]) r2 q2 fun ws E3 => ⟨by rw [yL ht, yK], gC B A, φ1, S1, ρ2, I2, E3, ?_⟩
  split at g1
  case h_2 => cases g1
  rename_i b S3 q3;rw [q3];intro φ3 b' H3 I3 X3 rb;have rb : b' = b := rb;subst rb;have hA3 := (X3.old A _ hA2 fun q => I2.blk A q (.inr rfl)).1
  have Xa := X1.trans (X2.trans X3);cases b' with
  | false =>
   exact ⟨hlt, φ3, S3, us, acc, rs, I3, Xa, (E1.ext X2 I1).ext X3 I2, hA3, X3.repL I2 (X2.repL I1 l1), g1, ea⟩
  | true =>
   rw [if_pos rfl];rw [if_pos rfl] at g1;refine ⟨gC B A, φ3, S3, ρ2, I3, E3.ext X3 I2, ?_⟩
   split at g1
   case h_2 => cases g1
   rename_i ds1 S4 q4;rw [q4];intro φ4 J1 H4 I4 X4 rJ;split at g1
   case h_2 => cases g1
   rename_i xs S5 q5;split at g1
   case h_2 => cases g1
   rename_i ys S6 q6;cases g1;have hA4 := (X4.old A _ hA3 fun q => I3.blk A q (.inr rfl)).1
   have Xb := Xa.trans X4;have Eo := (((E1.ext X2 I1).ext X3 I2).ext X4 I3);have Ei := ((E3.ext X3 I2).ext X4 I3);refine ⟨fun j k H' => j <= ds1.length /\ k = ds1.length - j /\ ∃ φ5 S5' us acc rest, GInv K (gC B A) φ5 S5' H' /\ Kp (kA (gC B A) φ4 S4) H4 (kA (gC B A) φ5 S5') H' /\ Ext φ0 S0 H0 φ5 S5' H' /\ RepE K (gC B A) φ5 S5' H' (wipeE ρ vs) (wipe σ vs) /\ RepE K (gC B A) φ5 S5' H' (wipeE ρ2 vs1) (wipe (ON t x ws (wipe σ vs)) vs1) /\ H' A = some (.lst us) /\ RepL K (kA (gC B A) φ5 S5') H' acc us /\ iJ t1 mt1 me (wipeE ρ2 vs1) (ds1.drop j) S5' = .ok rest S5 /\ acc ++ rest ++ ys = es0,
    ⟨_, gL _, rfl, φ4, S4, us, acc, xs, I4, Ext.refl.kp I4, Xb, Eo, Ei.wipes vs1, hA4, X4.repL I3 (X3.repL I2 (X2.repL I1 l1)), q5, by rw [<- ea]; simp⟩, ?_⟩
   rintro j k H5 ⟨hj, rfl, φ5, S5', us5, acc5, rs5, I5, X5, X5', E5, E5', hA5, l5, g5, ea5⟩
   obtain ⟨hgo1, hstop1, hyld1⟩ := rJ φ5 S5' H5 (gC B A) I5 X5
   by_cases hlt1 : j < ds1.length
   ·refine .inr ⟨hgo1 j hlt1, fun H6 => j + 1 <= ds1.length /\ ∃ φ5 S5' us acc rest, GInv K (gC B A) φ5 S5' H6 /\ Kp (kA (gC B A) φ4 S4) H4 (kA (gC B A) φ5 S5') H6 /\ Ext φ0 S0 H0 φ5 S5' H6 /\ RepE K (gC B A) φ5 S5' H6 (wipeE ρ vs) (wipe σ vs) /\ RepE K (gC B A) φ5 S5' H6 (wipeE ρ2 vs1) (wipe (ON t x ws (wipe σ vs)) vs1) /\ H6 A = some (.lst us) /\ RepL K (kA (gC B A) φ5 S5') H6 acc us /\ iJ t1 mt1 me (wipeE ρ2 vs1) (ds1.drop (j + 1)) S5' = .ok rest S5 /\ acc ++ rest ++ ys = es0, fun H6 ⟨h1, h2⟩ => ⟨ds1.length - (j + 1), by omega, h1, rfl, h2⟩, fun x1 H6 y1 => ?_⟩
    have hd1 : ds1[j]? = some ds1[j] := by simp [hlt1]
    obtain ⟨I6, X6, r6⟩ := hyld1 j x1 H6 ds1[j] hd1 y1;rw [iB hlt1] at g5;unfold iJ at g5;split at g5
    case h_1 => cases g5
    rename_i ρ7 q7;have hA6 := (X6.old A _ hA5 fun q => I5.blk A q (.inr rfl)).1
    refine Be (E5'.ext X6 I5) (d := .dat ds1[j]) r6 q7 fun ws1 E7 => ⟨by rw [yL ht1, yK], gC B A, φ5, S5', ρ7, I6, E7, ?_⟩
    split at g5
    case h_2 => cases g5
    rename_i b8 S8 q8;rw [q8];intro φ8 b8' H8 I8 X8 rb8;have rb8 : b8' = b8 := rb8;subst rb8;have hA8 := (X8.old A _ hA6 fun q => I6.blk A q (.inr rfl)).1
    have Xc := X6.trans X8;cases b8' with
    | false =>
     exact ⟨hlt1, φ8, S8, us5, acc5, rs5, I8, X5.trans (Xc.kp I5), X5'.trans Xc, (E5.ext X6 I5).ext X8 I6, (E5'.ext X6 I5).ext X8 I6, hA8, X8.repL I6 (X6.repL I5 l5), g5, ea5⟩
    | true =>
     rw [if_pos rfl];rw [if_pos rfl] at g5;refine ⟨gC B A, φ8, S8, ρ7, I8, E7.ext X8 I6, ?_⟩
     split at g5
     case h_2 => cases g5
     rename_i e9 S9 q9;rw [q9];intro φ9 v9 H9 I9 X9 r9;have hA9 := (X9.old A _ hA8 fun q => I8.blk A q (.inr rfl)).1
     split at g5
     case h_2 => cases g5
     rename_i es10 S10 q10;cases g5;have l9 : RepL K (kA (gC B A) φ9 S9) H9 (acc5 ++ [e9]) (us5 ++ [v9]) := (X9.repL I8 (X8.repL I6 (X6.repL I5 l5))).snoc r9;have hus : us5.length < sizeLine := by
      have := l5.len;have h2 := congrArg Ew ea5;simp at h2;omega
     have up : ∀ {φz Sz Hz}, Hz A = none -> Ext φz Sz Hz φ9 S9 H9 -> Ext φz Sz Hz φ9 S9 (upd H9 A (.lst (us5 ++ [v9]))) := fun {φz Sz Hz} hz Xz => ⟨fun b o h nb => by
      obtain ⟨h1, h2⟩ := Xz.old b o h nb;exact ⟨by rw [upd_ne (fun e => by subst e; rw [hz] at h; cases h)]; exact h1, h2⟩, Xz.ids⟩
     refine ⟨us5, hA9, hus, hlt1, φ9, S9, us5 ++ [v9], acc5 ++ [e9], es10, I9.plusPut hA9, (X5.trans ((Xc.trans X9).kp I5)).trans (Kp.plusPut hA9), up hA ((X5'.trans Xc).trans X9), (((E5.ext X6 I5).ext X8 I6).ext X9 I8).plusPut hA9, (((E5'.ext X6 I5).ext X8 I6).ext X9 I8).plusPut hA9, upd_same, RepL.kp (Kp.plusPut hA9) _ _ l9, q10, by rw [<- ea5]; simp⟩
   ·have e : j = ds1.length := by omega
    subst e;rw [pX] at g5;cases g5;rw [cY] at ea5;exact .inl ⟨hstop1, hlt, φ5, S5, us5, acc5, ys, I5, X5', E5, hA5, l5, q6, ea5⟩
 ·have e : i = ds.length := by omega
  subst e;rw [pX] at g1;cases g1;rw [cY] at ea;subst ea;exact .inl ⟨hstop, Fin.done f0 I1 X1 hA nB hA1 l1⟩
theorem f_lc2 {cl : Bool} {me : FE} {elt tg iter tg1 iter1 : Expr} {ifs ifs1 : List Expr} {scope : Scope} {own : List (Str × Nat)} {vs1 : List Nat} (hc : X.calm = true) (hN : X.N.Nodup) (hi : PI X tg iter (KA X.K W mi)) (ok : BlkOk X.N X.env.scope scope own) (hv : ∀ i ∈ vs1, i ∈ own.map (·.2))
  (hg : ∀ (s : Shared) (H : Hp) (C : Addr) (cl : List (Str × Addr)) (fp : List Addr), PG (X.blk s H scope (compEnvC scope cl C X.env) fp) tg (LL X.K t)) (ht : ∀ (s : Shared) (H : Hp) (C : Addr) (cl : List (Str × Addr)) (fp : List Addr), PTs (X.blk s H scope (compEnvC scope cl C X.env) fp) ifs (yS X.K wNo mt))
  (hi1 : ∀ (s : Shared) (H : Hp) (C : Addr) (cl : List (Str × Addr)) (fp : List Addr), PI (X.blk s H scope (compEnvC scope cl C X.env) fp) tg1 iter1 (KA X.K wNo mj))
  (hg1 : ∀ (s : Shared) (H : Hp) (C : Addr) (cl : List (Str × Addr)) (fp : List Addr), PG (X.blk s H scope (compEnvC scope cl C X.env) fp) tg1 (LL X.K t1)) (ht1 : ∀ (s : Shared) (H : Hp) (C : Addr) (cl : List (Str × Addr)) (fp : List Addr), PTs (X.blk s H scope (compEnvC scope cl C X.env) fp) ifs1 (yS X.K wNo mt1))
  (he : ∀ (s : Shared) (H : Hp) (C : Addr) (cl : List (Str × Addr)) (fp : List Addr), PE (X.blk s H scope (compEnvC scope cl C X.env) fp) elt (dC X.K wNo me)) (hs : ∀ x, foldedSetIterable iter X.env x = pure x := by intro _; rfl) (hs1 : ∀ env x, foldedSetIterable iter1 env x = pure x := by intro _ _; rfl)
  (hv0 : ∀ i ∈ OG t, i ∈ own.map (·.2) := by decide) (hv1 : ∀ i ∈ OG t1, i ∈ vs1 := by decide) :
  PE X (.ListComp elt [⟨tg, iter, ifs, 0⟩, ⟨tg1, iter1, ifs1, 0⟩] scope pos) (dC X.K W (P7 cl mi t mt mj t1 mt1 me (own.map (·.2)) vs1)) := dM (pe_lc2 hc hN hi ok hv hg ht hi1 hg1 ht1 he hs hs1) fun σ H Q h => RY hv0 hv1 h
def JQ (x y : Vl) (S : aO) : Res Vl := match x, y with
 | .cel n, .dat d => (match S[n]? with
  | some (.lst ds) => if ds.length < sizeLine then .ok (.dat .non) (S.set n (.lst (ds ++ [d]))) else .stuck
  | _ => .stuck)
 | _, _ => .stuck
theorem Ef {n : Nat} {ds ds' : List PH.D} {v v' : L2.V} {d' : Vl} {vs vs' : List L2.V} {a : Addr} (I : GInv K B φ S H) (hn : S[n]? = some (.lst ds)) (ha : φ[n]? = some a) (l : RepL K (kA B φ S) H ds' vs') (r : RepV K B φ S H d' v')
  (f : Fin K W σ (RepV K) B φ S H (.ok d' (S.set n (.lst ds'))) Q) : Q v' (upd H a (.lst vs')) := by
 have X1 := Ext.put (H := H) (o := .lst vs') (x := .lst ds') hn (by simp) ha (by simp)
 have I1 : GInv K B φ (S.set n (.lst ds')) (upd H a (.lst vs')) := I.put hn (by simp) ha (by simp) ⟨vs', upd_same, X1.repL I l⟩
 exact f φ v' _ I1 X1 (r.ext X1 I)
theorem VE : ∀ {x : L2.V} {y : L2.V} {d e : Vl}, GInv K B φ S H -> RepV K B φ S H d x -> RepV K B φ S H e y -> Fin K W σ (RepV K) B φ S H (JQ d e S) Q -> ML x [y] H Q := fun {x y d e} I r1 r2 f => by
 unfold JQ at f;split at f
 ·rename_i n d
  obtain ⟨a, rfl, h1⟩ := r1;split at f
  ·rename_i ds q
   obtain ⟨vs, h2, l⟩ := I.ok n _ a q h1;split at f
   ·rename_i hl
    exact ⟨vs, h2, by rw [l.len]; exact hl, Ef (v := .non) (v' := .non) (d' := .dat .non) (vs := vs) I q h1 (l.snoc r2) rfl f⟩
   ·exact f.elim
  ·exact f.elim
 ·exact f.elim
theorem Qs {d e : Vl} {v : L2.V} (I : GInv K B φ S H) (r : RepV K B φ S H d v) (h : ∃ ds, pD S d = some ds) : tyV K "list" v H := by
 obtain ⟨ds, q⟩ := h;obtain ⟨a, vs, rfl, h1, l⟩ := lO I q r;exact .inl ⟨rfl, vs, SqL.of h1⟩
def lA (a b : FE) : FE := fun ρ S => (a ρ S).bind fun x S1 => match pD S1 x with
 | some _ => (b ρ S1).bind fun y S2 => JQ x y S2
 | none => .stuck
theorem gF (ha : PE X a (dC X.K W ma)) (hb : PE X b (dC X.K W mb)) (hs : starEach [b] X.env = (false, eval b X.env) :: starEach [] X.env := by rfl) (hbase : attributeBase a "append" X.env (eval a X.env) = eval a X.env := by rfl) (hline : (apos.endLine == cpos.line) = true := by rfl)
  (hfew : ((backTo cpos (starEach [b] X.env)).all (fun x => !x.1) && (backToKw cpos (keywordEach [] X.env)).all (fun x => x.1.isSome)
   && decide ([b].length + ([] : List Keyword).length + (if ([] : List Keyword).isEmpty then 0 else 1) < 30)) = true := by rfl)
  (hpl : (backTo cpos (starEach ([] : List Expr) X.env)).any (·.1) = false := by rfl) : PE X (.Call (.Attribute a "append" apos) [b] [] cpos) (dC X.K W (lA ma mb)) :=
 dM (pe_bm PySem.F.plainAttrs_list PySem.F.slot_list_append PySem.F.type_list_append KH ha (pa_cons hb pa_nil hs) hbase hfew hline hs hpl) fun σ H Q h =>
  cR (k := fun x ρ S1 => match pD S1 x with | some _ => (mb ρ S1).bind fun y S2 => JQ x y S2 | none => .stuck) h fun B φ S ρ d v H1 I E r f => by
   split at f
   ·rename_i ds q
    exact ⟨Qs (e := d) I r ⟨ds, q⟩, jK I E f fun φ' S' d2 v2 H2 I2 X2 E2 r2 f2 => VE I2 (r.ext X2 I) r2 f2⟩
   ·exact f.elim
def sD (x : Vl) (S : aO) : Res Vl := match x with
 | .cel n => (match S[n]? with
  | some (.lst ds) => (match ds[ds.length - 1]? with
   | some d => .ok (.dat d) (S.set n (.lst ds.dropLast))
   | none => .stuck)
  | _ => .stuck)
 | _ => .stuck
theorem RepL.dropLast {Bk : Addr -> Prop} {ds : List PH.D} {vs : List L2.V} (h : RepL K Bk H ds vs) : RepL K Bk H ds.dropLast vs.dropLast := by
 rw [MQ, MQ, h.len];exact h.take _
theorem Az (ha : PE X a (dC X.K W ma)) (hbase : attributeBase a "pop" X.env (eval a X.env) = eval a X.env := by rfl) (hline : (apos.endLine == cpos.line) = true := by rfl) : PE X (.Call (.Attribute a "pop" apos) [] [] cpos) (dC X.K W (m1 sD ma)) :=
 dM (pe_bm0 PySem.F.plainAttrs_list PySem.F.slot_list_pop PySem.F.type_list_pop Rz ha hbase hline) fun σ H Q h =>
  cR (k := fun x ρ S1 => sD x S1) h fun B φ S ρ d v H1 I E r f => by
   unfold sD at f;split at f
   ·rename_i n
    obtain ⟨a, rfl, h1⟩ := r;split at f
    ·rename_i ds q
     obtain ⟨vs, h2, l⟩ := I.ok n _ a q h1;split at f
     ·rename_i d qd
      obtain ⟨v', h3, h4⟩ := l.get qd;exact ⟨.inl ⟨rfl, vs, SqL.of h2⟩, vs, v', h2, by rw [l.len]; exact h3, Ef (v := .non) (d' := .dat d) (vs := vs) I q h1 l.dropLast h4 f⟩
     ·exact f.elim
    ·exact f.elim
   ·exact f.elim
def setC (x : Vl) (k : Int) (d : PH.D) (S : aO) : Option aO := match x with
 | .cel n => (match S[n]? with
  | some (.lst ds) => if 0 <= k /\ k.toNat < ds.length then some (S.set n (.lst (ds.set k.toNat d))) else none
  | _ => none)
 | _ => none
theorem LW {x : Vl} {k : Int} {d : PH.D} {v u : L2.V} {Qh : Hp -> Prop} (I : GInv K B φ S H) (r : RepV K B φ S H x v) (rd' : Rep K (kA B φ S) H d u) (h : setC x k d S = some S') (q : ∀ H', GInv K B φ S' H' -> Ext φ S H φ S' H' -> Qh H') : MI v (.int k) u H Qh := by
 unfold setC at h;split at h
 ·rename_i n
  obtain ⟨a, rfl, h1⟩ := r;split at h
  ·rename_i ds q1
   split at h
   ·rename_i hk
    cases h;obtain ⟨vs, h2, l⟩ := I.ok n _ a q1 h1;have X1 := Ext.put (H := H) (o := .lst (vs.set k.toNat u)) (x := .lst (ds.set k.toNat d)) q1 (by simp) h1 (by simp)
    exact ⟨vs, h2, hk.1, by rw [l.len]; exact hk.2, q _ (I.put q1 (by simp) h1 (by simp) ⟨_, upd_same, X1.repL I (l.set rd' _)⟩) X1⟩
   ·cases h
  ·cases h
 ·cases h
def wG (a o i : FE) : FS := fun ρ S => (a ρ S).toS ρ fun v S1 => (o ρ S1).toS ρ fun x S2 => (i ρ S2).toS ρ fun k S3 => match v, k with
 | .dat d, .dat (.int k) => (match setC x k d S3 with
  | some S4 => .next ρ S4
  | none => .stuck)
 | _, _ => .stuck
theorem M5 (ha : PE X a (dC X.K W ma)) (ho : PE X o (dC X.K W mo)) (hi : PE X i (dC X.K W mx)) (hs : swapsWithSole [.Subscript o i tpos] a pos.line X.env = pure false := by rfl) (hw : swappedStores [.Subscript o i tpos] a X.env = pure none := by rfl)
  (h1 : (assignEach [.Subscript o i tpos] X.env).map (·.2) = [assign (.Subscript o i tpos) X.env] := by rfl)
  (hz : ∀ v, assign (.Subscript o i tpos) X.env v = (do
   let ov <- holding [v] (eval o X.env)
   let iv <- holding [v, ov] (eval i X.env)
   standAt tpos
   holding [v, ov, iv] (setItem ov iv v)
   release [v, ov, iv] []) := by intro _; rfl) : PS X (.Assign [.Subscript o i tpos] a pos) (lG X.K W (wG ma mo mx)) := gH (ps_asg ha (pg_sub ho hi FW hz) hs hw h1) fun D σ H h => by
 obtain ⟨B, φ, S, ρ, I, E, f⟩ := h;refine cM I E f fun φ1 S1 d1 v1 H1 I1 X1 E1 r1 f1 => cM I1 E1 f1 fun φ2 S2 d2 v2 H2 I2 X2 E2 r2 f2 => cM I2 E2 f2 fun φ3 S3 d3 v3 H3 I3 X3 E3 r3 f3 => ?_
 split at f3
 ·rename_i d k
  cases r3;split at f3
  ·rename_i S4 q
   exact LW I3 (r2.ext X3 I2) ((r1.ext X2 I1).ext X3 I2) q fun H' I' X' => f3 φ3 σ H' I' X' (E3.ext X' I3)
  ·exact f3.elim
 ·exact f3.elim
def Pr (x : Vl) (k : Int) (S : aO) : Option PH.D := match x with
 | .cel n => (match S[n]? with
  | some (.lst ds) => if 0 <= k then ds[k.toNat]? else none
  | _ => none)
 | _ => none
theorem SZ {x : Vl} {k : Int} {d : PH.D} {v : L2.V} {Q' : VK} (I : GInv K B φ S H) (r : RepV K B φ S H x v) (h : Pr x k S = some d) (q : ∀ u, Rep K (kA B φ S) H d u -> Q' u H) : MK v (.int k) H Q' := by
 unfold Pr at h;split at h
 ·rename_i n
  obtain ⟨a, rfl, h1⟩ := r;split at h
  ·rename_i ds q1
   split at h
   ·rename_i hk
    obtain ⟨vs, h2, l⟩ := I.ok n _ a q1 h1;obtain ⟨u, h3, h4⟩ := l.get h;exact ⟨vs, u, h2, hk, h3, q u h4⟩
   ·cases h
  ·cases h
 ·cases h
def sU (g : Int -> Int -> Int) (o i e : FE) : FS := fun ρ S => (o ρ S).toS ρ fun x S1 => (i ρ S1).toS ρ fun k S2 => match k with
 | .dat (.int k) => (match Pr x k S2 with
  | some (.int u) => (e ρ S2).toS ρ fun w S3 => (match w with
   | .dat (.int w) => (match setC x k (.int (g u w)) S3 with
    | some S4 => .next ρ S4
    | none => .stuck)
   | _ => .stuck)
  | _ => .stuck)
 | _ => .stuck
theorem ID {g : Int -> Int -> Int} {r : R2} {me : FE} (hr : ∀ i j H Q, Q (.int (g i j)) H -> r (.int i) (.int j) H Q) (h : lG K W (sU g mo mx me) D σ H) : tAugS (dC K W mo) (dC K W mx) (dC K W me) MK (cIp r) MI D σ H := by
 obtain ⟨B, φ, S, ρ, I, E, f⟩ := h;refine cM I E f fun φ1 S1 d1 v1 H1 I1 X1 E1 r1 f1 => cM I1 E1 f1 fun φ2 S2 d2 v2 H2 I2 X2 E2 r2 f2 => ?_
 split at f2
 ·rename_i k
  cases r2;split at f2
  ·rename_i u q
   refine SZ I2 (r1.ext X2 I1) q fun u' ru => ?_
   cases ru;refine cM I2 E2 f2 fun φ3 S3 d3 v3 H3 I3 X3 E3 r3 f3 => ?_
   split at f3
   ·rename_i w
    cases r3;split at f3
    ·rename_i S4 q4
     refine hr _ _ _ _ ?_
     exact LW I3 ((r1.ext X2 I1).ext X3 I2) (d := .int (g u w)) rfl q4 fun H' I' X' => f3 φ3 σ H' I' X' (E3.ext X' I3)
    ·exact f3.elim
   ·exact f3.elim
  ·exact f2.elim
 ·exact f2.elim
theorem ET {me : FE} (ho : PE X o (dC X.K W mo)) (hi : PE X i (dC X.K W mx)) (he : PE X e (dC X.K W me)) (ha : ∀ ov iv new, augStore i ov iv new = (do holding [new, ov, iv] (setItem ov iv new); release [new, ov, iv] []; pure .next) := by intros; rfl) : PS X (.AugAssign (.Subscript o i tpos) .Add e pos) (lG X.K W (sU (fun x y => x + y) mo mx me)) :=
 gH (Og ho hi he HG ha) fun D σ H h => ID (fun _ _ _ _ q => q) h
theorem ES {me : FE} (ho : PE X o (dC X.K W mo)) (hi : PE X i (dC X.K W mx)) (he : PE X e (dC X.K W me)) (ha : ∀ ov iv new, augStore i ov iv new = (do holding [new, ov, iv] (setItem ov iv new); release [new, ov, iv] []; pure .next) := by intros; rfl) : PS X (.AugAssign (.Subscript o i tpos) .Sub e pos) (lG X.K W (sU (fun x y => x - y) mo mx me)) :=
 gH (Og ho hi he SU ha) fun D σ H h => ID (fun _ _ _ _ q => q) h
def NJ (g : Int -> Int -> Int) (k : Nat) (e : FE) : FS := fun ρ S => match lk ρ k with
 | some (.dat (.int u)) => (e ρ S).toS ρ fun w S1 => (match w with
  | .dat (.int w) => .next (ρ.set k (some (.dat (.int (g u w))))) S1
  | _ => .stuck)
 | _ => .stuck
theorem Rb {g : Int -> Int -> Int} {k : Nat} {r : R2} {me : FE} (hr : ∀ i j H Q, Q (.int (g i j)) H -> r (.int i) (.int j) H Q) (h : lG K W (NJ g k me) D σ H) : tAug k (dC K W me) (cIp r) D σ H := by
 obtain ⟨B, φ, S, ρ, I, E, f⟩ := h;unfold NJ at f;split at f
 ·rename_i u q
  obtain ⟨v, h1, h2⟩ := E.2 k _ (PF q);cases h2;refine ⟨_, h1, cM I E f fun φ3 S3 d3 v3 H3 I3 X3 E3 r3 f3 => ?_⟩
  split at f3
  ·cases r3
   exact hr _ _ _ _ (f3 φ3 _ H3 I3 Ext.refl (E3.set (d := .dat (.int (g _ _))) (v := .int (g _ _)) rfl k))
  ·exact f3.elim
 ·exact f.elim
theorem G6 {k : Nat} {me : FE} {pos' : Pos} (hN : X.N.Nodup) (hi : X.N[k]? = some x) (hx : Loc X.env.scope x) (he : PE X e (dC X.K W me)) (hf : X.fn x = true \/ X.env.scope.names.lookup x = some .local := by first | exact .inl rfl | exact .inr rfl | assumption) : PS X (.AugAssign (.Name x pos') .Add e pos) (lG X.K W (NJ (fun x y => x + y) k me)) :=
 gH (ps_aug hN hi hx he HG hf) fun D σ H h => Rb (fun _ _ _ _ q => q) h
def mPar (i j : Nat) (a b : FE) : FS := fun ρ S => (a ρ S).toS ρ fun x S1 => (b ρ S1).toS ρ fun y S2 => .next ((ρ.set i (some x)).set j (some y)) S2
end
abbrev FD := List Vl -> aO -> Res Vl
def spF (K : aD) (m : FD) : Sp := fun vs H Q E => ∃ B φ S ds, GInv K B φ S H /\ RepVs K B φ S H ds vs /\ Fin K (fun c x _ H => E c x H) [] (RepV K) B φ S H (m ds S) Q
section
variable {X : Cx} {W : WX} {e a b c o i : Expr} {es rest : List Expr} {pos p q p2 tpos apos cpos : Pos} {x y z : Str} {K : aD} {ma mb mc mo mx : FE} {mt mt1 mu : FT} {mas : FA} {mi mj : FI} {B : Addr -> Prop} {φ φ' : List Addr} {S S' : aO} {H H' : Hp} {σ : L2.St} {Q : VK} {m n : FS} {st : Stmt} {iM : List Stmt} {D : Ends} {t t1 : Tg} {ps : List Str} {md : FD} {j k : Nat}
theorem Fin.toE {r : Res Vl} (f : Fin K W σ (RepV K) B φ S H r Q) : Fin K (fun c x _ H => WE W σ c x H) [] (RepV K) B φ S H r Q := by
 cases r with
 | ok d S' => exact f
 | err e S' => exact f
 | stuck => exact f
def bE (md : FD) (as : FA) : FE := fun ρ S => (as ρ S).bind md
theorem aZ (F : qR X.prog X.w X.K X.mg X.base j x ps (spF X.K md)) (hr : Room k X.A) (tk : Takes X W) (ha : PA X (e :: es) (F8 X.K W mas)) (hjk : j <= k := by decide) (hg : Gl X x := by rfl) (hdb : (x == ("__debug__" : Str)) = false := by decide)
  (he : starEach (e :: es) X.env = (false, eval e X.env) :: starEach es X.env := by rfl) (hpl : (backTo pos (starEach es X.env)).any (·.1) = false := by rfl) : PE X (.Call (.Name x p) (e :: es) [] pos) (dC X.K W (bE md mas)) := by
 obtain ⟨fd, F, hm, hk, hb⟩ := F;refine dM (pe_callS (E := WE W) F (hr.mono hjk) hg hm hk hb (fun σ => passAt tk σ) ha hdb he hpl) fun σ H Q h => ?_
 exact cR (k := fun ds _ S => md ds S) h fun B φ S ρ d v H1 I E r f => ⟨B, φ, S, d, I, r, f.toE⟩
theorem HU (F : qR X.prog X.w X.K X.mg X.base j x ps (spF X.K md)) (hr : Room k X.A) (tk : Takes X W) (hjk : j <= k := by decide) (hg : Gl X x := by rfl) (hdb : (x == ("__debug__" : Str)) = false := by decide) : PE X (.Call (.Name x p) [] [] pos) (dC X.K W (bE md aL)) := by
 obtain ⟨fd, F, hm, hk, hb⟩ := F;refine ⟨fun pins s σ H Q I h => ?_⟩
 refine wpAny_Call_Name_kw (ld_glob I hg hm ?_ hdb)
 refine zQ I.kIn hk (run_fnS (E := WE W) F (hr.mono hjk) hb (passAt tk σ) I .nil ?_)
 obtain ⟨B, φ, S, ρ, J, E, f⟩ := h;exact ⟨B, φ, S, [], J, rfl, Fin.toE f⟩
def itB (n : Nat) : PH.D ⊕ Nat -> Bool
 | .inl _ => true
 | .inr m => decide (m < n)
def Vl.below (n : Nat) : Vl -> Bool
 | .dat _ => true
 | .cel m => decide (m < n)
 | .cels ms => ms.all fun m => decide (m < n)
 | .scr _ => true
 | .tc xs => xs.all (itB n)
def Cell.below (n : Nat) : Cell -> Bool
 | .dead => true
 | .lst _ => true
 | .ins _ fs => fs.all fun f => f.2.below n
 | .dct fs => fs.all fun f => f.2.below n
 | .lv xs => xs.all fun x => x.below n
 | .dki _ xs => xs.all fun x => x.below n
 | .dkt _ xs => xs.all fun x => x.below n
def trunc (n : Nat) (r : Res Vl) : Res Vl := match r with
 | .ok d S => if d.below n && ((S.take n).all fun c => c.below n) then .ok d (S.take n) else .stuck
 | .err e S => if (S.take n).all fun c => c.below n then .err e (S.take n) else .stuck
 | .stuck => .stuck
def cC : Out -> Res Vl
 | .ret d S => .ok d S
 | .next _ S => .ok (.dat .non) S
 | .err e _ S => .err e S
 | _ => .stuck
def envOf (n : Nat) (ds : List Vl) : Ev := ds.map some ++ cD (n - ds.length) none
def run (n np : Nat) (mb : FS) : FD := fun ds S => if ds.length = np then cC (mb (envOf n ds) S) else .stuck
def AW (n np : Nat) (mb : FS) : FD := fun ds S => if ds.length = np then trunc S.length (cC (mb (envOf n ds) S)) else .stuck
theorem AG {α : Type} {n m : Nat} {l : List α} (h : m < n) : (l.take n)[m]? = l[m]? := by
 rw [fG, if_pos h]
theorem lZ {n : Nat} {a : Addr} (h : nS (φ.take n) (S.take n) a) : nS φ S a := by
 obtain ⟨m, c, h1, h2, h3⟩ := h;rw [fG] at h1 h3
 by_cases hm : m < n
 ·rw [if_pos hm] at h1 h3; exact ⟨m, c, h1, h2, h3⟩
 ·rw [if_neg hm] at h1; cases h1
theorem RepIs.takeN {n : Nat} {K : aD} {Bk Bk' : Addr -> Prop} {φ : List Addr} {H : Hp} (k : Kp Bk H Bk' H) : ∀ {xs : List (PH.D ⊕ Nat)} {vs : List L2.V}, RepIs K Bk φ H xs vs -> xs.all (itB n) = true -> RepIs K Bk' (φ.take n) H xs vs
 | [], vs, r, _ => r
 | x :: xs, vs, ⟨v, ws, e, h1, h2⟩, h => by
  rw [wA, jE] at h;refine ⟨v, ws, e, ?_, RepIs.takeN k h2 h.2⟩
  cases x with
  | inl d => exact Rep.kp k d v h1
  | inr m =>
   obtain ⟨b, q1, q2⟩ := h1;exact ⟨b, q1, by rw [AG (of_decide_eq_true h.1)]; exact q2⟩
theorem RepV.take {n : Nat} {d : Vl} {v : L2.V} (r : RepV K B φ S H d v) (h : d.below n = true) : RepV K B (φ.take n) (S.take n) H d v := by
 have k : Kp (kA B φ S) H (kA B (φ.take n) (S.take n)) H := ⟨fun b o h nb => ⟨h, fun q => nb (by
  rcases q with q | q
  ·exact .inl q
  ·exact .inr (lZ q))⟩, fun _ _ h => h⟩
 cases d with
 | dat d => exact Rep.kp k d v r
 | cel m =>
  obtain ⟨a, e, h1⟩ := r;exact ⟨a, e, by rw [AG (of_decide_eq_true h)]; exact h1⟩
 | cels ms =>
  obtain ⟨a, as, e1, e2, e3, e4⟩ := r;refine ⟨a, as, e1, (k.old _ _ e3 e2).2, e3, ?_⟩
  rw [<- e4]
  apply iQ
  intro m hm;exact AG (of_decide_eq_true (bV.mp h m hm))
 | scr ns => exact r
 | tc xs => obtain ⟨a, vs, e1, e2, e3⟩ := r; exact ⟨a, vs, e1, SqT.kp k.tup e2, RepIs.takeN k e3 h⟩
theorem RepF.take {n : Nat} : ∀ {fs : List (Str × Vl)} {vs : List (Str × L2.V)}, RepF K B φ S H fs vs -> (fs.all fun f => f.2.below n) = true -> RepF K B (φ.take n) (S.take n) H fs vs
 | [], vs, r, _ => r
 | f :: fs, vs, ⟨v, ws, e, h1, h2⟩, h => by
  simp only [wA, jE] at h;exact ⟨v, ws, e, h1.take h.1, RepF.take h2 h.2⟩
theorem RepVs.take {n : Nat} : ∀ {fs : List Vl} {vs : List L2.V}, RepVs K B φ S H fs vs -> (fs.all fun f => f.below n) = true -> RepVs K B (φ.take n) (S.take n) H fs vs
 | [], vs, r, _ => r
 | f :: fs, vs, ⟨v, ws, e, h1, h2⟩, h => by
  simp only [wA, jE] at h;exact ⟨v, ws, e, h1.take h.1, RepVs.take h2 h.2⟩
theorem GInv.take {n : Nat} (I : GInv K B φ S H) (h : ((S.take n).all fun c => c.below n) = true) : GInv K B (φ.take n) (S.take n) H where
 len := by rw [cX, cX, I.len]
 ok := fun m c a h1 h2 => by
  have hc := bV.mp h c (bS h1);rw [fG] at h1 h2
  by_cases hm : m < n
  ·rw [if_pos hm] at h1 h2
   have q := I.ok m c a h1 h2;have k : Kp (kA B φ S) H (kA B (φ.take n) (S.take n)) H := ⟨fun b o h nb => ⟨h, fun q => nb (by
    rcases q with q | q
    ·exact .inl q
    ·exact .inr (lZ q))⟩, fun _ _ h => h⟩
   cases c with
   | dead => trivial
   | lst ds => obtain ⟨vs, e, r⟩ := q; exact ⟨vs, e, RepL.kp k ds vs r⟩
   | ins C fs => obtain ⟨dx, vs, e, r⟩ := q; exact ⟨dx, vs, e, r.take hc⟩
   | dct fs => obtain ⟨vs, e, r⟩ := q; exact ⟨vs, e, r.take hc⟩
   | lv xs => obtain ⟨vs, e, r⟩ := q; exact ⟨vs, e, r.take hc⟩
   | dki ks xs => obtain ⟨vs, e, r⟩ := q; exact ⟨vs, e, r.take hc⟩
   | dkt ks xs => obtain ⟨vs, e, r⟩ := q; exact ⟨vs, e, r.take hc⟩
  ·rw [if_neg hm] at h1; cases h1
 inj := fun i j d d' b h1 h2 h3 h4 h5 h6 => by
  rw [fG] at h1 h3 h5 h6
  by_cases hi : i < n
  ·by_cases hj : j < n
   ·rw [if_pos hi] at h1 h5
    rw [if_pos hj] at h3 h6;exact I.inj i j d d' b h1 h2 h3 h4 h5 h6
   ·rw [if_neg hj] at h3; cases h3
  ·rw [if_neg hi] at h1; cases h1
 blk := fun b h => I.blk b (lZ h)
 btr := I.btr
theorem Ext.take {n : Nat} {φ0 : List Addr} {S0 : aO} {H0 : Hp} (x : Ext φ0 S0 H0 φ S H) (hn : φ0.length <= n) : Ext φ0 S0 H0 (φ.take n) (S.take n) H :=
 ⟨fun b o h nb => ⟨(x.old b o h nb).1, fun q => (x.old b o h nb).2 (lZ q)⟩, fun m a h => by
  have := (aH.mp h).1;rw [AG (by omega)]
  exact x.ids m a h⟩
theorem Fin.trunc {r : Res Vl} {n : Nat} (f : Fin K W σ (RepV K) B φ S H (PH.trunc n r) Q) (I : GInv K B φ S H) (hn : n = S.length) : Fin K W σ (RepV K) B φ S H r Q := by
 have hl : φ.length <= n := by rw [hn, I.len]; exact cE _
 cases r with
 | ok d S' =>
  unfold PH.trunc at f;dsimp only at f;split at f
  ·rename_i h
   obtain ⟨h1, h2⟩ := Bool.and_eq_true_iff.mp h;exact fun φ' v H' I' X' r' => f (φ'.take n) v H' (I'.take h2) (X'.take hl) (r'.take h1)
  ·exact f.elim
 | err e S' =>
  unfold PH.trunc at f;dsimp only at f;split at f
  ·rename_i h
   refine fun φ' c x H' I' X' r' => f (φ'.take n) c x H' (I'.take h) (X'.take hl) ⟨r'.1, ?_⟩
   rcases r'.2 with h0 | ⟨d, vs, e1, e2, e3⟩
   ·exact .inl h0
   ·refine .inr ⟨d, vs, e1, e2, RepL.kp ⟨fun b o h nb => ⟨h, fun q => nb (by
     rcases q with q | q
     ·exact .inl q
     ·exact .inr (lZ q))⟩, fun _ _ h => h⟩ _ _ e3⟩
  ·exact f.elim
 | stuck => exact f
theorem JW {ds : List Vl} {vs : List L2.V} {N : List Str} (r : RepVs K B φ S H ds vs) : RepE K B φ S H (envOf N.length ds) (start N vs) := by
 have hl := r.len;have hg : ∀ {ds : List Vl} {vs : List L2.V}, RepVs K B φ S H ds vs -> ∀ (i : Nat) (d : Vl), ds[i]? = some d -> ∃ v, vs[i]? = some v /\ RepV K B φ S H d v := fun {ds} => by
  induction ds with
  | nil => intro vs r i d h; simp at h
  | cons d ds ih =>
   rintro vs ⟨v, ws, e, h1, h2⟩ i d' h
   subst e;cases i with
   | zero => simp at h; subst h; exact ⟨v, rfl, h1⟩
   | succ i =>
    obtain ⟨v', h3, h4⟩ := ih h2 i d' (by simpa using h)
    exact ⟨v', by simpa using h3, h4⟩
 unfold envOf L2.start;refine ⟨by simp [hl], fun i d h => ?_⟩
 by_cases hi : i < ds.length
 ·rw [aJ (by simpa using hi)] at h
  rw [aJ (by simp [hl, hi])]
  rw [cL] at h ⊢;cases q : ds[i]? with
  | none => rw [q] at h; cases h
  | some d' =>
   rw [q] at h;have : d' = d := by simpa using h
   subst this;obtain ⟨v, h1, h2⟩ := hg r i d' q;exact ⟨v, by rw [h1]; rfl, h2⟩
 ·rw [bC (by simpa using wU hi)] at h
  rw [List.getElem?_replicate] at h
  split at h <;> cases h
theorem JM {mb : FS} {E : XK} {ds : List Vl} {vs : List L2.V} {N : List Str} (I : GInv K B φ S H) (r : RepVs K B φ S H ds vs) (f : Fin K (fun c x _ H => E c x H) [] (RepV K) B φ S H (cC (mb (envOf N.length ds) S)) Q) : lG K (fun c x _ H => E c x H) mb { nx := fun _ H' => Q .non H', rt := Q } (start N vs) H := by
 refine ⟨B, φ, S, envOf N.length ds, I, JW r, ?_⟩
 unfold cC at f;cases q : mb (envOf N.length ds) S with
 | next ρ' S' => rw [q] at f; exact fun φ' σ' H' I' X' _ => f φ' _ H' I' X' rfl
 | ret d S' => rw [q] at f; exact f
 | brk ρ' S' => rw [q] at f; exact f.elim
 | cnt ρ' S' => rw [q] at f; exact f.elim
 | err e ρ' S' => rw [q] at f; exact fun φ' σ' c x H' I' X' _ r' => f φ' c x H' I' X' r'
 | stuck => rw [q] at f; exact f
end
section
variable {P : Program} {w : World} {K : aD} {mg : Str -> Option Value} {base : Heap}
structure Runs (md : FD) (n np : Nat) (mb : FS) : Prop where
 ok : ∀ ds S, ds.length = np -> md ds S = cC (mb (envOf n ds) S) \/ md ds S = trunc S.length (cC (mb (envOf n ds) S))
 no : ∀ ds S, ds.length ≠ np -> md ds S = .stuck
theorem Runs.plain {n np : Nat} {mb : FS} : Runs (run n np mb) n np mb := ⟨fun ds S h => .inl (by unfold run; rw [if_pos h]), fun ds S h => by unfold run; rw [if_neg h]⟩
theorem Runs.cut {n np : Nat} {mb : FS} : Runs (AW n np mb) n np mb := ⟨fun ds S h => .inr (by unfold AW; rw [if_pos h]), fun ds S h => by unfold AW; rw [if_neg h]⟩
theorem AI {md : FD} {n np : Nat} {mb : FS} (R : Runs md n np mb) : ∀ vs H Q E, spF K md vs H Q E -> vs.length = np := fun vs H Q E ⟨B, φ, S, ds, I, r, f⟩ => by
 rw [r.len]
 by_cases h : ds.length = np
 ·exact h
 ·rw [R.no ds S h] at f; exact f.elim
theorem xA {md : FD} {np : Nat} {mb : FS} {N : List Str} (R : Runs md N.length np mb) {vs : List L2.V} {H : Hp} {Q : VK} {E : XK} (h : spF K md vs H Q E) : lG K (fun c x _ H => E c x H) mb { nx := fun _ H' => Q .non H', rt := Q } (start N vs) H := by
 obtain ⟨B, φ, S, ds, I, r, f⟩ := h
 by_cases hl : ds.length = np
 ·rcases R.ok ds S hl with e | e
  ·rw [e] at f; exact JM I r f
  ·rw [e] at f; exact JM I r (Fin.trunc f I rfl)
 ·rw [R.no ds S hl] at f; exact f.elim
theorem okF {x : Str} {st : Stmt} {N ps : List Str} {k : Nat} {md : FD} {mb : FS} (F : pQ K x st) (g : mg x = some (.ref (He.ga K x))) (S : FnScope N ps (defScope st)) (R : Runs md N.length ps.length mb)
  (bnd : ∀ (kV doc pm : Value) (an : Option Addr) (cdv ct : Value) (us : List Value), us.length = ps.length -> bindArgs (dH x x (defArgs st) (defBody st) (defScope st) .none kV doc pm an cdv ct) ⟨us, []⟩ = pure (ps.zip us))
  (hbody : ∀ (cdv : Value) (A : Around) (outer : List Env) (s : Shared) (H : Hp) (E : XK), Room k (A.deeper (envOfC x (defScope st) s.heap.objs.size (He.ga K x) cdv)) ->
   PSs (cxOf (L2.CX P w) P w K mg base N x (defScope st) (He.ga K x) cdv A outer s H E) (defBody st) (lG K (fun c x _ H => E c x H) mb)) : qR P w K mg base (k + 1) x ps (spF K md) :=
 Oy F g S (AI R) bnd fun cdv A outer s H vs Q E hr h => ⟨_, hbody cdv A outer s H E hr, xA R h⟩
theorem okFM {C m q : Str} {st : Stmt} {N ps : List Str} {k : Nat} {md : FD} {mb : FS} (F : Jz K C m q st) (g : Meth K (He.ga K C) m (He.ma K (He.ga K C) m)) (S : FnScope N ps (defScope st)) (R : Runs md N.length ps.length mb)
  (bnd : ∀ (kV doc pm : Value) (an : Option Addr) (cdv ct : Value) (us : List Value), us.length = ps.length -> bindArgs (dH m q (defArgs st) (defBody st) (defScope st) .none kV doc pm an cdv ct) ⟨us, []⟩ = pure (ps.zip us))
  (hbody : ∀ (cdv : Value) (A : Around) (outer : List Env) (s : Shared) (H : Hp) (E : XK), Room k (A.deeper (envOfC q (defScope st) s.heap.objs.size (He.ma K (He.ga K C) m) cdv)) ->
   PSs (cxOf (L2.CX P w) P w K mg base N q (defScope st) (He.ma K (He.ga K C) m) cdv A outer s H E) (defBody st) (lG K (fun c x _ H => E c x H) mb)) : OkMX P w K mg base (k + 1) C m ps (spF K md) :=
 Rv F g S (AI R) bnd fun cdv A outer s H vs Q E hr h => ⟨_, hbody cdv A outer s H E hr, xA R h⟩
end
section
variable {X : Cx} {W : WX} {e a b c o i : Expr} {es rest : List Expr} {pos p q p2 tpos apos cpos pos' : Pos} {x y z f C mn : Str} {K : aD} {ma mb mc mo mx : FE} {mt mt1 mu : FT} {mas : FA} {B : Addr -> Prop} {φ φ' : List Addr} {S S' : aO} {H H' : Hp} {σ : L2.St} {Q : VK} {m n : FS} {D : Ends} {ps : List Str} {md : FD} {j k : Nat}
def rR (S : aO) (C mn : Str) : Vl -> Bool
 | .cel n => match S[n]? with
  | some (.ins C' fs) => decide (C' = C) && fs.all fun f => decide (f.1 ≠ mn)
  | _ => false
 | .dat (.ins C' ns _) => decide (C' = C) && ns.all fun f => decide (f ≠ mn)
 | _ => false
theorem RepF.miss : ∀ {fs : List (Str × Vl)} {vs : List (Str × L2.V)}, RepF K B φ S H fs vs -> (fs.all fun f => decide (f.1 ≠ mn)) = true -> vs.lookup mn = none
 | [], vs, r, _ => by cases r; rfl
 | d :: ds, vs, ⟨v, ws, e, h1, h2⟩, h => by
  subst e;simp only [wA, jE, decide_eq_true_eq] at h;rw [fH, show (mn == d.1) = false by simpa using Ne.symm h.1]
  exact RepF.miss h2 h.2
theorem Hn : ∀ {ns : List Str} {vs : List L2.V}, (ns.all fun f => decide (f ≠ mn)) = true -> (ns.zip vs).lookup mn = none
 | [], vs, _ => by simp
 | d :: ds, [], _ => by simp
 | d :: ds, v :: vs, h => by
  simp only [wA, jE, decide_eq_true_eq] at h;rw [tZ, fH, show (mn == d) = false by simpa using Ne.symm h.1]
  exact Hn h.2
theorem Kc {d : Vl} {v : L2.V} (I : GInv K B φ S H) (r : RepV K B φ S H d v) (h : rR S C mn d = true) : ∃ a dx fs, v = .ref a /\ H a = some (.ins (He.ga K C) dx fs) /\ fs.lookup mn = none := by
 cases d with
 | cel n =>
  obtain ⟨a, rfl, h1⟩ := r;have h : (match S[n]? with | some (.ins C' fs) => decide (C' = C) && fs.all fun f => decide (f.1 ≠ mn) | _ => false) = true := h
  split at h
  ·rename_i C' fs q
   obtain ⟨h2, h3⟩ := He.ba h;have e : C' = C := of_decide_eq_true h2;subst e;obtain ⟨dx, vs, h4, h5⟩ := I.ok n _ a q h1;exact ⟨a, dx, vs, rfl, h4, h5.miss h3⟩
  ·cases h
 | dat d =>
  cases d with
  | ins C' ns xs =>
   obtain ⟨h2, h3⟩ := He.ba (show (decide (C' = C) && ns.all fun f => decide (f ≠ mn)) = true from h)
   have e : C' = C := of_decide_eq_true h2;subst e;obtain ⟨a, dx, vs, rfl, _, h4, _⟩ := r;exact ⟨a, dx, _, rfl, h4, Hn h3⟩
  | _ => cases h
 | cels ns => cases h
 | scr ns => cases h
 | tc _ => cases h
def rO (C mn : Str) (md : FD) (o : FE) (as : FA) : FE := fun ρ S => (o ρ S).bind fun x S1 => if rR S1 C mn x = true then (as ρ S1).bind fun ds S2 => md (x :: ds) S2 else .stuck
theorem CB {pl : Sem Bool} (F : OkMX X.prog X.w X.K X.mg X.base j C mn ps (spF X.K md)) (hr : Room k X.A) (tk : Takes X W) (c : Cls X.K (He.ga X.K C)) (ho : PE X o (dC X.K W mo)) (ha : PA X (e :: es) (F8 X.K W mas)) (hjk : j <= k := by decide)
  (hst : starEach (e :: es) X.env = (false, eval e X.env) :: starEach es X.env := by rfl) (hpl : (backTo pos (starEach es X.env)).any (·.1) = false := by rfl)
  (ht : eval (.Call (.Attribute o mn apos) (e :: es) [] pos) X.env = eval o X.env >>= fun ov => standAt apos.atName >>= fun _ => holding [ov] (getMethod ov mn pl) >>= fun q => callWith pos q.1 q.2 (backTo pos (starEach (e :: es) X.env)) (backToKw pos (keywordEach [] X.env)) := by rfl) :
  PE X (.Call (.Attribute o mn apos) (e :: es) [] pos) (dC X.K W (rO C mn md mo mas)) := by
 obtain ⟨⟨fd, F, hb⟩, mt⟩ := F;refine ⟨fun pins s σ H Q I h => ?_⟩
 have h' : dC X.K W mo σ H fun v H1 => ∃ a dx fs, v = .ref a /\ H1 a = some (.ins (He.ga X.K C) dx fs) /\ fs.lookup mn = none /\ F8 X.K W mas σ H1 fun vs H2 => spF X.K md (.ref a :: vs) H2 Q (WE W σ) :=
  cR (k := fun x ρ S1 => if rR S1 C mn x = true then (mas ρ S1).bind fun ds S2 => md (x :: ds) S2 else .stuck) h fun B φ S ρ d v H1 I E r f => by
   split at f
   ·rename_i hi
    obtain ⟨a, dx, fs, rfl, h1, h2⟩ := Kc I r hi;exact ⟨a, dx, fs, rfl, h1, h2, jK I E f fun φ' S' ds vs H2 I2 X2 E2 r2 f2 => ⟨B, φ', S', d :: ds, I2, ⟨_, _, rfl, r.ext X2 I, r2⟩, f2.toE⟩⟩
   ·exact f.elim
 refine Ju (pl := pl) (thn (ho.run pins s σ H _ I h') fun u s1 hh => ?_) ht
 obtain ⟨x, H1, I1, rx, a, dx, fs, rfl, ea, l, q⟩ := hh;obtain rfl : u = Value.ref a := rx;refine getmeth_ok I1 ea c mt l (AB (first := [.ref a]) (h₀ := X.base) I.ok.mod.kin mt.kp (thn (ha.run pos pins s1 σ H1 _ I1 q) fun us s2 hh => ?_) hst hpl)
 obtain ⟨vs, H2, I2, r, q2⟩ := hh;exact ⟨I2.kIn, run_fnS (us := .ref a :: us) (vs := .ref a :: vs) (E := WE W) F (hr.mono hjk) hb (passAt tk σ) I2 (.cons rfl r) q2⟩
theorem DA {pl : Sem Bool} (F : OkMX X.prog X.w X.K X.mg X.base j C mn ps (spF X.K md)) (hr : Room k X.A) (tk : Takes X W) (c : Cls X.K (He.ga X.K C)) (ho : PE X o (dC X.K W mo)) (hjk : j <= k := by decide)
  (ht : eval (.Call (.Attribute o mn apos) [] [] pos) X.env = eval o X.env >>= fun ov => standAt apos.atName >>= fun _ => holding [ov] (getMethod ov mn pl) >>= fun q => callWith pos q.1 q.2 (backTo pos (starEach [] X.env)) (backToKw pos (keywordEach [] X.env)) := by rfl) :
  PE X (.Call (.Attribute o mn apos) [] [] pos) (dC X.K W (rO C mn md mo aL)) := by
 obtain ⟨⟨fd, F, hb⟩, mt⟩ := F;refine ⟨fun pins s σ H Q I h => ?_⟩
 have h' : dC X.K W mo σ H fun v H1 => ∃ a dx fs, v = .ref a /\ H1 a = some (.ins (He.ga X.K C) dx fs) /\ fs.lookup mn = none /\ spF X.K md [.ref a] H1 Q (WE W σ) :=
  cR (k := fun x ρ S1 => if rR S1 C mn x = true then md [x] S1 else .stuck) h fun B φ S ρ d v H1 I E r f => by
   split at f
   ·rename_i hi
    obtain ⟨a, dx, fs, rfl, h1, h2⟩ := Kc I r hi;exact ⟨a, dx, fs, rfl, h1, h2, B, φ, S, [d], I, ⟨_, _, rfl, r, rfl⟩, f.toE⟩
   ·exact f.elim
 refine Ju (pl := pl) (thn (ho.run pins s σ H _ I h') fun u s1 hh => ?_) ht
 obtain ⟨x, H1, I1, rx, a, dx, fs, rfl, ea, l, q⟩ := hh;obtain rfl : u = Value.ref a := rx;exact getmeth_ok I1 ea c mt l (zQ (first := [.ref a]) I1.kIn mt.kp (run_fnS (us := [.ref a]) (vs := [.ref a]) (E := WE W) F (hr.mono hjk) hb (passAt tk σ) I1 (.cons rfl .nil) q))
def CW (S : aO) (C f : Str) : Vl -> Option Vl
 | .cel n => match S[n]? with
  | some (.ins C' fs) => if C' = C then fs.lookup f else none
  | _ => none
 | .dat (.ins C' ns xs) => if C' = C then ((ns.zip xs).lookup f).map Vl.dat else none
 | _ => none
theorem RepF.look {d : Vl} : ∀ {fs : List (Str × Vl)} {vs : List (Str × L2.V)}, RepF K B φ S H fs vs -> fs.lookup f = some d -> ∃ v, vs.lookup f = some v /\ RepV K B φ S H d v
 | [], vs, r, h => by cases h
 | g :: fs, vs, ⟨v, ws, e, h1, h2⟩, h => by
  subst e;obtain ⟨g1, g2⟩ := g;rw [fH] at h ⊢;cases q : f == g1 with
  | true => rw [q] at h; cases h; exact ⟨v, rfl, h1⟩
  | false => rw [q] at h; exact RepF.look h2 h
theorem DJ {Bk : Addr -> Prop} {d : PH.D} : ∀ {ns : List Str} {ds : List PH.D} {vs : List L2.V}, RepL K Bk H ds vs -> (ns.zip ds).lookup f = some d -> ∃ v, (ns.zip vs).lookup f = some v /\ Rep K Bk H d v
 | [], ds, vs, r, h => by simp at h
 | n :: ns, [], vs, r, h => by simp at h
 | n :: ns, d' :: ds, vs, ⟨v, ws, e, h1, h2⟩, h => by
  subst e;rw [tZ, fH] at h ⊢;cases q : f == n with
  | true => rw [q] at h; cases h; exact ⟨v, rfl, h1⟩
  | false => rw [q] at h; exact DJ h2 h
def gZ (C f : Str) (o : FE) : FE := fun ρ S => (o ρ S).bind fun x S1 => match CW S1 C f x with
 | some d => .ok d S1
 | none => .stuck
theorem JL {x d : Vl} {v : L2.V} (I : GInv K B φ S H) (r : RepV K B φ S H x v) (h : CW S C f x = some d) : ∃ a dx fs u, v = .ref a /\ H a = some (.ins (He.ga K C) dx fs) /\ fs.lookup f = some u /\ RepV K B φ S H d u := by
 cases x with
 | cel n =>
  obtain ⟨a, rfl, h1⟩ := r
  replace h : (match S[n]? with | some (.ins C' fs) => if C' = C then fs.lookup f else none | _ => none) = some d := h
  split at h
  ·rename_i C' fs q
   split at h
   ·rename_i e
    subst e;obtain ⟨dx, vs, h4, h5⟩ := I.ok n _ a q h1;obtain ⟨u, h6, h7⟩ := h5.look h;exact ⟨a, dx, vs, u, rfl, h4, h6, h7⟩
   ·cases h
  ·cases h
 | dat d' =>
  cases d' with
  | ins C' ns xs =>
   replace h : (if C' = C then ((ns.zip xs).lookup f).map Vl.dat else none) = some d := h
   split at h
   ·rename_i e
    subst e;obtain ⟨a, dx, vs, rfl, _, h4, l⟩ := r;cases q : (ns.zip xs).lookup f with
    | none => rw [q] at h; cases h
    | some d0 =>
     rw [q] at h;cases h;obtain ⟨u, h6, h7⟩ := DJ l q;exact ⟨a, dx, _, u, rfl, h4, h6, h7⟩
   ·cases h
  | _ => cases h
 | cels ns => cases h
 | scr ns => cases h
 | tc _ => cases h
theorem eV (c : Cls X.K (He.ga X.K C)) (n : NoAttr X.K (He.ga X.K C) f) (ho : PE X o (dC X.K W mo)) (hb : attributeBase o f X.env (eval o X.env) = eval o X.env := by rfl) : PE X (.Attribute o f pos) (dC X.K W (gZ C f mo)) := dM (e_fld c n ho hb) fun σ H Q h =>
 cR (k := fun x _ S1 => match CW S1 C f x with | some d => .ok d S1 | none => .stuck) h fun B φ S ρ d v H1 I E r f' => by
  split at f'
  ·rename_i d' q
   obtain ⟨a, dx, fs, u, rfl, h1, h2, h3⟩ := JL I r q;exact ⟨dx, fs, u, h1, h2, Fin.now f' I h3⟩
  ·exact f'.elim
def pE (f : Str) (v : Vl) : List (Str × Vl) -> List (Str × Vl)
 | [] => [(f, v)]
 | (g, x) :: r => if g = f then (g, v) :: r else (g, x) :: pE f v r
theorem RepF.put {d : Vl} {v : L2.V} (r : RepV K B φ S H d v) : ∀ {fs : List (Str × Vl)} {vs : List (Str × L2.V)}, RepF K B φ S H fs vs -> RepF K B φ S H (pE f d fs) (putF f v vs)
 | [], vs, h => by cases h; exact ⟨v, [], rfl, r, rfl⟩
 | (g, x) :: fs, vs, ⟨u, ws, e, h1, h2⟩ => by
  subst e;unfold pE putF;split
  ·exact ⟨v, ws, rfl, r, h2⟩
  ·exact ⟨u, _, rfl, h1, RepF.put r h2⟩
theorem RepF.len : ∀ {fs : List (Str × Vl)} {vs : List (Str × L2.V)}, RepF K B φ S H fs vs -> vs.length = fs.length
 | [], vs, h => by cases h; rfl
 | d :: ds, vs, ⟨v, ws, e, _, h2⟩ => by subst e; simp [RepF.len h2]
def K5 (S : aO) (C f : Str) (x d : Vl) : Option aO := match x with
 | .cel n => (match S[n]? with
  | some (.ins C' fs) => if C' = C /\ fs.length < 1000 then some (S.set n (.ins C (pE f d fs))) else none
  | _ => none)
 | _ => none
def xS (C f : Str) (o v : FE) : FS := fun ρ S => (v ρ S).toS ρ fun d S1 => (o ρ S1).toS ρ fun x S2 => match K5 S2 C f x d with
 | some S3 => .next ρ S3
 | none => .stuck
theorem qM {value : Expr} {mv : FE} (c : Cls X.K (He.ga X.K C)) (na : NoAttr X.K (He.ga X.K C) f) (ho : PE X o (dC X.K W mo)) (hv : PE X value (dC X.K W mv)) (hs : swapsWith value (some (.Attribute o f pos')) pos.line X.env = pure false := by rfl) : PS X (.Assign [.Attribute o f pos'] value pos) (lG X.K W (xS C f mo mv)) := gH (Ux c na ho hv hs) fun D σ H h => by
 obtain ⟨B, φ, S, ρ, I, E, f'⟩ := h;refine cM I E f' fun φ1 S1 d1 v1 H1 I1 X1 E1 r1 f1 => cM I1 E1 f1 fun φ2 S2 d2 v2 H2 I2 X2 E2 r2 f2 => ?_
 split at f2
 ·rename_i S3 q
  unfold K5 at q;split at q
  ·rename_i n
   obtain ⟨a, rfl, h1⟩ := r2;split at q
   ·rename_i C' fs q1
    split at q
    ·rename_i hc
     obtain ⟨e, hl⟩ := hc;subst e;cases q;obtain ⟨dx, vs, h4, h5⟩ := I2.ok n _ a q1 h1;have X3 := Ext.put (H := H2) (o := .ins (He.ga X.K C') dx (putF f v1 vs)) (x := .ins C' (pE f d1 fs)) q1 (by simp) h1 (by simp)
     have r1' := r1.ext X2 I1;refine ⟨dx, vs, h4, by rw [h5.len]; exact hl, f2 φ2 σ _ (I2.put q1 (by simp) h1 (by simp) ⟨dx, _, upd_same, (h5.put r1').ext X3 I2⟩) X3 (E2.ext X3 I2)⟩
    ·cases q
   ·cases q
  ·cases q
 ·exact f2.elim
end
section
variable {X : Cx} {W : WX} {e a b c o i : Expr} {es rest : List Expr} {pos p q p2 tpos apos cpos pos' : Pos} {x y z f mn : Str} {K : aD} {ma mb mc mo mx : FE} {mas : FA} {B : Addr -> Prop} {φ φ' : List Addr} {S S' : aO} {H H' : Hp} {σ : L2.St} {Q : VK} {m n : FS} {D : Ends} {ps : List Str} {md : FD} {j k : Nat}
theorem N2 {C fA : Addr} {fd : FuncData} {sp : Sp} {CX : CXT} {E : L2.St -> XK} {pins : List (Addr × Obj)} {s : Shared} {us : List Value} {vs : List L2.V} (M : Mk X.K C fA) (F : FnOk X.prog X.w X.K X.mg X.base CX k fA fd ps sp) (hr : Room (k + 1) X.A) (hb : Binds X.K fd ps [])
  (hx : PassesAt CX X σ (E σ)) (I : Inv X pins σ H s) (r : Vals vs us)
  (h : ∀ x dx, H x = none -> H dx = none -> dx ≠ x -> sp (.ref x :: vs) (upd (upd H dx (.own x)) x (.ins C dx [])) (fun v H2 => v = .non /\ Q (.ref x) H2) (E σ)) :
  wpAny (model X.prog X.w) X.A (call (.ref C) us) (EP X pins σ Q) X.xe s := by
 have hq := h (s.heap.objs.size + 1) s.heap.objs.size (I.hok.fresh (Nat.le_succ _)) (I.hok.fresh (cE _)) (MR (Ex _));have I2 := Inv.made (C := C) I;have r2 : Vals (V.ref (s.heap.objs.size + 1) :: vs) (Value.ref (s.heap.objs.size + 1) :: us) := .cons rfl r;have hl : (Value.ref (s.heap.objs.size + 1) :: us ++ []).length = ps.length := by
  have e := r2.length;rw [F.len _ _ _ _ hq] at e;rw [cY];exact e.symm
 have b := hb _ (Value.ref (s.heap.objs.size + 1) :: us) I2.kIn hl;rw [cY] at b;refine wpAny_call (make_map (f := fA) I.kIn M.makes M.init (beq_iff_eq.mp M.fn) (codeAny_mono (F.run _ X.stack _ _ ⟨Value.ref (s.heap.objs.size + 1) :: us, []⟩ (Value.ref (s.heap.objs.size + 1) :: us) _ _ (E σ) (hr.make C us [])
  (I2.env0.make C us []) b r2 hq) fun r s' hq' => ?_))
 cases r with
 | error e => exact hx pins _ _ e s' I2 hq'
 | ok fl =>
  cases fl with
  | ret u =>
   obtain ⟨v, H', I3, rv, ev, q3⟩ := I2.after hq';subst ev;exact ⟨rv, ⟨V.ref (s.heap.objs.size + 1), H', I3, rfl, q3⟩⟩
  | next => exact False.elim hq'
  | brk => exact False.elim hq'
  | cont => exact False.elim hq'
def GW : List (Str × Vl) -> Option (List PH.D)
 | [] => some []
 | (_, .dat d) :: r => match GW r with
  | some ds => some (d :: ds)
  | none => none
 | _ :: _ => none
theorem Jm : ∀ {fs : List (Str × Vl)} {vs : List (Str × L2.V)} {ds : List PH.D}, GW fs = some ds -> RepF K B φ S H fs vs -> ∃ ws, vs = (fs.map (·.1)).zip ws /\ RepL K (kA B φ S) H ds ws
 | [], vs, ds, h, r => by cases h; cases r; exact ⟨[], rfl, rfl⟩
 | (g, .dat d) :: fs, vs, ds, h, ⟨v, ws, e, h1, h2⟩ => by
  unfold GW at h;cases q : GW fs with
  | none => rw [q] at h; cases h
  | some es =>
   rw [q] at h;cases h;obtain ⟨us, e2, l⟩ := Jm q h2;subst e e2;exact ⟨v :: us, rfl, v, us, rfl, h1, l⟩
 | (_, .cel _) :: fs, vs, ds, h, _ => by cases h
 | (_, .cels _) :: fs, vs, ds, h, _ => by cases h
 | (_, .scr _) :: fs, vs, ds, h, _ => by cases h
 | (_, .tc _) :: fs, vs, ds, h, _ => by cases h
def made (kp : Bool) (n : Nat) (r : Res Vl) : Res Vl := match r with
 | .ok (.dat .non) S => if kp then .ok (.cel n) S else (match S[n]? with
  | some (.ins C fs) => (match GW fs with
   | some ds => if ((S.take n).all fun c => c.below n) then .ok (.dat (.ins C (fs.map (·.1)) ds)) (S.take n) else .stuck
   | none => .stuck)
  | _ => .stuck)
 | .err e S => if ((S.take n).all fun c => c.below n) then .err e (S.take n) else .stuck
 | _ => .stuck
def Lg (kp : Bool) (C : Str) (md : FD) (as : FA) : FE := fun ρ S => (as ρ S).bind fun ds S1 => made kp S1.length (md (.cel S1.length :: ds) (S1 ++ [.ins C []]))
theorem Jo {n : Nat} {c : Cell} {a : Addr} (I : GInv K B φ S H) (hn : S[n]? = some c) (hc : c ≠ .dead) (ha : φ[n]? = some a) : ¬ kA B (φ.take n) (S.take n) a := fun q => by
 rcases q with q | ⟨m, c', h1, h2, h3⟩
 ·exact I.blk a ⟨n, c, hn, hc, ha⟩ q
 ·rw [fG] at h1 h3
  by_cases hm : m < n
  ·rw [if_pos hm] at h1 h3
   have := I.inj n m c c' a hn hc h1 h2 ha h3;omega
  ·rw [if_neg hm] at h1; cases h1
theorem QR {kp : Bool} {C : Str} {ds : List Vl} {vs : List L2.V} (I : GInv K B φ S H) (r : RepVs K B φ S H ds vs) (f : Fin K W σ (RepV K) B φ S H (made kp S.length (md (.cel S.length :: ds) (S ++ [.ins C []]))) Q) :
  ∀ x dx, H x = none -> H dx = none -> dx ≠ x -> spF K md (.ref x :: vs) (upd (upd H dx (.own x)) x (.ins (He.ga K C) dx [])) (fun v H2 => v = .non /\ Q (.ref x) H2) (WE W σ) := fun x dx nx ndx ne => by
 have I1 := I.new (o := .own x) ndx;have X1 := Ext.new (o := .own x) I ndx;have nx1 : upd H dx (.own x) x = none := by rw [upd_ne (Ne.symm ne)]; exact nx
 have X2 := Ext.newC (o := .ins (He.ga K C) dx []) (x := .ins C []) I1 nx1;have I2 : GInv K B (φ ++ [x]) (S ++ [.ins C []]) (upd (upd H dx (.own x)) x (.ins (He.ga K C) dx [])) := I1.newC nx1 fun _ => ⟨dx, [], upd_same, rfl⟩
 have X12 := X1.trans X2;refine ⟨B, φ ++ [x], S ++ [.ins C []], .cel S.length :: ds, I2, ⟨_, _, rfl, ⟨x, rfl, by rw [<- I.len]; exact pL⟩, RepVs.ext X2 I1 (RepVs.ext X1 I r)⟩, ?_⟩
 have hφ : φ.length <= S.length := by rw [I.len]; exact cE _
 cases q : md (.cel S.length :: ds) (S ++ [.ins C []]) with
 | stuck => rw [q] at f; exact f
 | err e S' =>
  rw [q] at f;unfold made at f;dsimp only at f;split at f
  ·rename_i h
   intro φ' c y H' I' X' r';refine f (φ'.take S.length) c y H' (I'.take h) ((X12.trans X').take hφ) ⟨r'.1, ?_⟩
   rcases r'.2 with h0 | ⟨d, us, e1, e2, e3⟩
   ·exact .inl h0
   ·refine .inr ⟨d, us, e1, e2, RepL.kp ⟨fun b o h nb => ⟨h, fun q => nb (by
     rcases q with q | q
     ·exact .inl q
     ·exact .inr (lZ q))⟩, fun _ _ h => h⟩ _ _ e3⟩
  ·exact f.elim
 | ok d S' =>
  rw [q] at f;intro φ' v H' I' X' r';unfold made at f;split at f
  ·rename_i S0 e
   cases e;cases r';refine ⟨rfl, ?_⟩
   have hx' : φ'[S.length]? = some x := X'.ids _ _ (by rw [<- I.len]; exact pL)
   split at f
   ·exact f φ' _ H' I' (X12.trans X') ⟨x, rfl, hx'⟩
   ·split at f
    ·rename_i C' fs q1
     split at f
     ·rename_i ds' q2
      split at f
      ·rename_i h
       obtain ⟨dx', vs', h4, h5⟩ := I'.ok _ _ _ q1 hx';obtain ⟨ws, e2, l⟩ := Jm q2 h5;subst e2;refine f (φ'.take S.length) _ H' (I'.take h) ((X12.trans X').take hφ) ⟨x, dx', ws, rfl, Jo I' q1 (by simp) hx', h4, RepL.kp ⟨fun b o h nb => ⟨h, fun q => nb (by
        rcases q with q | q
        ·exact .inl q
        ·exact .inr (lZ q))⟩, fun _ _ h => h⟩ _ _ l⟩
      ·exact f.elim
     ·exact f.elim
    ·exact f.elim
  ·rename_i e; cases e
  ·exact f.elim
theorem QV {kp : Bool} {C : Str} (T : ClF X.K X.mg C) (F : OkMX X.prog X.w X.K X.mg X.base j C "__init__" ps (spF X.K md)) (hr : Room k X.A) (tk : Takes X W) (ha : PA X (e :: es) (F8 X.K W mas)) (hjk : j + 1 <= k := by decide) (hg : Gl X C := by rfl) (hdb : (C == ("__debug__" : Str)) = false := by decide)
  (he : starEach (e :: es) X.env = (false, eval e X.env) :: starEach es X.env := by rfl) (hpl : (backTo pos (starEach es X.env)).any (·.1) = false := by rfl) : PE X (.Call (.Name C p) (e :: es) [] pos) (dC X.K W (Lg kp C md mas)) := by
 obtain ⟨⟨fd, F, hb⟩, mt⟩ := F;refine ⟨fun pins s σ H Q I h => ?_⟩
 refine wpAny_Call_Name_kw (ld_glob I hg T.glo ?_ hdb)
 have h' : F8 X.K W mas σ H fun vs H1 => ∀ x dx, H1 x = none -> H1 dx = none -> dx ≠ x -> spF X.K md (.ref x :: vs) (upd (upd H1 dx (.own x)) x (.ins (He.ga X.K C) dx [])) (fun v H2 => v = .non /\ Q (.ref x) H2) (WE W σ) :=
  cR (k := fun ds _ S1 => made kp S1.length (md (.cel S1.length :: ds) (S1 ++ [.ins C []]))) h fun B φ S ρ d v H1 I E r f => QR I r f
 refine AB (h₀ := X.base) I.ok.mod.kin T.mak.kp (thn (ha.run pos pins s σ H _ I h') fun us s1 ⟨vs, H1, I1, r, q⟩ => ⟨I1.kIn, ?_⟩) he hpl
 exact N2 (E := WE W) T.mak F (hr.mono hjk) hb (passAt tk σ) I1 r q
def Bw (cls : Str) : FS := fun ρ S => .err ⟨cls, [], []⟩ ρ S
theorem Ax (F : XcF X.K X.mg x) (tk : Takes X W) (hc : X.calm = true := by rfl) (hg : Gl X x := by rfl) (hdb : (x == ("__debug__" : Str)) = false := by decide) : PS X (.Raise (some (.Call (.Name x p) [] [] pos)) none pos') (lG X.K W (Bw x)) := gH (Rp F tk hc hg hdb) fun D σ H h => by
 obtain ⟨B, φ, S, ρ, I, E, f⟩ := h;exact f φ σ _ _ H I Ext.refl E ⟨rfl, .inl ⟨rfl, rfl⟩⟩
end
def Uu (C : Addr) (f : Str) : Sp := fun vs H Q _ => ∃ a y, vs = [.ref a, y] /\ H a = some (exo a C none) /\ ∀ dx, H dx = none -> dx ≠ a -> Q .non (upd (upd H dx (exd dx [(f, y)])) a (exo a C (some dx)))
def Ut (C : Addr) (f g : Str) : Sp := fun vs H Q _ => ∃ a y z, vs = [.ref a, y, z] /\ H a = some (exo a C none) /\ ∀ dx, H dx = none -> dx ≠ a -> Q .non (upd (upd (upd H dx (exd dx [(f, y)])) a (exo a C (some dx))) dx (exd dx [(g, z), (f, y)]))
structure XcA (P : Program) (w : World) (K : aD) (mg : Str -> Option Value) (base : Heap) (k : Nat) (x : Str) (ps : List Str) (sp : Sp) : Prop where
 cls : OexC K (He.ga K x)
 ini : iO K (.ref (He.ga K x)) "__init__" = some (some (.ref (He.ma K (He.ga K x) "__init__")))
 ty : nU K (.ref (He.ma K (He.ga K x) "__init__")) = some (.type "function")
 fn : ∃ fd, FnOk P w K mg base CX0 k (He.ma K (He.ga K x) "__init__") fd ps sp /\ Binds K fd ps []
 glo : mg x = some (.ref (He.ga K x))
section
variable {X : Cx} {W : WX} {e : Expr} {es : List Expr} {pos p pos' : Pos} {x f g : Str} {K : aD} {mas : FA} {B : Addr -> Prop} {φ φ' : List Addr} {S S' : aO} {H H' : Hp} {σ : L2.St} {ps : List Str} {j k : Nat}
def mY (cls : Str) (ns : List Str) (as : FA) : FS := fun ρ S => (as ρ S).toS ρ fun xs S1 => match A7 xs with
 | some ds => if ds.length = ns.length then .err ⟨cls, ns, ds.reverse⟩ ρ S1 else .stuck
 | none => .stuck
theorem uH (F : XcA X.prog X.w X.K X.mg X.base j x ps (Uu (He.ga X.K x) f)) (hr : Room k X.A) (tk : Takes X W) (ha : PA X (e :: es) (F8 X.K W mas)) (hjk : j + 1 <= k := by decide) (hc : X.calm = true := by rfl) (hg : Gl X x := by rfl) (hdb : (x == ("__debug__" : Str)) = false := by decide)
  (he : starEach (e :: es) X.env = (false, eval e X.env) :: starEach es X.env := by rfl) (hpl : (backTo pos (starEach es X.env)).any (·.1) = false := by rfl) : PS X (.Raise (some (.Call (.Name x p) (e :: es) [] pos)) none pos') (lG X.K W (mY x [f] mas)) := by
 obtain ⟨fd, F1, hb⟩ := F.fn;refine gH (ps_raise hc tk (pmk_oex F.cls F.ini F.ty F1 (hr.mono hjk) hb .nil (fun _ _ _ _ _ _ _ h => h.elim) hg F.glo ha hdb he hpl)) fun D σ H h => ?_
 obtain ⟨B, φ, S, ρ, I, E, f'⟩ := h;refine cM I E f' fun φ1 S1 ds vs H1 I1 X1 E1 r f1 => ?_
 split at f1
 ·rename_i xs q
  have l := BP q r;split at f1
  ·rename_i hl
   match xs, hl with
   | [d], _ =>
    obtain ⟨v, ws, rfl, h1, h2⟩ := l;cases h2;refine ⟨by simp, fun a na => ⟨a, v, rfl, upd_same, fun dx ndx ne => ⟨rfl, dx, [(f, v)], upd_same, ?_, ?_, ?_⟩⟩⟩
    ·rw [upd_ne ne, upd_same]
    ·rw [upd_ne ne] at ndx; exact ndx
    ·have n1 : H1 dx = none := by rw [upd_ne ne] at ndx; exact ndx
     have eH : (upd (del (upd (upd (upd H1 a (exo a (He.ga X.K x) none)) dx (exd dx [(f, v)])) a (exo a (He.ga X.K x) (some dx))) a) dx (.xd [(f, v)])) = upd H1 dx (.xd [(f, v)]) := by
      funext b
      unfold upd del
      by_cases hb : b = dx
      ·rw [if_pos hb, if_pos hb]
      ·rw [if_neg hb, if_neg hb]
       by_cases hba : b = a
       ·rw [if_pos hba, hba]; exact na.symm
       ·rw [if_neg hba]; simp only [if_neg hba, if_neg hb]
     rw [eH];have X2 := Ext.new (o := .xd [(f, v)]) I1 n1;exact f1 φ1 σ _ _ _ (I1.new n1) X2 (E1.ext X2 I1) ⟨rfl, .inr ⟨dx, [v], rfl, upd_same, v, [], rfl, Rep.kp (X2.kp I1) _ _ h1, rfl⟩⟩
  ·exact f1.elim
 ·exact f1.elim
theorem C9 (F : XcA X.prog X.w X.K X.mg X.base j x ps (Ut (He.ga X.K x) f g)) (hr : Room k X.A) (tk : Takes X W) (ha : PA X (e :: es) (F8 X.K W mas)) (hjk : j + 1 <= k := by decide) (hc : X.calm = true := by rfl) (hg : Gl X x := by rfl) (hdb : (x == ("__debug__" : Str)) = false := by decide)
  (he : starEach (e :: es) X.env = (false, eval e X.env) :: starEach es X.env := by rfl) (hpl : (backTo pos (starEach es X.env)).any (·.1) = false := by rfl) : PS X (.Raise (some (.Call (.Name x p) (e :: es) [] pos)) none pos') (lG X.K W (mY x [g, f] mas)) := by
 obtain ⟨fd, F1, hb⟩ := F.fn;refine gH (ps_raise hc tk (pmk_oex F.cls F.ini F.ty F1 (hr.mono hjk) hb .nil (fun _ _ _ _ _ _ _ h => h.elim) hg F.glo ha hdb he hpl)) fun D σ H h => ?_
 obtain ⟨B, φ, S, ρ, I, E, f'⟩ := h;refine cM I E f' fun φ1 S1 ds vs H1 I1 X1 E1 r f1 => ?_
 split at f1
 ·rename_i xs q
  have l := BP q r;split at f1
  ·rename_i hl
   match xs, hl with
   | [d, d2], _ =>
    obtain ⟨v, ws, rfl, h1, u, ws', rfl, h2, h3⟩ := l;cases h3;refine ⟨by simp, fun a na => ⟨a, v, u, rfl, upd_same, fun dx ndx ne => ⟨rfl, dx, [(g, u), (f, v)], ?_, upd_same, ?_, ?_⟩⟩⟩
    ·rw [upd_ne (Ne.symm ne), upd_same]
    ·rw [upd_ne ne] at ndx; exact ndx
    ·have n1 : H1 dx = none := by rw [upd_ne ne] at ndx; exact ndx
     have eH : (upd (del (upd (upd (upd (upd H1 a (exo a (He.ga X.K x) none)) dx (exd dx [(f, v)])) a (exo a (He.ga X.K x) (some dx))) dx (exd dx [(g, u), (f, v)])) a) dx (.xd [(g, u), (f, v)])) = upd H1 dx (.xd [(g, u), (f, v)]) := by
      funext b
      unfold upd del
      by_cases hb : b = dx
      ·rw [if_pos hb, if_pos hb]
      ·rw [if_neg hb, if_neg hb]
       by_cases hba : b = a
       ·rw [if_pos hba, hba]; exact na.symm
       ·rw [if_neg hba]; simp only [if_neg hba, if_neg hb]
     rw [eH];have X2 := Ext.new (o := .xd [(g, u), (f, v)]) I1 n1;exact f1 φ1 σ _ _ _ (I1.new n1) X2 (E1.ext X2 I1) ⟨rfl, .inr ⟨dx, [u, v], rfl, upd_same, u, [v], rfl, Rep.kp (X2.kp I1) _ _ h2, v, [], rfl, Rep.kp (X2.kp I1) _ _ h1, rfl⟩⟩
  ·exact f1.elim
 ·exact f1.elim
end
def XMs (K : aD) (cs : List Str) : Prop := ∀ c ∈ cs, ∀ d ∈ cs, Eu K (.ref (He.ga K c)) (.ref (He.ga K d)) = some (decide (c = d))
theorem Uk {K : aD} {cs : List Str} (h : xmB K cs = true) : XMs K cs := fun c hc d hd => of_decide_eq_true (bV.mp (bV.mp h c hc) d hd)
section
variable {X : Cx} {W : WX} {e a b c o i : Expr} {es rest : List Expr} {pos p q p2 tpos apos cpos pos' np : Pos} {x y z f mn : Str} {K : aD} {ma mb mc mo mx : FE} {mas : FA} {B : Addr -> Prop} {φ φ' : List Addr} {S S' : aO} {H H' : Hp} {σ : L2.St} {Q : VK} {m n : FS} {D : Ends} {cs : List Str}
def handle (cs : List Str) : List (Str × FS) -> Er -> Ev -> aO -> Out
 | [], e, ρ, S => .err e ρ S
 | (c, m) :: r, e, ρ, S => if e.cls = c then (match m ρ S with
   | .err _ _ _ => .stuck
   | o => o) else handle cs r e ρ S
theorem FinS.wNo {o : Out} (f : FinS K W D B φ S H (match o with | .err _ _ _ => .stuck | o => o)) : FinS K PH.wNo D B φ S H o := by
 cases o with
 | err e ρ S' => exact f.elim
 | next ρ S' => exact f
 | ret d S' => exact f
 | brk ρ S' => exact f
 | cnt ρ S' => exact f
 | stuck => exact f
inductive XIt where
 | c (v : L2.V) (d : PH.D) | f (n : Str)
def itR (a : Addr) (cls : Value) (d : Option Addr) (C : Addr) (i : Nat) : List XIt -> TA
 | [] => tNil
 | .c v _ :: r => tCons (tC v) (itR a cls d C i r)
 | .f n :: r => tCons (tXf a cls d C n (uO i)) (itR a cls d C i r)
def itF (e : Er) : List XIt -> Option (List PH.D)
 | [] => some []
 | .c _ d :: r => match itF e r with
  | some ds => some (d :: ds)
  | none => none
 | .f n :: r => match (e.ns.zip e.xs).lookup n, itF e r with
  | some d, some ds => some (d :: ds)
  | _, _ => none
def UJ (cs : List Str) (m : FS) (c : Str) (k : Nat) (its : List XIt) : FS := fun ρ S => match m ρ S with
 | .err e ρ' S' => if (e.cls ∈ cs /\ c ∈ cs) /\ k < ρ'.length then (if e.cls = c then (match itF e its with
   | some ds => if ds.length <= sizeLine then .ret (.dat (.tup ds)) S' else .stuck
   | none => .stuck) else .err e ρ' S') else .stuck
 | o => o
theorem LQ : ∀ {σ : L2.St} {i : Nat} {v : L2.V}, σ[i]? = some (some v) -> sl σ i = some v
 | [], _, _, h => by simp at h
 | x :: _, 0, v, h => by simp at h; exact h
 | _ :: r, n + 1, v, h => LQ (σ := r) (i := n) (by simpa using h)
end
structure Lim (K : aD) : Prop where
 pos : ∀ z m lo hi, limits.lookup z = some (m, lo, hi) -> kY K (He.ga K "LIMITS") z = some (some (.ref (Iq K z))) /\ ∀ H, SqT K H (Iq K z) [.int (m : Nat), .int lo, .int hi]
 neg : ∀ z, limits.lookup z = none -> kY K (He.ga K "LIMITS") z = some none
section
variable {X : Cx} {W : WX} {e a b c o i : Expr} {es rest : List Expr} {pos p q p2 tpos apos cpos pos' np : Pos} {x y z f mn C : Str} {K : aD} {ma mb mc mo mx : FE} {mas : FA} {B : Addr -> Prop} {φ φ' : List Addr} {S S' : aO} {H H' : Hp} {σ : L2.St} {Q : VK} {m n : FS} {D : Ends} {ps : List Str} {md : FD} {j k : Nat}
def iA (neg : Bool) (x : Vl) (S : aO) : Res Vl := match x with
 | .dat (.str z) => .ok (.dat (.bl (if neg then (limits.lookup z).isNone else (limits.lookup z).isSome))) S
 | _ => .stuck
def CD (x : Vl) (S : aO) : Res Vl := match x with
 | .dat (.str z) => (match limits.lookup z with
  | some (m, lo, hi) => .ok (.dat (.tup [.int (m : Nat), .int lo, .int hi])) S
  | none => .stuck)
 | _ => .stuck
theorem Od (L : Lim K) {x : L2.V} {d : Vl} (I : GInv K B φ S H) (r : RepV K B φ S H d x) (f : Fin K W σ (RepV K) B φ S H (iA true d S) Q) : Ui K (He.ga K "LIMITS") true x (.ref (He.ga K "LIMITS")) H Q := by
 unfold iA at f;split at f
 ·rename_i z
  cases r;cases q : limits.lookup z with
  | none =>
   refine ⟨rfl, none, L.neg z q, ?_⟩
   rw [q] at f;exact Fin.now f I rfl
  | some t =>
   obtain ⟨m, lo, hi⟩ := t;refine ⟨rfl, _, (L.pos z m lo hi q).1, ?_⟩
   rw [q] at f;exact Fin.now f I rfl
 ·exact f.elim
theorem NZ {py : Pos} (L : Lim X.K) (D : ∃ es n, KDict X.K X.w (He.ga X.K "LIMITS") es n) (g : X.mg "LIMITS" = some (.ref (He.ga X.K "LIMITS"))) (ha : PE X a (dC X.K W ma)) (hg : Gl X "LIMITS" := by rfl) (hm : behindInMarks .NotIn (.Name "LIMITS" py) = false := by rfl) : PT X (.Compare a [.NotIn] [.Name "LIMITS" py] pos) (yS X.K W (mB (m1 (iA true) ma))) :=
 En (U5 (Gv D) ha (pe_glob (v := .ref (He.ga X.K "LIMITS")) hg g rfl) hm) fun σ H Q h => cR (k := fun x _ S => iA true x S) (OW h) fun B φ S ρ d v H1 I E r f => Od L I r f
theorem f_lim {py : Pos} (L : Lim X.K) (D : ∃ es n, KDict X.K X.w (He.ga X.K "LIMITS") es n) (g : X.mg "LIMITS" = some (.ref (He.ga X.K "LIMITS"))) (ha : PE X a (dC X.K W ma)) (hg : Gl X "LIMITS" := by rfl) (hs : PlainIx a := by intro _ _; rfl) : PE X (.Subscript (.Name "LIMITS" py) a pos) (dC X.K W (m1 CD ma)) :=
 dM (pe_ix (Va D) (pe_glob (v := .ref (He.ga X.K "LIMITS")) hg g rfl) ha hs) fun σ H Q h => cR (k := fun x _ S => CD x S) h fun B φ S ρ d v H1 I E r f => by
  unfold CD at f;split at f
  ·rename_i z
   cases r;split at f
   ·rename_i m lo hi q
    obtain ⟨h1, h2⟩ := L.pos z m lo hi q;exact ⟨rfl, _, .ref (Iq X.K z), h1, rfl, Fin.now f I ⟨_, _, rfl, h2 H1, _, _, rfl, rfl, _, _, rfl, rfl, _, _, rfl, rfl, rfl⟩⟩
   ·exact f.elim
  ·exact f.elim
theorem Nk {sp : Sp} (F : OkMX X.prog X.w X.K X.mg X.base j C "__len__" ps sp) (hr : Room (j + 1) X.A) : CallR X (.builtin "len") (c1 (rLenO (He.ga X.K C) sp E0)) := by
 intro pins s σ H xs us Q I r h;obtain ⟨⟨fd, F, hb⟩, mt⟩ := F
 match xs, h with
 | [x], h =>
  cases x with
  | ref a =>
   obtain ⟨dx, fs, ha, h⟩ := h;cases r with
   | cons r1 r2 =>
    cases r1;cases r2;obtain ⟨mA, J, _⟩ := ins_get I.hok ha;obtain ⟨od, J, _⟩ := J.look;obtain ⟨fm, hF⟩ := I.fr;refine PySem.W.len_K hF I.ok.mod.kin J mt.at_ mt.fn ?_
    have e := I.env0;have hl := F.len _ _ _ _ h;have b := hb s [.ref a] I.kIn (by simpa using hl)
    have run := F.run X.A.in1 X.stack s H ⟨[.ref a], []⟩ [.ref a] [.ref a] _ E0 hr.in1 ⟨e.frames, e.mod, e.bs, e.bsz, e.funs, e.frf, e.hok, e.bare⟩ (by simpa using b) (.cons rfl .nil) h
    refine wpAny_call (codeAny_mono run fun q s' hq => ?_)
    cases q with
    | error e => obtain ⟨_, _, _, _, _, _, _, _, _, _, _, _, z⟩ := hq; exact z.elim
    | ok fl =>
     cases fl with
     | ret w =>
      obtain ⟨z, H', I', rz, hz⟩ := I.after hq;cases z with
      | int n =>
       obtain ⟨tk, rfl⟩ := rz;exact ⟨⟨hz.1.1, by have := hz.1.2; omega⟩, .int n, H', I'.tok _, ⟨_, rfl⟩, hz.2⟩
      | _ => exact hz.elim
     | next => exact False.elim hq
     | brk => exact False.elim hq
     | cont => exact False.elim hq
  | _ => exact h.elim
def VQ (r : Res Vl) : Res Vl := match r with
 | .ok (.dat (.int n)) S => if 0 <= n /\ n < 2 ^ 62 then .ok (.dat (.int n)) S else .stuck
 | _ => .stuck
def G9 (C : Str) (md : FD) (x : Vl) (S : aO) : Res Vl := if rR S C "__len__" x = true then VQ (md [x] S) else .stuck
theorem WR (hm : X.mg "len" = none) (F : OkMX X.prog X.w X.K X.mg X.base j C "__len__" ps (spF X.K md)) (hr : Room k X.A) (ha : PE X a (dC X.K W ma)) (hjk : j + 1 <= k := by decide) (hg : Gl X "len" := by rfl) (hs : starEach [a] X.env = [(false, eval a X.env)] := by rfl) : PE X (.Call (.Name "len" p) [a] [] pos) (dC X.K W (m1 (G9 C md) ma)) :=
 dM (pe_callB (Nk F (hr.mono hjk)) hg hm boot_len (pa_cons ha pa_nil hs) (he := hs)) fun σ H Q h => cR (k := fun x _ S => G9 C md x S) h fun B φ S ρ d v H1 I E r f => by
  unfold G9 at f;split at f
  ·rename_i hi
   obtain ⟨a, dx, fs, rfl, h1, h2⟩ := Kc I r hi;refine ⟨dx, fs, h1, B, φ, S, [d], I, ⟨_, _, rfl, r, rfl⟩, ?_⟩
   unfold VQ at f;split at f
   ·rename_i n S' q
    rw [q];split at f
    ·rename_i hn
     intro φ' v H' I' X' r';cases r';exact ⟨hn, f φ' _ H' I' X' rfl⟩
    ·exact f.elim
   ·exact f.elim
  ·exact f.elim
def Qo (r : Res Vl) : Res Vl := match r with
 | .ok (.dat (.bl n)) S => .ok (.dat (.bl n)) S
 | _ => .stuck
theorem HR {n : Int} {x : Str} (h : ∃ t, X.mg x = some (.int n t)) (hg : Gl X x := by rfl) (hd : (x == ("__debug__" : Str)) = false := by decide) : PE X (.Name x pos) (dC X.K W (mC (.int n))) := QT (WV h hg hd) fun _ _ => rfl
end
section
variable {P : Program} {w : World} {K : aD} {mg : Str -> Option Value} {base : Heap}
def wY : FD := fun _ _ => .stuck
theorem vF {x : Str} {st : Stmt} {N ps : List Str} {k : Nat} (F : pQ K x st) (g : mg x = some (.ref (He.ga K x))) (S : FnScope N ps (defScope st))
  (bnd : ∀ (kV doc pm : Value) (an : Option Addr) (cdv ct : Value) (us : List Value), us.length = ps.length -> bindArgs (dH x x (defArgs st) (defBody st) (defScope st) .none kV doc pm an cdv ct) ⟨us, []⟩ = pure (ps.zip us)) : qR P w K mg base (k + 1) x ps (spF K wY) :=
 Oy F g S (fun vs H Q E ⟨_, _, _, _, _, _, f⟩ => f.elim) bnd fun cdv A outer s H vs Q E hr ⟨_, _, _, _, _, _, f⟩ => f.elim
end
theorem Ma {K : aD} {a : Addr} {vs : List V} (h : K2 K a vs = true) (H : Hp) : SqT K H a vs := by
 unfold K2 at h;cases q : K.lookup a with
 | none => rw [q] at h; cases h
 | some o =>
  obtain ⟨oc, od, dt, osl⟩ := o;rw [q] at h;cases oc with
  | type c =>
   cases dt with
   | seq its n =>
    obtain ⟨h1, h2⟩ := He.ba (show (decide (c = "tuple") && (decide (its.size <= sizeLine) && He.relAll vs its.toList)) = true from h)
    obtain ⟨h3, h4⟩ := He.ba h2;exact .inr ⟨_, its, n, q, congrArg Value.type (of_decide_eq_true h1), rfl, of_decide_eq_true h3, He.relAll_ok h4⟩
   | _ => cases h
  | _ => cases dt <;> cases h
theorem Nt {fa : List He.Fa} {fn : List He.DefD} {ts : List He.Tab} {w : World} {K : aD} (c : He.SaysT fa fn ts w K) (i : Nat) {t : He.Tab} (h : ts[i]? = some t := by rfl) : He.dicW K (t.1 K) = some (He.keysIn w.params t.2) := by
 have e : ts.map (fun t => He.dicW K (t.1 K)) = ts.map fun t => some (He.keysIn w.params t.2) := congrArg (fun z : He.AlT => z.2) c
 have e2 : (ts.map fun t => He.dicW K (t.1 K))[i]? = (ts.map fun t => some (He.keysIn w.params t.2))[i]? := by rw [e]
 rw [cL, cL, h] at e2;exact Option.some.inj e2
theorem Fz {P : Params} {z : Str} : ∀ {l : List DictEntry} {ks : List Str}, l.map He.keyOf = He.keysIn P ks -> z ∉ ks -> (l.find? (·.key.isStr z) = none) /\ l.any (·.refKey) = false
 | [], _, _, _ => ⟨rfl, rfl⟩
 | e :: r, [], h, _ => by cases h
 | e :: r, k :: ks, h, hz => by
  have h1 : He.keyOf e :: r.map He.keyOf = some (k, PyData.keyHash P k) :: He.keysIn P ks := h
  injection h1 with h2 h3
  obtain ⟨i1, i2⟩ := Fz h3 (fun m => hz (aM _ m))
  unfold He.keyOf at h2;split at h2
  ·rename_i x t q
   obtain ⟨h5, h6⟩ := Prod.mk.inj (Option.some.inj h2);have nz : e.key.isStr z = false := by
    rw [q]
    show decide (x = z) = false
    exact decide_eq_false fun e => hz (by rw [<- e, h5]; exact aV ..)
   constructor
   ·rw [List.find?_cons, nz]; exact i1
   ·rw [BY, i2, Jv]
    show e.refKey = false
    unfold DictEntry.refKey;rw [q]
  ·cases h2
theorem NC {K : aD} {P : Params} {a : Addr} {ks : List Str} {z : Str} (h : He.dicW K a = some (He.keysIn P ks)) (hz : z ∉ ks) : kY K a z = some none := by
 unfold He.dicW at h;cases q : K.lookup a with
 | none => rw [q] at h; cases h
 | some o =>
  obtain ⟨oc, od, dt, osl⟩ := o;rw [q] at h;cases oc with
  | type c =>
   cases od with
   | none =>
    cases dt with
    | dict es n =>
     have h1 : (match decide (c = "dict") && (osl.isEmpty && !(a == sysModules)) with
      | true => some (es.toList.map He.keyOf)
      | false => none) = some (He.keysIn P ks) := h
     cases y : decide (c = "dict") && (osl.isEmpty && !(a == sysModules)) with
     | false => rw [y] at h1; cases h1
     | true =>
      rw [y] at h1;obtain ⟨i1, i2⟩ := Fz (Option.some.inj h1) hz;unfold kY;rw [q]
      show (match es.toList.find? (·.key.isStr z) with | some e => some (some e.val) | none => if es.toList.any (·.refKey) then none else some none) = some none
      rw [i1, i2];rfl
    | _ => cases h
   | some b => cases dt <;> cases h
  | _ => cases od <;> cases dt <;> cases h
theorem CT {κ β : Type} [BEq κ] [LawfulBEq κ] {z : κ} {v : β} : ∀ {l : List (κ × β)}, l.lookup z = some v -> (z, v) ∈ l
 | [], h => by cases h
 | (k, u) :: r, h => by
  rw [fH] at h;cases e : z == k with
  | true =>
   rw [e] at h;have e2 : z = k := eq_of_beq e;have e3 : u = v := Option.some.inj h;rw [e2, e3];exact aV ..
  | false =>
   rw [e] at h;exact aM _ (CT h)
theorem lookup_none {κ β : Type} [BEq κ] [LawfulBEq κ] {z : κ} : ∀ {l : List (κ × β)}, l.lookup z = none -> z ∉ l.map (·.1)
 | [], _ => by simp
 | (k, u) :: r, h => by
  rw [fH] at h;cases e : z == k with
  | true => rw [e] at h; cases h
  | false =>
   rw [e] at h;have ne : z ≠ k := by simpa using e
   intro m;rcases aY.mp m with m | m
   ·exact ne m
   ·exact lookup_none h m
theorem VO {K : aD} {P : Params} (h : limB K = true) (d : He.dicW K (He.ga K "LIMITS") = some (He.keysIn P (limits.map (·.1)))) : Lim K where
 pos := fun z m lo hi e => by
  obtain ⟨h1, h2⟩ := He.ba (bV.mp h (z, m, lo, hi) (CT e));exact ⟨He.eqO_ok h1, Ma h2⟩
 neg := fun z e => NC d (lookup_none e)
theorem law_start {K : aD} {md : FD} {n : Nat} (h : ∀ ns : List Int, ns.length <= n -> ∃ S, md [.scr ns] [] = .ok (.dat (.bl true)) S) (H : Hp) (a : Addr) (ns : List Int) (hl : ns.length <= n) (hO : Only H) (hS : SqL K H a (ns.map V.int)) : spF K md [.ref a] H (fun v _ => v = .bl true) fun _ _ _ => False := by
 obtain ⟨S, e⟩ := h ns hl;refine ⟨fun _ => False, [], [], [.scr ns], ⟨rfl, fun n c a h => by simp at h, fun n m c c' a h => by simp at h, fun a ⟨n, c, h, _⟩ => by simp at h, fun a h => h.elim⟩, ⟨_, _, rfl, ⟨a, rfl, ?_⟩, rfl⟩, ?_⟩
 ·rcases hS with (h | ⟨o, h⟩) | h
  ·rcases hO a with q | ⟨o, xs, q⟩
   ·rw [h] at q; cases q
   ·rw [h] at q; cases q
  ·exact .inl ⟨o, h⟩
  ·exact .inr (.inr h)
 ·rw [e]
  exact fun φ' v H' _ _ r => r
theorem Rw {K : aD} {C : Addr} (q : V8 K C = true) : ∃ nm q N bs bm sn sub ab col dd k0 k1 k2 k3 k5, K.lookup C = some (excClassObj nm q C N bs bm true sn sub ab col dd k0 k1 k2 k3 k5 "ValueError.__new__") /\ PySem.HandSPX.refsVE bm = true := by
 unfold V8 at q;split at q
 ·rename_i dd cd sl ho
  split at q
  ·rename_i C' bm k0 k1 k2 k3 n k5 hm hs
   simp only [jE, beq_iff_eq, Bool.not_eq_true'] at q;obtain ⟨⟨⟨⟨rfl, rfl⟩, hdel⟩, hdi⟩, hbm⟩ := q;obtain ⟨nm, bs, mro, ns, qn, hd, sn, sub, ab, col, del⟩ := cd;dsimp only at hm hdel hdi;subst hm hdel hdi;have hsl : sl = #[k0, k1, k2, k3, some (.builtin "ValueError.__new__"), k5] := by
    obtain ⟨l⟩ := sl;simp only at hs;rw [hs]
   subst hsl;exact ⟨nm, qn, ns, bs, bm, sn, sub, ab, col, dd, k0, k1, k2, k3, k5, ho, hbm⟩
  ·cases q
 ·cases q
structure XaF (K : aD) (mg : Str -> Option Value) (x : Str) (fs : List Str) : Prop where
 cls : OexC K (He.ga K x)
 ini : iO K (.ref (He.ga K x)) "__init__" = some (some (.ref (He.ma K (He.ga K x) "__init__")))
 ty : nU K (.ref (He.ma K (He.ga K x) "__init__")) = some (.type "function")
 glo : mg x = some (.ref (He.ga K x))
 rd : XfC K (He.ga K x)
 no : ∀ f ∈ fs, iO K (.ref (He.ga K x)) f = some none
theorem O2 {K : aD} {mg : Str -> Option Value} {x : Str} {fs : List Str} (h : xaB K x fs = true) (g : mg x = some (.ref (He.ga K x))) : XaF K mg x fs := by
 obtain ⟨h1, h⟩ := He.ba h;obtain ⟨h2, h⟩ := He.ba h;obtain ⟨h3, h⟩ := He.ba h;obtain ⟨h4, h⟩ := He.ba h;obtain ⟨h5, h⟩ := He.ba h;obtain ⟨h6, h⟩ := He.ba h;obtain ⟨h7, h⟩ := He.ba h;obtain ⟨h8, h9⟩ := He.ba h;exact ⟨⟨Rw h1, of_decide_eq_true h2, of_decide_eq_true h3, of_decide_eq_true h4, h5⟩, of_decide_eq_true h6, of_decide_eq_true h7, g, xfB_ok h8, fun f hf => of_decide_eq_true (bV.mp h9 f hf)⟩
section
variable {P : Program} {w : World} {K : aD} {mg : Str -> Option Value} {base : Heap}
theorem OP {C : Addr} {f a b : Str} : ∀ vs H Q E, Uu C f vs H Q E -> vs.length = [a, b].length := fun vs H Q E ⟨_, _, e, _⟩ => by rw [e]; rfl
theorem OO {C : Addr} {f g a b c : Str} : ∀ vs H Q E, Ut C f g vs H Q E -> vs.length = [a, b, c].length := fun vs H Q E ⟨_, _, _, e, _⟩ => by rw [e]; rfl
theorem Oz {x m q : Str} {fs : List Str} {st : Stmt} {N ps : List Str} {k : Nat} {sp : Sp} (T : XaF K mg x fs) (F : Jz K x "__init__" q st) (S : FnScope N ps (defScope st)) (len : ∀ vs H Q E, sp vs H Q E -> vs.length = ps.length)
  (bnd : ∀ (kV doc pm : Value) (an : Option Addr) (cdv ct : Value) (us : List Value), us.length = ps.length -> bindArgs (dH "__init__" q (defArgs st) (defBody st) (defScope st) .none kV doc pm an cdv ct) ⟨us, []⟩ = pure (ps.zip us))
  (hbody : ∀ (cdv : Value) (A : Around) (outer : List Env) (s : Shared) (H : Hp) (vs : List V) (Q : VK) (E : XK), Room k (A.deeper (envOfC q (defScope st) s.heap.objs.size (He.ma K (He.ga K x) "__init__") cdv)) -> sp vs H Q E ->
   ∃ t, PSs (cxOf CX0 P w K mg base N q (defScope st) (He.ma K (He.ga K x) "__init__") cdv A outer s H E).nox (defBody st) t /\ t { nx := fun _ H' => Q .non H', rt := Q } (start N vs) H) : XcA P w K mg base (k + 1) x ps sp := by
 obtain ⟨fd, F⟩ := F;refine ⟨T.cls, T.ini, T.ty, ⟨fd, FunD.ok F S len fun cdv A outer s H vs Q E hr hsp => ?_, F.bindsN bnd⟩, T.glo⟩
 obtain ⟨t, h, q⟩ := hbody cdv A outer s H vs Q E hr hsp;exact ⟨t, h.nox, q⟩
end
section
variable {X : Cx} {W : WX} {e a b c o i : Expr} {es rest : List Expr} {pos p q p2 tpos apos cpos pos' np : Pos} {x y z f mn C : Str} {K : aD} {ma mb mc mo mx : FE} {mas : FA} {B : Addr -> Prop} {φ φ' : List Addr} {S S' : aO} {H H' : Hp} {σ : L2.St} {Q : VK} {m n : FS} {D : Ends} {ps : List Str} {md : FD} {j k : Nat}
theorem WK {i j : Nat} {px py pt : Pos} {kt k2 pt2} (hc : X.calm = true) (hN : X.N.Nodup) (hi : X.N[i]? = some x) (hj : X.N[j]? = some y) (hij : i ≠ j)
  (hx : X.env.scope.names.lookup x = some .local) (hy : X.env.scope.names.lookup y = some .local) (ha : PE X a (dC X.K W ma)) (hb : PE X b (dC X.K W mb))
  (hw : swappedStores [.Tuple [.Name x px, .Name y py] kt pt] (.Tuple [a, b] k2 pt2) X.env = pure (some [x, y]))
  (hs : swapsWithSole [.Tuple [.Name x px, .Name y py] kt pt] (.Tuple [a, b] k2 pt2) pos.line X.env = pure false := by rfl) (h1 : starEach [a, b] X.env = (false, eval a X.env) :: starEach [b] X.env := by rfl) (h2 : starEach [b] X.env = (false, eval b X.env) :: starEach [] X.env := by rfl) :
  PS X (.Assign [.Tuple [.Name x px, .Name y py] kt pt] (.Tuple [a, b] k2 pt2) pos) (lG X.K W (mPar i j ma mb)) := gH (ps_par hc hN hi hj hij hx hy (pa_cons ha (pa_cons hb pa_nil h2) h1) hw hs) fun D σ H h => by
 obtain ⟨B, φ, S, ρ, I, E, f⟩ := h;exact cM I E f fun φ1 S1 d1 v1 H1 I1 X1 E1 r1 f1 => cM I1 E1 f1 fun φ2 S2 d2 v2 H2 I2 X2 E2 r2 f2 => ⟨_, _, rfl, f2 φ2 _ H2 I2 Ext.refl ((E2.set (r1.ext X2 I1) i).set r2 j)⟩
def U8 (n : Nat) : List PH.D := (aX n).map fun (k : Nat) => PH.D.int (((n : Nat) : Int) - 1 - (k : Int))
def VF (a : FE) : FI := fun ρ S => (a ρ S).bind fun x S1 => match x with
 | .dat (.int j) => if -(2 ^ 62) <= j /\ j < 2 ^ 62 then .ok (U8 j.toNat) S1 else .stuck
 | _ => .stuck
end
theorem rd_X1 {K : aD} {mg : Str -> Option Value} {x f : Str} {fs : List Str} {a : Addr} {y : V} {H : Hp} {Q : VK} {D : Ends} (T : XaF K mg x fs) (hf : f ∈ fs) (ha : H a = some (exo a (He.ga K x) none)) (hD : ∀ σ H, D.nx σ H = Q .non H) (h : ∀ dx, H dx = none -> dx ≠ a -> Q .non (upd (upd H dx (exd dx [(f, y)])) a (exo a (He.ga K x) (some dx)))) :
  tOst K f (uO 0) (uO 1) D [some (.ref a), some y] H := ⟨a, He.ga K x, rfl, T.cls, T.no f hf, .inl ⟨ha, fun dx n ne => by rw [hD]; exact h dx n ne⟩⟩
theorem rd_X2 {K : aD} {mg : Str -> Option Value} {x f g : Str} {fs : List Str} {a : Addr} {y z : V} {H : Hp} {Q : VK} {D : Ends} (T : XaF K mg x fs) (hf : f ∈ fs) (hg : g ∈ fs) (ha : H a = some (exo a (He.ga K x) none)) (hD : ∀ σ H, D.nx σ H = Q .non H) (h : ∀ dx, H dx = none -> dx ≠ a -> Q .non (upd (upd (upd H dx (exd dx [(f, y)])) a (exo a (He.ga K x) (some dx))) dx (exd dx [(g, z), (f, y)]))) :
  tSeq (tOst K f (uO 0) (uO 1)) (tOst K g (uO 0) (uO 2)) D [some (.ref a), some y, some z] H :=
 ⟨a, He.ga K x, rfl, T.cls, T.no f hf, .inl ⟨ha, fun dx n ne => ⟨a, He.ga K x, rfl, T.cls, T.no g hg, .inr ⟨dx, [(f, y)], upd_same, by rw [upd_ne ne, upd_same], by simp, by rw [hD]; exact h dx n ne⟩⟩⟩⟩
theorem US {k : Nat} {A : Around} (r : Room k A) : A.units + 65 < cLine := by have := r.un; omega
section
variable {α β : Type} {a b c o i e : FE} {r : FA} {t u : FT} {m n : FS} {ρ : Ev} {S : aO} {x y z : Vl} {f g : Vl -> Vl -> aO -> Res Vl} {h : Vl -> aO -> Res Vl} {md : FD}
theorem dX {d : α} {k : α -> aO -> Res β} : (Res.ok d S).bind k = k d S := rfl
theorem EN {x : Er} {k : α -> aO -> Res β} : (Res.err x S : Res α).bind k = .err x S := rfl
theorem nH {d : α} {k : α -> aO -> Out} : (Res.ok d S).toS ρ k = k d S := rfl
theorem NQ {x : Er} {k : α -> aO -> Out} : (Res.err x S : Res α).toS ρ k = .err x ρ S := rfl
theorem UV {k : Nat} : aC k ρ S = (match lk ρ k with | some d => .ok d S | none => .stuck) := rfl
theorem g_c {d : D} : mC d ρ S = .ok (.dat d) S := rfl
def kOp1 (f : Vl -> Vl -> aO -> Res Vl) (b : FE) (ρ : Ev) (x : Vl) (S : aO) : Res Vl := (b ρ S).bind (f x)
theorem g_op : aU f a b ρ S = (a ρ S).bind (kOp1 f b ρ) := rfl
theorem g_op1 : kOp1 f b ρ x S = (b ρ S).bind (f x) := rfl
theorem g_1 : m1 h a ρ S = (a ρ S).bind h := rfl
theorem g_B : mB a ρ S = (a ρ S).bind unB := rfl
theorem g_unB {k : Bool} : unB (.dat (.bl k)) S = .ok k S := rfl
theorem Pw : fP a ρ S = (a ρ S).bind DN := rfl
def VY (u : FT) (ρ : Ev) (c : Bool) (S : aO) : Res Bool := if c = true then u ρ S else .ok false S
def kOr (u : FT) (ρ : Ev) (c : Bool) (S : aO) : Res Bool := if c = true then .ok true S else u ρ S
def kNot (c : Bool) (S : aO) : Res Bool := .ok (!c) S
theorem g_and : Il t u ρ S = (t ρ S).bind (VY u ρ) := rfl
theorem g_or : Et t u ρ S = (t ρ S).bind (kOr u ρ) := rfl
theorem UX : nA t ρ S = (t ρ S).bind kNot := rfl
theorem Q3 : VY u ρ true S = u ρ S := rfl
theorem Q4 : VY u ρ false S = .ok false S := rfl
theorem Sf : kOr u ρ true S = .ok true S := rfl
theorem Sh : kOr u ρ false S = u ρ S := rfl
theorem W2 {c : Bool} : kNot c S = .ok (!c) S := rfl
def Pe (b : FE) (ρ : Ev) (x : Vl) (S : aO) : Res Vl := match x with
 | .dat (.bl c) => if c = true then b ρ S else .ok (.dat (.bl false)) S
 | _ => .stuck
def VU (b : FE) (ρ : Ev) (x : Vl) (S : aO) : Res Vl := match x with
 | .dat (.bl c) => if c = true then .ok (.dat (.bl true)) S else b ρ S
 | _ => .stuck
theorem WI : pJ a b ρ S = (a ρ S).bind (Pe b ρ) := rfl
theorem g_orV : VG a b ρ S = (a ρ S).bind (VU b ρ) := rfl
theorem NV : Pe b ρ (.dat (.bl true)) S = b ρ S := rfl
theorem NW : Pe b ρ (.dat (.bl false)) S = .ok (.dat (.bl false)) S := rfl
theorem Q0 : VU b ρ (.dat (.bl true)) S = .ok (.dat (.bl true)) S := rfl
theorem Q2 : VU b ρ (.dat (.bl false)) S = b ρ S := rfl
def kNV (k : Bool) (S : aO) : Res Vl := .ok (.dat (.bl (!k))) S
def UO (x : Vl) (S : aO) : Res Vl := (DN x S).bind kNV
theorem Vu : P6 a ρ S = (a ρ S).bind UO := rfl
theorem So : UO x S = (DN x S).bind kNV := rfl
theorem g_kNV {k : Bool} : kNV k S = .ok (.dat (.bl (!k))) S := rfl
def Lu (b : FE) (ρ : Ev) (x : Vl) (k : Bool) (S : aO) : Res Vl := if k = true then .ok x S else b ρ S
def kOrT (b : FE) (ρ : Ev) (x : Vl) (S : aO) : Res Vl := (DN x S).bind (Lu b ρ x)
theorem g_orT : VH a b ρ S = (a ρ S).bind (kOrT b ρ) := rfl
theorem W4 : kOrT b ρ x S = (DN x S).bind (Lu b ρ x) := rfl
theorem Q5 : Lu b ρ x true S = .ok x S := rfl
theorem Q6 : Lu b ρ x false S = b ρ S := rfl
theorem Pv {k : Bool} : DN (.dat (.bl k)) S = .ok k S := rfl
def SN (g : Vl -> Vl -> aO -> Res Vl) (c : FE) (ρ : Ev) (y z : Vl) (S : aO) : Res Vl := match z with
 | .dat (.bl k) => if k = true then (c ρ S).bind (g y) else .ok (.dat (.bl false)) S
 | _ => .stuck
def VX (f g : Vl -> Vl -> aO -> Res Vl) (c : FE) (ρ : Ev) (x y : Vl) (S : aO) : Res Vl := (f x y S).bind (SN g c ρ y)
def kCh1 (f g : Vl -> Vl -> aO -> Res Vl) (b c : FE) (ρ : Ev) (x : Vl) (S : aO) : Res Vl := (b ρ S).bind (VX f g c ρ x)
theorem Sx : tU f g a b c ρ S = (a ρ S).bind (kCh1 f g b c ρ) := rfl
theorem g_ch1 : kCh1 f g b c ρ x S = (b ρ S).bind (VX f g c ρ x) := rfl
theorem g_ch2 : VX f g c ρ x y S = (f x y S).bind (SN g c ρ y) := rfl
theorem Sy : SN g c ρ y (.dat (.bl true)) S = (c ρ S).bind (g y) := rfl
theorem T1 : SN g c ρ y (.dat (.bl false)) S = .ok (.dat (.bl false)) S := rfl
def kIf (a b : FE) (ρ : Ev) (c : Bool) (S : aO) : Res Vl := if c = true then a ρ S else b ρ S
theorem g_if : mIf t a b ρ S = (t ρ S).bind (kIf a b ρ) := rfl
theorem Si : kIf a b ρ true S = a ρ S := rfl
theorem Sj : kIf a b ρ false S = b ρ S := rfl
theorem Pz : aL ρ S = .ok [] S := rfl
def KU (x : Vl) (xs : List Vl) (S : aO) : Res (List Vl) := .ok (x :: xs) S
def Pa (r : FA) (ρ : Ev) (x : Vl) (S : aO) : Res (List Vl) := (r ρ S).bind (KU x)
theorem Kq : aB a r ρ S = (a ρ S).bind (Pa r ρ) := rfl
theorem HI : Pa r ρ x S = (r ρ S).bind (KU x) := rfl
theorem HH {xs : List Vl} : KU x xs S = .ok (x :: xs) S := rfl
def KR (cl : Bool) (xs : List Vl) (S : aO) : Res Vl := match A7 xs with
 | some ds => if ds.length <= sizeLine then newL cl ds S else .stuck
 | none => .stuck
def kTup (xs : List Vl) (S : aO) : Res Vl := match A7 xs with
 | some ds => if ds.length <= sizeLine then .ok (.dat (.tup ds)) S else .stuck
 | none => .stuck
theorem g_lst {cl : Bool} : eB cl r ρ S = (r ρ S).bind (KR cl) := rfl
theorem g_tup : bX r ρ S = (r ρ S).bind kTup := rfl
theorem Ks : A7 [] = some [] := rfl
theorem JH {d : D} {xs : List Vl} : A7 (.dat d :: xs) = (match A7 xs with | some ds => some (d :: ds) | none => none) := rfl
theorem kTup0 : kTup [] S = .ok (.dat (.tup [])) S := rfl
theorem kTup1 {d : D} : kTup [.dat d] S = .ok (.dat (.tup [d])) S := rfl
theorem kTup2 {d e : D} : kTup [.dat d, .dat e] S = .ok (.dat (.tup [d, e])) S := rfl
theorem kTup3 {d e f : D} : kTup [.dat d, .dat e, .dat f] S = .ok (.dat (.tup [d, e, f])) S := rfl
theorem kTup4 {d e f g : D} : kTup [.dat d, .dat e, .dat f, .dat g] S = .ok (.dat (.tup [d, e, f, g])) S := rfl
theorem kLst0 {cl : Bool} : KR cl [] S = newL cl [] S := rfl
theorem kLst1 {cl : Bool} {d : D} : KR cl [.dat d] S = newL cl [d] S := rfl
theorem kLst2 {cl : Bool} {d e : D} : KR cl [.dat d, .dat e] S = newL cl [d, e] S := rfl
theorem kLst3 {cl : Bool} {d e f : D} : KR cl [.dat d, .dat e, .dat f] S = newL cl [d, e, f] S := rfl
theorem Vw {ds : List D} : newL false ds S = .ok (.dat (.lst ds)) S := rfl
theorem Vv {ds : List D} : newL true ds S = .ok (.cel S.length) (S ++ [.lst ds]) := rfl
theorem Kr : bE md r ρ S = (r ρ S).bind md := rfl
def VS (cl : Bool) (x : Vl) (lo : Option Int) (hi : Option Int) (S : aO) : Res Vl := RE cl x lo hi S
def VT (cl : Bool) (h : FO) (ρ : Ev) (x : Vl) (lo : Option Int) (S : aO) : Res Vl := (h ρ S).bind (VS cl x lo)
def kSl0 (cl : Bool) (l h : FO) (ρ : Ev) (x : Vl) (S : aO) : Res Vl := (l ρ S).bind (VT cl h ρ x)
theorem g_sl {cl : Bool} {l h : FO} : Bv cl a l h ρ S = (a ρ S).bind (kSl0 cl l h ρ) := rfl
theorem g_sl0 {cl : Bool} {l h : FO} : kSl0 cl l h ρ x S = (l ρ S).bind (VT cl h ρ x) := rfl
theorem g_sl1 {cl : Bool} {h : FO} {lo : Option Int} : VT cl h ρ x lo S = (h ρ S).bind (VS cl x lo) := rfl
theorem g_sl2 {cl : Bool} {lo hi : Option Int} : VS cl x lo hi S = RE cl x lo hi S := rfl
theorem g_noP : qJ ρ S = .ok none S := rfl
def UN (x : Vl) (S : aO) : Res (Option Int) := match x with
 | .dat (.int i) => .ok (some i) S
 | _ => .stuck
theorem Vt : gM a ρ S = (a ρ S).bind UN := rfl
theorem Sn {i : Int} : UN (.dat (.int i)) S = .ok (some i) S := rfl
def SM (x : Vl) (S : aO) : Res Vl := match x with
 | .cel n => (match S[n]? with
  | some (.lst ds) => .ok (.dat (.lst ds)) (S.set n .dead)
  | _ => .stuck)
 | _ => .stuck
theorem g_frz : uG a ρ S = (a ρ S).bind SM := rfl
theorem lV {n : Nat} {ds : List D} (h : S[n]? = some (.lst ds)) : SM (.cel n) S = .ok (.dat (.lst ds)) (S.set n .dead) := by simp only [SM, h]
def vL (b : FE) (ρ : Ev) (x : Vl) (S : aO) : Res Vl := match pD S x with
 | some _ => (b ρ S).bind (JQ x)
 | none => .stuck
theorem g_app : lA a b ρ S = (a ρ S).bind (vL b ρ) := rfl
theorem lW {n : Nat} {ds : List D} (h : S[n]? = some (.lst ds)) : vL b ρ (.cel n) S = (b ρ S).bind (JQ (.cel n)) := by simp only [vL, pD, h]
theorem nI {n : Nat} {ds : List D} {d : D} (h : S[n]? = some (.lst ds)) (hl : ds.length < sizeLine) : JQ (.cel n) (.dat d) S = .ok (.dat .non) (S.set n (.lst (ds ++ [d]))) := by simp only [JQ, h, hl, if_true]
def Out.seq (o : Out) (n : FS) : Out := match o with
 | .next ρ S => n ρ S
 | o => o
theorem UW : aS m n ρ S = (m ρ S).seq n := rfl
theorem Ko : (Out.next ρ S).seq n = n ρ S := rfl
theorem NR {d : Vl} : (Out.ret d S).seq n = .ret d S := rfl
theorem NS {x : Er} : (Out.err x ρ S).seq n = .err x ρ S := rfl
theorem NU : (Out.brk ρ S).seq n = .brk ρ S := rfl
theorem NT : (Out.cnt ρ S).seq n = .cnt ρ S := rfl
theorem Vo : bM ρ S = .next ρ S := rfl
def kRet (d : Vl) (S : aO) : Out := .ret d S
theorem g_ret : bQ a ρ S = (a ρ S).toS ρ kRet := rfl
theorem W3 {d : Vl} : kRet d S = .ret d S := rfl
def UR (ρ : Ev) (d : Vl) (S : aO) : Out := .next ρ S
theorem WD : eA a ρ S = (a ρ S).toS ρ (UR ρ) := rfl
theorem Ss {d : Vl} : UR ρ d S = .next ρ S := rfl
def VW (m n : FS) (ρ : Ev) (c : Bool) (S : aO) : Out := if c = true then m ρ S else n ρ S
theorem Ua : cF t m n ρ S = (t ρ S).toS ρ (VW m n ρ) := rfl
theorem Q9 : VW m n ρ true S = m ρ S := rfl
theorem QA : VW m n ρ false S = n ρ S := rfl
def Pd (t : Tg) (ρ : Ev) (d : Vl) (S : aO) : Out := match pR t d ρ with
 | some ρ' => .next ρ' S
 | none => .stuck
theorem Ub {t : Tg} : cN a t ρ S = (a ρ S).toS ρ (Pd t ρ) := rfl
theorem W7 {k : Nat} {d : Vl} : Pd (.nm k) ρ d S = .next (ρ.set k (some d)) S := rfl
theorem Sv {i j : Nat} {d e : D} : Pd (.tp [i, j]) ρ (.dat (.tup [d, e])) S = .next ((ρ.set i (some (.dat d))).set j (some (.dat e))) S := rfl
theorem Su {i j k : Nat} {d e f : D} : Pd (.tp [i, j, k]) ρ (.dat (.tup [d, e, f])) S = .next (((ρ.set i (some (.dat d))).set j (some (.dat e))).set k (some (.dat f))) S := rfl
def kFor (t : Tg) (m : FS) (ρ : Ev) (ds : List D) (S : aO) : Out := loop t m ds ρ S
theorem g_for {mi : FI} {t : Tg} : tT mi t m ρ S = (mi ρ S).toS ρ (kFor t m ρ) := rfl
theorem W6 {t : Tg} {ds : List D} : kFor t m ρ ds S = loop t m ds ρ S := rfl
def zK (cl : Bool) (t : Tg) (u : FT) (e : FE) (ρ : Ev) (vs : List Nat) (ds : List D) (S : aO) : Res Vl := if ds.length <= sizeLine then (match iJ t u e (wipeE ρ vs) ds S with
 | .ok es S2 => newL cl es S2
 | _ => .stuck) else .stuck
theorem g_lc {cl : Bool} {mi : FI} {t : Tg} {vs : List Nat} : BX cl mi t u e vs ρ S = (mi ρ S).bind (zK cl t u e ρ vs) := rfl
theorem Vq : jU a ρ S = (a ρ S).bind itemsOf := rfl
theorem QI {ds : List D} : itemsOf (.dat (.lst ds)) S = .ok ds S := rfl
theorem QH {ds : List D} : itemsOf (.dat (.tup ds)) S = .ok ds S := rfl
def EG (x : Vl) (S : aO) : Res (List D) := match x with
 | .dat (.int j) => if -(2 ^ 62) <= j /\ j < 2 ^ 62 then .ok (iC 0 j.toNat) S else .stuck
 | _ => .stuck
theorem Vr : kX a ρ S = (a ρ S).bind EG := rfl
theorem kP {j : Int} (h1 : -(2 ^ 62) <= j) (h2 : j < 2 ^ 62) : EG (.dat (.int j)) S = .ok (iC 0 j.toNat) S := by unfold EG; exact if_pos ⟨h1, h2⟩
def kRev1 (x : Vl) (S : aO) : Res (List D) := match x with
 | .dat (.int j) => if -(2 ^ 62) <= j /\ j < 2 ^ 62 then .ok (U8 j.toNat) S else .stuck
 | _ => .stuck
theorem Sa : VF a ρ S = (a ρ S).bind kRev1 := rfl
def UQ (x : Vl) (S : aO) : Res (List D) := match x with
 | .dat (.lst ds) => .ok (eC 0 ds) S
 | _ => .stuck
theorem WC : Fu a ρ S = (a ρ S).bind UQ := rfl
theorem Sr {ds : List D} : UQ (.dat (.lst ds)) S = .ok (eC 0 ds) S := rfl
def Out.wipe (o : Out) (is : List Nat) : Out := match o with
 | .next ρ S => .next (wipeE ρ is) S
 | .cnt ρ S => .cnt (wipeE ρ is) S
 | .brk ρ S => .brk (wipeE ρ is) S
 | o => o
theorem Vi {is : List Nat} : kW is m ρ S = (m ρ S).wipe is := by unfold kW Out.wipe; cases m ρ S <;> rfl
theorem JC {is : List Nat} : (Out.next ρ S).wipe is = .next (wipeE ρ is) S := rfl
theorem Kl {is : List Nat} {d : Vl} : (Out.ret d S).wipe is = .ret d S := rfl
theorem Km {is : List Nat} {x : Er} : (Out.err x ρ S).wipe is = .err x ρ S := rfl
theorem WJ {cl : Bool} {i j : Int} : dY cl (.dat (.int i)) (.dat (.int j)) S = .ok (.dat (.int (i + j))) S := rfl
theorem Vn {i j : Int} : wQ (.dat (.int i)) (.dat (.int j)) S = .ok (.dat (.int (i - j))) S := rfl
theorem rV {i j : Int} (h : 0 < j) : CC (.dat (.int i)) (.dat (.int j)) S = .ok (.dat (.int (i % j))) S := if_pos h
theorem oE {i j : Int} (h : IntMulOk i j) : qN (.dat (.int i)) (.dat (.int j)) S = .ok (.dat (.int (i * j))) S := if_pos h
theorem D8 {i j : Int} (h : CDiv i j) : CY (.dat (.int i)) (.dat (.int j)) S = .ok (.dat (.int (i / j))) S := if_pos h
theorem g_ltI {i j : Int} : M7 (.dat (.int i)) (.dat (.int j)) S = .ok (.dat (.bl (decide (i < j)))) S := rfl
theorem g_leI {i j : Int} : Nx (.dat (.int i)) (.dat (.int j)) S = .ok (.dat (.bl (decide (i <= j)))) S := rfl
theorem g_gtI {i j : Int} : M8 (.dat (.int i)) (.dat (.int j)) S = .ok (.dat (.bl (decide (j < i)))) S := rfl
theorem g_geI {i j : Int} : fGe (.dat (.int i)) (.dat (.int j)) S = .ok (.dat (.bl (decide (j <= i)))) S := rfl
theorem g_eqI {i j : Int} : fT (.dat (.int i)) (.dat (.int j)) S = .ok (.dat (.bl (decide (i = j)))) S := rfl
theorem g_neI {i j : Int} : Jx (.dat (.int i)) (.dat (.int j)) S = .ok (.dat (.bl (!decide (i = j)))) S := rfl
theorem g_eqS {i j : Str} : fT (.dat (.str i)) (.dat (.str j)) S = .ok (.dat (.bl (decide (i = j)))) S := rfl
theorem g_neS {i j : Str} : Jx (.dat (.str i)) (.dat (.str j)) S = .ok (.dat (.bl (!decide (i = j)))) S := rfl
theorem g_eqB {i j : Bool} : fT (.dat (.bl i)) (.dat (.bl j)) S = .ok (.dat (.bl (i == j))) S := by cases i <;> cases j <;> rfl
theorem g_neB {i j : Bool} : Jx (.dat (.bl i)) (.dat (.bl j)) S = .ok (.dat (.bl (!(i == j)))) S := by cases i <;> cases j <;> rfl
theorem g_neg {i : Int} : wR (.dat (.int i)) S = .ok (.dat (.int (-i))) S := rfl
theorem W8 {i : Int} : uK (.dat (.int i)) S = .ok (.dat (.int i)) S := rfl
theorem W9 {k : Bool} : uK (.dat (.bl k)) S = .ok (.dat (.int (if k then 1 else 0))) S := rfl
theorem W0 {xs : List D} : eW (.dat (.tup xs)) S = .ok (.dat (.int xs.length)) S := rfl
theorem W1 {xs : List D} : eW (.dat (.lst xs)) S = .ok (.dat (.int xs.length)) S := rfl
theorem rW {n : Nat} {xs : List D} (h : S[n]? = some (.lst xs)) : eW (.cel n) S = .ok (.dat (.int xs.length)) S := by simp only [eW, pD, h]
theorem G5 {xs : List D} {k : Int} {d : D} (h : atI xs k = some d) : cH (.dat (.tup xs)) (.dat (.int k)) S = .ok (.dat d) S := by simp only [cH, h]
theorem wH {xs : List D} {k : Int} {d : D} (h : atI xs k = some d) : cH (.dat (.lst xs)) (.dat (.int k)) S = .ok (.dat d) S := by simp only [cH, pD, h]
theorem QG {n : Nat} {xs : List D} {k : Int} {d : D} (h : S[n]? = some (.lst xs)) (h2 : atI xs k = some d) : cH (.cel n) (.dat (.int k)) S = .ok (.dat d) S := by simp only [cH, pD, h, h2]
theorem nL {cl : Bool} {xs ys : List D} (h : xs.length + ys.length <= sizeLine) : dY cl (.dat (.tup xs)) (.dat (.tup ys)) S = .ok (.dat (.tup (xs ++ ys))) S := if_pos h
theorem pV {cl : Bool} {xs ys : List D} (h : xs.length + ys.length <= sizeLine) : dY cl (.dat (.lst xs)) (.dat (.lst ys)) S = newL cl (xs ++ ys) S := by simp only [dY, pD, h, if_true]
theorem JG {neg : Bool} : FF neg x (.dat .non) S = .ok (.dat (.bl (if neg then !(isNon x) else isNon x))) S := rfl
theorem hY {α : Type} {xs : List α} {k : Int} {n : Nat} (h : k = (n : Int)) : atI xs k = xs[n]? := by
 subst h;unfold atI ixN
 by_cases hl : n < xs.length
 ·rw [if_pos (by omega), if_pos (by omega)]; simp
 ·rw [if_pos (by omega), if_neg (by omega)]
  simp [wU hl]
theorem Lz : gO ρ S = .ok true S := rfl
theorem Vk {xs : List D} : DN (.dat (.lst xs)) S = .ok (!xs.isEmpty) S := rfl
theorem Vm {i : Int} : DN (.dat (.int i)) S = .ok (i != 0) S := rfl
theorem JE {xs : List D} : isNon (.dat (.tup xs)) = false := rfl
theorem JF : isNon (.dat .non) = true := rfl
theorem g_slT {cl : Bool} {xs : List D} {lo hi : Option Int} : RE cl (.dat (.tup xs)) lo hi S = .ok (.dat (.tup (cutD xs lo hi))) S := rfl
theorem Px {cl : Bool} {xs : List D} {lo hi : Option Int} : RE cl (.dat (.lst xs)) lo hi S = newL cl (cutD xs lo hi) S := rfl
theorem g_slS {cl : Bool} {ns : List Int} {lo hi : Option Int} : RE cl (.scr ns) lo hi S = newL cl (cutD (ns.map D.int) lo hi) S := rfl
theorem Se {cl : Bool} {xs : List D} : wI cl (.dat (.lst xs)) S = newL cl xs S := rfl
theorem Sd {cl : Bool} {xs : List D} : wI cl (.dat (.tup xs)) S = newL cl xs S := rfl
theorem Pu {xs : List D} : fTuple (.dat (.lst xs)) S = .ok (.dat (.tup xs)) S := rfl
end
section
variable {a b o : FE} {r : FA} {m n : FS} {ρ : Ev} {S : aO} {x y : Vl} {md : FD} {C f : Str} {ns : List Str}
theorem Sb : Bw C ρ S = .err ⟨C, [], []⟩ ρ S := rfl
def HA (C : Str) (ns : List Str) (ρ : Ev) (xs : List Vl) (S : aO) : Out := match A7 xs with
 | some ds => if ds.length = ns.length then .err ⟨C, ns, ds.reverse⟩ ρ S else .stuck
 | none => .stuck
theorem Py : mY C ns r ρ S = (r ρ S).toS ρ (HA C ns ρ) := rfl
theorem NY {f : Str} {d : D} : HA C [f] ρ [.dat d] S = .err ⟨C, [f], [d]⟩ ρ S := rfl
theorem NX {f g : Str} {d e : D} : HA C [f, g] ρ [.dat d, .dat e] S = .err ⟨C, [f, g], [e, d]⟩ ρ S := rfl
def A1 (C f : Str) (ρ : Ev) (d x : Vl) (S : aO) : Out := match K5 S C f x d with
 | some S3 => .next ρ S3
 | none => .stuck
def UM (C f : Str) (o : FE) (ρ : Ev) (d : Vl) (S : aO) : Out := (o ρ S).toS ρ (A1 C f ρ d)
theorem Vp : xS C f o a ρ S = (a ρ S).toS ρ (UM C f o ρ) := rfl
theorem Sk {d : Vl} : UM C f o ρ d S = (o ρ S).toS ρ (A1 C f ρ d) := rfl
theorem EM {n : Nat} {d : Vl} {fs : List (Str × Vl)} (h : S[n]? = some (.ins C fs)) (hl : fs.length < 1000) : A1 C f ρ d (.cel n) S = .next ρ (S.set n (.ins C (pE f d fs))) := by simp only [A1, K5, h, true_and, hl, if_true]
def G1 (kp : Bool) (C : Str) (md : FD) (ds : List Vl) (S : aO) : Res Vl := made kp S.length (md (.cel S.length :: ds) (S ++ [.ins C []]))
theorem Vz {kp : Bool} : Lg kp C md r ρ S = (r ρ S).bind (G1 kp C md) := rfl
def KQ (md : FD) (x : Vl) (ds : List Vl) (S : aO) : Res Vl := md (x :: ds) S
def UP (C f : Str) (md : FD) (r : FA) (ρ : Ev) (x : Vl) (S : aO) : Res Vl := if rR S C f x = true then (r ρ S).bind (KQ md x) else .stuck
theorem Vy : rO C f md o r ρ S = (o ρ S).bind (UP C f md r ρ) := rfl
theorem jA (h : rR S C f x = true) : UP C f md r ρ x S = (r ρ S).bind (KQ md x) := if_pos h
theorem Q7 {ds : List Vl} : KQ md x ds S = md (x :: ds) S := rfl
def Cn (C f : Str) (x : Vl) (S : aO) : Res Vl := match CW S C f x with
 | some d => .ok d S
 | none => .stuck
theorem g_fld : gZ C f o ρ S = (o ρ S).bind (Cn C f) := rfl
theorem Sq {ns : List Str} {xs : List D} : Cn C f (.dat (.ins C ns xs)) S = (match (ns.zip xs).lookup f with | some d => .ok (.dat d) S | none => .stuck) := by
 simp only [Cn, CW, if_true];cases (ns.zip xs).lookup f <;> rfl
theorem vP {n : Nat} {fs : List (Str × Vl)} {d : Vl} (h : S[n]? = some (.ins C fs)) (h2 : fs.lookup f = some d) : Cn C f (.cel n) S = .ok d S := by simp only [Cn, CW, h, if_true, h2]
def Out.tryA (o : Out) (cs : List Str) (c : Str) (k : Nat) (its : List XIt) : Out := match o with
 | .err e ρ' S' => if (e.cls ∈ cs /\ c ∈ cs) /\ k < ρ'.length then (if e.cls = c then (match itF e its with
   | some ds => if ds.length <= sizeLine then .ret (.dat (.tup ds)) S' else .stuck
   | none => .stuck) else .err e ρ' S') else .stuck
 | o => o
theorem Vj {cs : List Str} {c : Str} {k : Nat} {its : List XIt} : UJ cs m c k its ρ S = (m ρ S).tryA cs c k its := by unfold UJ Out.tryA; cases m ρ S <;> rfl
theorem JD {cs : List Str} {c : Str} {k : Nat} {its : List XIt} : (Out.next ρ S).tryA cs c k its = .next ρ S := rfl
theorem Kn {cs : List Str} {c : Str} {k : Nat} {its : List XIt} {d : Vl} : (Out.ret d S).tryA cs c k its = .ret d S := rfl
end
theorem nK : ((0 : Nat) : Int) = 0 := rfl
theorem Au : ((1 : Nat) : Int) = 1 := rfl
theorem T9 : ((2 : Nat) : Int) = 2 := rfl
theorem T8 : ((3 : Nat) : Int) = 3 := rfl
theorem T7 : ((4 : Nat) : Int) = 4 := rfl
theorem T6 : ((5 : Nat) : Int) = 5 := rfl
theorem T5 : ((6 : Nat) : Int) = 6 := rfl
theorem T4 : ((7 : Nat) : Int) = 7 := rfl
theorem T3 : ((8 : Nat) : Int) = 8 := rfl
theorem T2 : ((9 : Nat) : Int) = 9 := rfl
theorem QN : ((10 : Nat) : Int) = 10 := rfl
theorem QM : ((11 : Nat) : Int) = 11 := rfl
theorem QL : ((12 : Nat) : Int) = 12 := rfl
theorem QK : ((13 : Nat) : Int) = 13 := rfl
theorem str_inj {a b : String} (h : Str.ofString a = Str.ofString b) : a = b := by
 rw [Str.ofString_eq_toList, Str.ofString_eq_toList] at h
 injection h with h
 have h2 := congrArg Array.toList h;simp only at h2;have : ∀ {l m : List Char}, l.map Char.toNat = m.map Char.toNat -> l = m := fun {l} => by
  induction l with
  | nil => intro m h; cases m <;> simp at h ⊢
  | cons c l ih =>
   intro m h;cases m with
   | nil => simp at h
   | cons d m =>
    simp only [aN, List.cons.injEq] at h;rw [ih h.2];have : c = d := by
     have := congrArg Char.ofNat h.1
     simpa using this
    rw [this]
 exact String.toList_inj.mp (this h2)
theorem Ge {a b : String} : (Str.ofString a = Str.ofString b) = (a = b) := propext ⟨str_inj, fun h => by rw [h]⟩
section
variable {X : Cx} {W : WX} {C : Str} {md : FD} {o i a b : Expr} {mo mi ma mb : FE} {pos p : Pos} {j k : Nat} {ps : List Str} {K : aD}
def fGetO (C : Str) (md : FD) (x y : Vl) (S : aO) : Res Vl := if rR S C "" x = true then md [x, y] S else .stuck
def fInO (C : Str) (md : FD) (y x : Vl) (S : aO) : Res Vl := if rR S C "" x = true then Qo (md [x, y] S) else .stuck
def PV (x : Vl) (S : aO) : Res (List PH.D) := match x with
 | .dat (.lst ds) => .ok ds.reverse S
 | _ => .stuck
def mRevL (a : FE) : FI := fun ρ S => (a ρ S).bind PV
def fMin2 (x y : Vl) (S : aO) : Res Vl := match x, y with
 | .dat (.int i), .dat (.int j) => .ok (.dat (.int (if j < i then j else i))) S
 | _, _ => .stuck
theorem Vs {ρ : Ev} {S : aO} : mRevL ma ρ S = (ma ρ S).bind PV := rfl
theorem Sl {S : aO} {ds : List PH.D} : PV (.dat (.lst ds)) S = .ok ds.reverse S := rfl
theorem Vx {S : aO} {x y : Int} : fMin2 (.dat (.int x)) (.dat (.int y)) S = .ok (.dat (.int (if y < x then y else x))) S := rfl
theorem WA {S : aO} {x y : Vl} (h : rR S C "" x = true) : fGetO C md x y S = md [x, y] S := if_pos h
theorem g_inO {S : aO} {x y : Vl} (h : rR S C "" x = true) : fInO C md y x S = Qo (md [x, y] S) := if_pos h
theorem TC {S : aO} {b : Bool} : Qo (.ok (.dat (.bl b)) S) = .ok (.dat (.bl b)) S := rfl
def UK (k : Nat) : FS := fun ρ S => match lk ρ k with
 | some (.cel n) => (match S[n]? with
  | some (.lst ds) => .next (ρ.set k (some (.dat (.lst ds)))) (S.set n .dead)
  | _ => .stuck)
 | _ => .stuck
theorem WB {k n : Nat} {ρ : Ev} {S : aO} {ds : List PH.D} (h : lk ρ k = some (.cel n)) (h2 : S[n]? = some (.lst ds)) : UK k ρ S = .next (ρ.set k (some (.dat (.lst ds)))) (S.set n .dead) := by simp only [UK, h, h2]
end
open AutoSeq1 (wpAny_loadPart')
section
variable {X : Cx} {W : WX} {a : Expr} {ma : FE} {pos p : Pos}
def VJ (a : FE) : FI := fun ρ S => (a ρ S).bind fun x S1 => match x with
 | .dat (.tup ds) => .ok (eC 0 ds) S1
 | _ => .stuck
def PX (x : Vl) (S : aO) : Res (List PH.D) := match x with
 | .dat (.tup ds) => .ok (eC 0 ds) S
 | _ => .stuck
theorem Sw {ρ : Ev} {S : aO} : VJ ma ρ S = (ma ρ S).bind PX := rfl
theorem QB {S : aO} {ds : List PH.D} : PX (.dat (.tup ds)) S = .ok (eC 0 ds) S := rfl
end
section
variable {X : Cx} {W : WX} {e a b c o : Expr} {es rest : List Expr} {pos p q p2 tpos apos cpos : Pos} {x y z C f : Str} {K : aD} {ma mb mc mo me : FE} {mt mu : FT} {mas : FA} {mi mj : FI} {B : Addr -> Prop} {φ φ' : List Addr} {S S' : aO} {H H' : Hp} {σ : L2.St} {Q : VK} {m n : FS} {st : Stmt} {iM : List Stmt} {D : Ends} {t t1 : Tg}
def SE (mi : FI) (t : Tg) (vs : List Nat) : FE := fun ρ S => (mi ρ S).bind fun ds S1 => if ds.length <= sizeLine /\ (∀ d ∈ ds, (pR t (.dat d) (wipeE ρ vs)).isSome = true) then .ok (.cels (fO S1.length ds.length)) (S1 ++ cD ds.length (.lst [])) else .stuck
theorem N3 {n : Nat} {x : Cell} : cD (n + 1) x = cD n x ++ [x] := List.replicate_succ'
theorem Ol {s n : Nat} : fO s (n + 1) = fO s n ++ [s + n] := by rw [List.range'_concat]; simp
theorem RX {vs : List Nat} (ht : ∀ i ∈ OG t, i ∈ vs) (h : dC K W (SE mi t vs) σ H Q) : tLc (KA K W mi) (LL K t) (yS K wNo gO) (dC K wNo (eB true aL)) vs σ H Q := by
 refine cR (k := fun ds ρ S1 => if ds.length <= sizeLine /\ (∀ d ∈ ds, (pR t (.dat d) (wipeE ρ vs)).isSome = true) then Res.ok (Vl.cels (fO S1.length ds.length)) (S1 ++ cD ds.length (.lst [])) else .stuck) h fun B φ0 S0 ρ ds J H0 I0 E0 r f0 => ?_
 intro A hA;split at f0
 case isFalse => exact f0.elim
 rename_i hsz;obtain ⟨hsz, htg⟩ := hsz;have nB : ¬ B A := fun q => by obtain ⟨u, e⟩ := I0.btr A q; rw [hA] at e; cases e
 have IA : GInv K (gC B A) φ0 S0 (upd H0 A (.lst [])) := I0.plus hA;have b2 : ∀ a, H0 a ≠ none -> gC B A a -> B a := fun b hb h => by
  rcases h with h | h
  ·exact h
  ·exact absurd (by rw [h]; exact hA) hb
 refine ⟨fun i k H' => i <= ds.length /\ k = ds.length - i /\ ∃ (φ1 : List Addr) (as : List Addr), GInv K (gC B A) φ1 (S0 ++ cD i (.lst [])) H' /\ Ext φ0 S0 H0 φ1 (S0 ++ cD i (.lst [])) H' /\ RepE K (gC B A) φ1 (S0 ++ cD i (.lst [])) H' (wipeE ρ vs) (wipe σ vs) /\ H' A = some (.lst (as.map L2.V.ref)) /\ as.length = i /\ (fO S0.length i).map (fun n => φ1[n]?) = as.map some,
  ⟨_, gL _, rfl, φ0, [], by simpa using IA, by simpa using Ext.new I0 hA, by simpa using (E0.wipes vs).plus I0 hA, upd_same, rfl, rfl⟩, ?_⟩
 rintro i k H' ⟨hi, rfl, φ1, as, I1, X1, E1, hA1, hul, hφ⟩
 obtain ⟨hgo, hstop, hyld⟩ := r φ1 _ H' (gC B A) I1 (X1.kpB (fun _ h => .inl h) b2 I0)
 by_cases hlt : i < ds.length
 ·refine .inr ⟨hgo i hlt, fun H2 => i + 1 <= ds.length /\ ∃ (φ1 : List Addr) (as : List Addr), GInv K (gC B A) φ1 (S0 ++ cD (i + 1) (.lst [])) H2 /\ Ext φ0 S0 H0 φ1 (S0 ++ cD (i + 1) (.lst [])) H2 /\ RepE K (gC B A) φ1 (S0 ++ cD (i + 1) (.lst [])) H2 (wipeE ρ vs) (wipe σ vs) /\ H2 A = some (.lst (as.map L2.V.ref)) /\ as.length = i + 1 /\ (fO S0.length (i + 1)).map (fun n => φ1[n]?) = as.map some, fun H2 ⟨h1, h2⟩ => ⟨ds.length - (i + 1), by omega, h1, rfl, h2⟩, fun x H2 y => ?_⟩
  have hd : ds[i]? = some ds[i] := by simp [hlt]
  obtain ⟨I2, X2, r2⟩ := hyld i x H2 ds[i] hd y;obtain ⟨ρ2, q2⟩ := Option.isSome_iff_exists.mp (htg ds[i] (pY hlt));have hA2 := (X2.old A _ hA1 fun q => I1.blk A q (.inr rfl)).1
  refine Be (E1.ext X2 I1) (d := .dat ds[i]) r2 q2 fun ws E3 => ⟨by rw [yL ht, yK], gC B A, φ1, _, ρ2, I2, E3, ?_⟩
  intro φ3 b' H3 I3 X3 rb;have rb : b' = true := rb;subst rb;have hA3 := (X3.old A _ hA2 fun q => I2.blk A q (.inr rfl)).1
  have Xa := X1.trans (X2.trans X3);rw [if_pos rfl];refine ⟨gC B A, φ3, S0 ++ cD i (.lst []), ρ2, I3, E3.ext X3 I2, ?_⟩
  intro φ4 v4 H4 I4 X4 r4;obtain ⟨a4, rfl, h4⟩ := r4;have hA4 := (X4.old A _ hA3 fun q => I3.blk A q (.inr rfl)).1
  have eS : (S0 ++ cD i (Cell.lst [])) ++ [Cell.lst []] = S0 ++ cD (i + 1) (.lst []) := by rw [N3, dG]
  rw [eS] at I4 X4;have hn : (S0 ++ cD i (Cell.lst [])).length = S0.length + i := by simp
  rw [hn] at h4;refine ⟨as.map L2.V.ref, hA4, by rw [aP, hul]; omega, hlt, φ4, as ++ [a4], I4.plusPut hA4, ?_, (((E1.ext X2 I1).ext X3 I2).ext X4 I3).plusPut hA4, by rw [upd_same]; simp, by simp [hul], ?_⟩
  ·exact ⟨fun b o h nb => by
    obtain ⟨h1, h2⟩ := (Xa.trans X4).old b o h nb;exact ⟨by rw [upd_ne (fun e => by subst e; rw [hA] at h; cases h)]; exact h1, h2⟩, (Xa.trans X4).ids⟩
  ·rw [Ol, cU, cU, Ac (X2.trans (X3.trans X4)).ids _ _ hφ]
   simp [h4]
 ·have e : i = ds.length := by omega
  subst e;refine .inl ⟨hstop, ?_⟩
  refine f0 φ1 (.ref A) H' I1.less X1 ⟨A, as, rfl, fun q => ?_, hA1, hφ⟩
  rcases q with q | q
  ·exact nB q
  ·exact I1.blk A q (.inr rfl)
theorem f_lcC {tg iter : Expr} {scope : Scope} {own : List (Str × Nat)} {lpos : Pos} (hc : X.calm = true) (hN : X.N.Nodup) (hi : PI X tg iter (KA X.K W mi)) (ok : BlkOk X.N X.env.scope scope own)
  (hg : ∀ (s : Shared) (H : Hp) (C : Addr) (cl : List (Str × Addr)) (fp : List Addr), PG (X.blk s H scope (compEnvC scope cl C X.env) fp) tg (LL X.K t)) (hs : ∀ x, foldedSetIterable iter X.env x = pure x := by intro _; rfl) (hv : ∀ i ∈ OG t, i ∈ own.map (·.2) := by decide) :
  PE X (.ListComp (.List [] lpos) [⟨tg, iter, [], 0⟩] scope pos) (dC X.K W (SE mi t (own.map (·.2)))) := dM (pe_lc hc hN hi ok hg (fun _ _ _ _ _ => eO) (fun _ _ _ _ _ => dF aG) hs) fun σ H Q h => RX hv h
def kLcC (t : Tg) (ρ : Ev) (vs : List Nat) (ds : List PH.D) (S : aO) : Res Vl := if ds.length <= sizeLine /\ (∀ d ∈ ds, (pR t (.dat d) (wipeE ρ vs)).isSome = true) then .ok (.cels (fO S.length ds.length)) (S ++ cD ds.length (.lst [])) else .stuck
theorem g_lcC {ρ : Ev} {S : aO} {vs : List Nat} : SE mi t vs ρ S = (mi ρ S).bind (kLcC t ρ vs) := rfl
theorem Q8 {ρ : Ev} {S : aO} {vs : List Nat} {k : Nat} {ds : List PH.D} (h : ds.length <= sizeLine) : kLcC (.nm k) ρ vs ds S = .ok (.cels (fO S.length ds.length)) (S ++ cD ds.length (.lst [])) := if_pos ⟨h, fun _ _ => rfl⟩
def Fv (g : Int -> Int -> Int) (C f : Str) (o e : FE) : FS := fun ρ S => (o ρ S).toS ρ fun x S1 => match CW S1 C f x with
 | some (.dat (.int u)) => (e ρ S1).toS ρ fun w S2 => (match w with
  | .dat (.int w) => (match K5 S2 C f x (.dat (.int (g u w))) with
   | some S3 => .next ρ S3
   | none => .stuck)
  | _ => .stuck)
 | _ => .stuck
theorem OV {g : Int -> Int -> Int} {r : R2} (c : Cls K (He.ga K C)) (na : NoAttr K (He.ga K C) f) (hr : ∀ i j H Q, Q (.int (g i j)) H -> r (.int i) (.int j) H Q) (h : lG K W (Fv g C f mo me) D σ H) : sFldAug K (dC K W mo) (dC K W me) (cIp r) f D σ H := by
 obtain ⟨B, φ, S, ρ, I, E, f'⟩ := h;refine cM I E f' fun φ1 S1 d1 v1 H1 I1 X1 E1 r1 f1 => ?_
 split at f1
 ·rename_i u q
  obtain ⟨a, dx, fs, u', rfl, h1, h2, h3⟩ := JL I1 r1 q;cases h3;refine ⟨a, _, dx, fs, _, rfl, h1, c, na, h2, cM I1 E1 f1 fun φ2 S2 d2 v2 H2 I2 X2 E2 r2 f2 => ?_⟩
  split at f2
  ·rename_i w
   cases r2;split at f2
   ·rename_i S3 q3
    unfold K5 at q3;split at q3
    ·rename_i n
     obtain ⟨a', e', h4⟩ := r1.ext X2 I1;cases e';split at q3
     ·rename_i C' fs' q4
      split at q3
      ·rename_i hc
       obtain ⟨e, hl⟩ := hc;subst e;cases q3;obtain ⟨dx2, vs, h5, h6⟩ := I2.ok n _ a q4 h4;refine hr _ _ _ _ ⟨dx2, vs, h5, by rw [h6.len]; exact hl, ?_⟩
       have X3 := Ext.put (H := H2) (o := .ins (He.ga K C') dx2 (putF f (.int (g u w)) vs)) (x := .ins C' (pE f (.dat (.int (g u w))) fs')) q4 (by simp) h4 (by simp)
       have r' : RepV K B φ2 S2 H2 (.dat (.int (g u w))) (.int (g u w)) := rfl;have I3 := I2.put q4 (by simp) h4 (by simp) (x := .ins C' (pE f (.dat (.int (g u w))) fs')) (o := .ins (He.ga K C') dx2 (putF f (.int (g u w)) vs)) ⟨dx2, putF f (.int (g u w)) vs, upd_same, (RepF.put r' h6).ext X3 I2⟩
       exact f2 φ2 σ _ I3 X3 (E2.ext X3 I2)
      ·cases q3
     ·cases q3
    ·cases q3
   ·exact f2.elim
  ·exact f2.elim
 ·exact f1.elim
theorem Kt (c : Cls X.K (He.ga X.K C)) (na : NoAttr X.K (He.ga X.K C) f) (ho : PE X o (dC X.K W mo)) (he : PE X e (dC X.K W me)) : PS X (.AugAssign (.Attribute o f tpos) .Add e pos) (lG X.K W (Fv (fun x y => x + y) C f mo me)) :=
 gH (ps_fldaug ho he HG) fun D σ H h => OV c na (fun _ _ _ _ q => q) h
theorem Tr {g : Int -> Int -> Int} {ρ : Ev} {S : aO} {n : Nat} {u w : Int} {fs : List (Str × Vl)} (ho : mo ρ S = .ok (.cel n) S) (he : me ρ S = .ok (.dat (.int w)) S) (hn : S[n]? = some (.ins C fs)) (hf : fs.lookup f = some (.dat (.int u))) (hl : fs.length < 1000) : Fv g C f mo me ρ S = .next ρ (S.set n (.ins C (pE f (.dat (.int (g u w))) fs))) := by
 simp only [Fv, ho, he, nH, CW, hn, if_true, hf, K5, true_and, hl]
def OkK (P : Program) (w : World) (K : aD) (mg : Str -> Option Value) (base : Heap) (k : Nat) (x : Str) (ps : List Str) (n : Nat) (kw : Str) (dv : L2.V) (sp : Sp) : Prop :=
 ∃ fd, FnOk P w K mg base (L2.CX P w) k (He.ga K x) fd ps sp /\ mg x = some (.ref (He.ga K x)) /\ iN K (.ref (He.ga K x)) = true /\ (∃ ds, Vals [dv] ds /\ Binds K fd ps ds) /\ KBn K fd ps n [kw] (fun us ws => us ++ ws) (fun vs zs => vs ++ zs)
def VL (md : FD) (dd : PH.D) (as : FA) : FE := fun ρ S => (as ρ S).bind fun ds S1 => md (ds ++ [.dat dd]) S1
theorem RepVs.snoc {B : Addr -> Prop} {φ : List Addr} {S : aO} {H : Hp} : ∀ {ds : List Vl} {vs : List L2.V} {d : Vl} {v : L2.V}, RepVs K B φ S H ds vs -> RepV K B φ S H d v -> RepVs K B φ S H (ds ++ [d]) (vs ++ [v])
 | [], vs, d, v, h, r => by cases h; exact ⟨v, [], rfl, r, rfl⟩
 | d' :: ds, vs, d, v, ⟨v', ws, e, h1, h2⟩, r => by subst e; exact ⟨v', ws ++ [v], rfl, h1, RepVs.snoc h2 r⟩
def Pc (md : FD) (dd : PH.D) (ds : List Vl) (S : aO) : Res Vl := md (ds ++ [.dat dd]) S
theorem TB {md : FD} {dd : PH.D} {ρ : Ev} {S : aO} : VL md dd mas ρ S = (mas ρ S).bind (Pc md dd) := rfl
theorem QF {md : FD} {dd : PH.D} {ds : List Vl} {S : aO} : Pc md dd ds S = md (ds ++ [.dat dd]) S := rfl
def KL (n : Nat) (md : FD) (as : FA) (a : FE) : FE := fun ρ S => (as ρ S).bind fun ds S1 => if ds.length = n then (a ρ S1).bind fun d S2 => md (ds ++ [d]) S2 else .stuck
def HE (md : FD) (ds : List Vl) (d : Vl) (S : aO) : Res Vl := md (ds ++ [d]) S
def Pb (n : Nat) (md : FD) (a : FE) (ρ : Ev) (ds : List Vl) (S : aO) : Res Vl := if ds.length = n then (a ρ S).bind (HE md ds) else .stuck
theorem HK {md : FD} {n : Nat} {ρ : Ev} {S : aO} : KL n md mas ma ρ S = (mas ρ S).bind (Pb n md ma ρ) := rfl
theorem C6 {md : FD} {ρ : Ev} {S : aO} {x y z : Vl} : Pb 3 md ma ρ [x, y, z] S = (ma ρ S).bind (HE md [x, y, z]) := rfl
theorem C7 {md : FD} {ds : List Vl} {d : Vl} {S : aO} : HE md ds d S = md (ds ++ [d]) S := rfl
theorem TN {j k n : Nat} {ps : List Str} {md : FD} {kw : Str} {dv : L2.V} {kpos : Pos} (F : OkK X.prog X.w X.K X.mg X.base j x ps n kw dv (spF X.K md)) (hr : Room k X.A) (tk : Takes X W) (ha : PA X (e :: es) (F8 X.K W mas)) (hv : PE X a (dC X.K W ma)) (hjk : j <= k := by decide) (hg : Gl X x := by rfl) (hdb : (x == ("__debug__" : Str)) = false := by decide)
  (hall : (backToKw pos (keywordEach [⟨some kw, a, kpos⟩] X.env)).all (·.1.isSome) = true := by rfl) (hks : (backToKw pos (keywordEach [⟨some kw, a, kpos⟩] X.env)).filterMap (·.1) = [kw] := by rfl)
  (he : starEach (e :: es) X.env = (false, eval e X.env) :: starEach es X.env := by rfl) (hpl : ((backTo pos (starEach (e :: es) X.env)).any (·.1) || (backToKw pos (keywordEach [⟨some kw, a, kpos⟩] X.env)).any (·.1.isNone)) = false := by rfl) : PE X (.Call (.Name x p) (e :: es) [⟨some kw, a, kpos⟩] pos) (dC X.K W (KL n md mas ma)) := by
 obtain ⟨fd, F, hm, hk, _, hb⟩ := F;refine ⟨fun pins s σ H Q I h => ?_⟩
 have h' : F8 X.K W mas σ H fun vs H1 => tCons (dC X.K W ma) tNil σ H1 fun zs H2 => vs.length = n /\ zs.length = 1 /\ spF X.K md (vs ++ zs) H2 Q (WE W σ) := by
  refine cR (k := fun ds ρ S1 => if ds.length = n then (ma ρ S1).bind fun d S2 => md (ds ++ [d]) S2 else .stuck) h fun B φ S ρ ds vs H1 I E r f => ?_
  split at f
  case isFalse => exact f.elim
  rename_i hl;exact jK I E f fun φ' S' d v H2 I2 X2 E2 r2 f2 => ⟨by rw [r.len]; exact hl, rfl, B, φ', S', ds ++ [d], I2, RepVs.snoc (r.ext X2 I) r2, f2.toE⟩
 refine wpAny_Call_Name_kw (ld_glob I hg hm ?_ hdb)
 refine LA (h₀ := X.base) I.ok.mod.kin hk hall (thn (ha.run pos pins s σ H _ I h') fun us s1 ⟨vs, H1, I1, r, q⟩ => ?_) hpl he
 refine thn ((pk_cons hv pk_nil : PK X [⟨some kw, a, kpos⟩] _).run pos pins s1 σ H1 _ I1 q) fun ws s2 ⟨zs, H2, I2, rz, l1, l2, q2⟩ => ⟨I2.kIn, ?_⟩
 rw [hks];have r2 := hb.rel r rz;refine wpAny_call (codeAny_mono (F.run X.A X.stack s2 H2 ⟨us, [kw].zip ws⟩ (us ++ ws) (vs ++ zs) Q (WE W σ) (hr.mono hjk) I2.env0 (hb.to s2 us ws I2.kIn (r.length.symm.trans l1) (rz.length.symm.trans l2)) r2 q2) fun r s' hq => ?_)
 cases r with
 | error e => exact passAt tk σ pins H2 s2 e s' I2 hq
 | ok fl =>
  cases fl with
  | ret u => exact I2.after hq
  | next => exact False.elim hq
  | brk => exact False.elim hq
  | cont => exact False.elim hq
end
section
variable {P : Program} {w : World} {K : aD} {mg : Str -> Option Value} {base : Heap}
abbrev FnK (K : aD) (x : Str) (st : Stmt) (kw : Str) (dv : L2.V) : Prop := ∃ fd, FunD K x x (defArgs st) (defBody st) (defScope st) [] [(kw, dv)] (He.ga K x) fd
theorem okK {x kw : Str} {dv : L2.V} {st : Stmt} {N ps : List Str} {k n : Nat} {md : FD} {mb : FS} (F : FnK K x st kw dv) (g : mg x = some (.ref (He.ga K x))) (S : FnScope N ps (defScope st)) (R : Runs md N.length ps.length mb) (hn : n + 1 = ps.length)
  (b0 : ∀ (D : Addr) (doc pm : Value) (an : Option Addr) (cdv ct : Value) (us ks : List Value), us.length = n -> ks.length = 1 -> KwChain D ([kw].zip ks) (bindArgs (dH x x (defArgs st) (defBody st) (defScope st) .none (.ref D) doc pm an cdv ct) ⟨us, []⟩) (ps.zip (us ++ ks)))
  (b1 : ∀ (kV doc pm : Value) (an : Option Addr) (cdv ct : Value) (us ws : List Value), us.length = n -> ws.length = 1 -> bindArgs (dH x x (defArgs st) (defBody st) (defScope st) .none kV doc pm an cdv ct) ⟨us, [kw].zip ws⟩ = pure (ps.zip (us ++ ws)))
  (hbody : ∀ (cdv : Value) (A : Around) (outer : List Env) (s : Shared) (H : Hp) (E : XK), Room k (A.deeper (envOfC x (defScope st) s.heap.objs.size (He.ga K x) cdv)) -> PSs (cxOf (L2.CX P w) P w K mg base N x (defScope st) (He.ga K x) cdv A outer s H E) (defBody st) (lG K (fun c x _ H => E c x H) mb)) : OkK P w K mg base (k + 1) x ps n kw dv (spF K md) := by
 obtain ⟨fd, F⟩ := F;refine ⟨fd, FunD.ok F S (AI R) fun cdv A outer s H vs Q E hr hsp => ⟨_, hbody cdv A outer s H E hr, xA R hsp⟩, g, F.kp, F.binds0 n (by simp) hn b0, ⟨fun s us ws _ l1 l2 => ?_, fun r1 r2 => r1.append r2⟩⟩
 obtain ⟨oc, od, dV, kV, doc, pm, an, cdv, ct, osl, rfl, lk, hcd, hD, hK⟩ := F.ex;rcases hD with ⟨_, rfl⟩ | ⟨e, _⟩
 ·exact .of_eq (b1 kV doc pm an cdv ct us ws l1 l2)
 ·exact absurd rfl e
end
def EV0 := aF @dX (aF @EN (aF @nH (aF @NQ (aF @UV (aF @g_c (aF @g_op (aF @g_op1 (aF @g_1 (aF @g_B (aF @g_unB (aF @Pw (aF @g_and (aF @g_or (aF @UX (aF @Q3 (aF @Q4 (aF @Sf (aF @Sh (aF @W2 (aF @WI (aF @g_orV (aF @NV (aF @NW (aF @Q0 (aF @Q2 (aF @Vu (aF @So (aF @g_kNV (aF @g_orT (aF @W4 (aF @Q5 (aF @Q6 (aF @Pv (aF @Sx (aF @g_ch1 (aF @g_ch2 (aF @Sy (aF @T1 (aF @g_if (aF @Si (aF @Sj (aF @Pz (aF @Kq (aF @HI (aF @HH (aF @g_lst (aF @g_tup (aF @Ks (aF @JH (aF @kTup0 (aF @kTup1 (aF @kTup2 (aF @kTup3 (aF @kTup4 (aF @kLst0 (aF @kLst1 (aF @kLst2 (aF @kLst3 (@Vw)))))))))))))))))))))))))))))))))))))))))))))))))))))))))))
def EV1 := aF @Vv (aF @Kr (aF @g_sl (aF @g_sl0 (aF @g_sl1 (aF @g_sl2 (aF @g_noP (aF @Vt (aF @Sn (aF @g_frz (aF @g_app (aF @UW (aF @Ko (aF @NR (aF @NS (aF @NU (aF @NT (aF @Vo (aF @g_ret (aF @W3 (aF @WD (aF @Ss (aF @Ua (aF @Q9 (aF @QA (aF @Ub (aF @W7 (aF @Sv (aF @Su (aF @g_for (aF @W6 (aF @g_lc (aF @Vq (aF @QI (aF @QH (aF @Vr (aF @Sa (aF @WC (aF @Sr (aF @Vi (aF @JC (aF @Kl (aF @Km (aF @WJ (aF @Vn (aF @g_ltI (aF @g_leI (aF @g_gtI (aF @g_geI (aF @g_eqI (aF @g_neI (aF @g_eqS (aF @g_neS (aF @g_eqB (aF @g_neB (aF @g_neg (aF @W8 (aF @W9 (aF @W0 (@W1)))))))))))))))))))))))))))))))))))))))))))))))))))))))))))
def EV2 := aF @JG (aF @Lz (aF @Vk (aF @Vm (aF @JE (aF @JF (aF @g_slT (aF @Px (aF @g_slS (aF @Se (aF @Sd (aF @Pu (aF @Sb (aF @Py (aF @NY (aF @NX (aF @Vp (aF @Sk (aF @Vz (aF @Vy (aF @Q7 (aF @g_fld (aF @Sq (aF @Vj (aF @JD (aF @Kn (aF @nK (aF @Au (aF @T9 (aF @T8 (aF @T7 (aF @T6 (aF @T5 (aF @T4 (aF @T3 (aF @T2 (aF @QN (aF @QM (aF @QL (aF @QK (aF @Vs (aF @Sl (aF @Vx (aF @WA (aF @g_inO (aF @TC (aF @WB (aF @Sw (aF @QB (aF @g_lcC (aF @Q8 (aF @TB (aF @QF (aF @HK (aF @C6 (aF @C7 (@Ge))))))))))))))))))))))))))))))))))))))))))))))))))))))))
end PH
local macro_rules
 | `(tactic| simp! [$xs,*] $[$l:location]?) => `(tactic| simp (config := { implicitDefEqProofs := false }) only [$xs,*, PH.EV0, PH.EV1, PH.EV2, bD, bZ, Bool.not_true, Bool.not_false, eq_self, if_true, if_false, Bool.true_or, Bool.false_or, Bool.or_true, Jv, BZ, Bool.true_and, Hk, Bool.false_and, gI, aK, bF, beq_self_eq_true, CL, PH.lk, PH.isTy, PH.fIsi, PH.fIsi2, PH.kindOf, PH.wipeE, decide_true, decide_false, Int.reduceEq, Int.reduceLT, Int.reduceLE, Int.reduceSub, Int.reduceAdd, Int.reduceNeg, Int.reduceToNat, Int.reduceNe, Nat.reduceAdd, Nat.reduceLT, Nat.reduceLeDiff, String.reduceEq, String.reduceBEq] $[$l:location]?)
namespace PH
open PySem PySem.Spec PyProof.Rows L2
structure FnG (P : Program) (w : World) (K : aD) (mg : Str -> Option Value) (base : Heap) (CX : CXT) (k : Nat) (f : Addr) (fd : FuncData) (ps : List Str) (sp : Sp) : Prop where
 len : ∀ vs H Q E, sp vs H Q E -> vs.length = ps.length
 run : ∀ (A : Around) (outer : List Env) (s : Shared) (H : Hp) (args : Args) (us : List Value) (vs : List V) (Q : VK) (E : XK), Room k A -> A.guards = some [] -> Env0 P w K mg base A outer s H -> BindsTo s fd args (ps.zip us) -> Vals vs us -> sp vs H Q E ->
  codeAny (model P w) A (.call (.ref f) args) (CR CX outer P w H s Q E) s
section
variable {P : Program} {w : World} {K : aD} {mg mb : Str -> Option Value} {base : Heap} {CX : CXT} {k j : Nat} {f : Addr} {fd : FuncData} {ps : List Str} {sp : Sp}
theorem QP {name qual : Str} {params : Arguments} {body : List Stmt} {scope : Scope} {dV kV doc pm cdv ct oc : Value} {an od : Option Addr} {osl : Array (Option Value)} {N : List Str} (lk : K.lookup f = some ⟨oc, od, .func (dH name qual params body scope dV kV doc pm an cdv ct), osl⟩) (hcd : PySem.W.codeIn K cdv qual = true) (S : FnScope N ps scope) (len : ∀ vs H Q E, sp vs H Q E -> vs.length = ps.length)
  (hbody : ∀ (A : Around) (outer : List Env) (s : Shared) (H : Hp) (vs : List V) (Q : VK) (E : XK), Room k (A.deeper (envOfC qual scope s.heap.objs.size f cdv)) -> A.guards = some [] -> sp vs H Q E ->
   ∃ t, PSs (cxOf CX P w K mg base N qual scope f cdv A outer s H E) body t /\ t { nx := fun _ H' => Q .non H', rt := Q } (start N vs) H) :
  FnG P w K mg base CX (k + 1) f (dH name qual params body scope dV kV doc pm an cdv ct) ps sp := by
 refine ⟨len, fun A outer s H args us vs Q E hr hgd e0 hb rv hsp => ?_⟩
 have KX : K.In s.heap := e0.mod.kin.keeps fun b o e => (e0.bs b o e).1
 have lim : s.heap.NoLimit := e0.mod.nolimit.keeps fun b o e => (e0.bs b o e).1
 have names : ∀ y ∈ ps.zip us, scope.names.lookup y.1 = some .local \/ (scope.names.lookup y.1 = some .cell /\ ((cellsFrom (s.heap.objs.size + 1) scope.names []).lookup y.1).isSome = true) := fun y hy => by
  obtain ⟨n, v⟩ := y;exact (S.par n (List.of_mem_zip hy).1).imp id fun q => ⟨q, Hm _ _ _ (.inl q)⟩
 refine codeAny_call_function hr.depth (KX _ _ lk) rfl S.co S.gen rfl (MS KX hcd) (hb _ _ _ _ (wpAny_newFunctionEnv_cells S.kind names fun env he s1 x => ?_))
 subst he;obtain ⟨t, ht, hq⟩ := hbody A outer s H vs Q E (hr.deeper _) hgd hsp;have I := inv_start (CX := CX) (E := E) S hr.hd e0 (len _ _ _ _ hsp) rv x;refine ⟨lim.keeps x.toInCall.keep, codeAny_func (wpAny_mono (ht.run [] s1 (start N vs) H _ I hq) (fun fl s' hs => ?_) fun e s' hs => hs)⟩
 cases fl with
 | ret u => obtain ⟨v, σ', H', J, r, q⟩ := hs; exact ⟨v, H', J.os, J.bare, J.base, J.hok, r, q⟩
 | next => obtain ⟨σ', H', J, q⟩ := hs; exact ⟨V.non, H', J.os, J.bare, J.base, J.hok, rfl, q⟩
 | brk => obtain ⟨_, _, _, q⟩ := hs; exact q.elim
 | cont => obtain ⟨_, _, _, q⟩ := hs; exact q.elim
end
def OkG (P : Program) (w : World) (K : aD) (mg : Str -> Option Value) (base : Heap) (k : Nat) (x : Str) (ps : List Str) (sp : Sp) : Prop :=
 ∃ fd, FnG P w K mg base (L2.CX P w) k (He.ga K x) fd ps sp /\ mg x = some (.ref (He.ga K x)) /\ iN K (.ref (He.ga K x)) = true /\ Binds K fd ps []
section
variable {X : Cx} {W : WX} {e : Expr} {es : List Expr} {pos p : Pos} {x : Str} {mas : FA} {ps : List Str} {md : FD} {j k : Nat} {fd : FuncData} {f : Addr} {sp : Sp}
theorem Ri {pins : List (Addr × Obj)} {σ : L2.St} {H : Hp} {s : Shared} {Q : VK} {us : List Value} {vs : List V} (F : FnG X.prog X.w X.K X.mg X.base (L2.CX X.prog X.w) k f fd ps sp) (hr : Room k X.A) (hgd : X.A.guards = some []) (hb : Binds X.K fd ps []) (tk : Takes X W)
  (I : Inv X pins σ H s) (r : Vals vs us) (h : sp vs H Q (WE W σ)) : wpAny (model X.prog X.w) X.A (call (.ref f) us) (EP X pins σ Q) X.xe s := by
 have hl : us.length = ps.length := r.length.symm.trans (F.len _ _ _ _ h);have b := hb s us I.kIn (by rw [cY]; exact hl)
 rw [cY] at b;refine wpAny_call (codeAny_mono (F.run X.A X.stack s H ⟨us, []⟩ us vs Q (WE W σ) hr hgd I.env0 b r h) fun r s' hq => ?_)
 match r, hq with
 | .error e, hq => exact passAt tk σ pins H s e s' I hq
 | .ok (.ret u), hq => exact I.after hq
 | .ok .next, hq => exact hq.elim
 | .ok .brk, hq => exact hq.elim
 | .ok .cont, hq => exact hq.elim
theorem B4 (F : OkG X.prog X.w X.K X.mg X.base j x ps (spF X.K md)) (hr : Room k X.A) (hgd : X.A.guards = some []) (tk : Takes X W) (ha : PA X (e :: es) (F8 X.K W mas)) (hjk : j <= k := by decide) (hg : Gl X x := by rfl) (hdb : (x == ("__debug__" : Str)) = false := by decide)
  (he : starEach (e :: es) X.env = (false, eval e X.env) :: starEach es X.env := by rfl) (hpl : (backTo pos (starEach es X.env)).any (·.1) = false := by rfl) : PE X (.Call (.Name x p) (e :: es) [] pos) (dC X.K W (bE md mas)) := by
 obtain ⟨fd, F, hm, hk, hb⟩ := F;have h0 : PE X (.Call (.Name x p) (e :: es) [] pos) (tCallS (spF X.K md) (WE W) (F8 X.K W mas)) := ⟨fun pins s σ H Q I h => by
  refine wpAny_Call_Name_kw (ld_glob I hg hm ?_ hdb)
  refine AB (h₀ := X.base) I.ok.mod.kin hk (thn (ha.run pos pins s σ H _ I h) fun us s1 ⟨vs, H1, I1, r, q⟩ => ⟨I1.kIn, ?_⟩) he hpl
  exact Ri F (hr.mono hjk) hgd hb tk I1 r q⟩
 exact dM h0 fun σ H Q h => cR (k := fun ds _ S => md ds S) h fun B φ S ρ d v H1 I E r f => ⟨B, φ, S, d, I, r, f.toE⟩
end
section
variable {P : Program} {w : World} {K : aD} {mg : Str -> Option Value} {base : Heap}
theorem okG {x : Str} {st : Stmt} {N ps : List Str} {k : Nat} {md : FD} {mb : FS} (F : pQ K x st) (g : mg x = some (.ref (He.ga K x))) (S : FnScope N ps (defScope st)) (R : Runs md N.length ps.length mb)
  (bnd : ∀ (kV doc pm : Value) (an : Option Addr) (cdv ct : Value) (us : List Value), us.length = ps.length -> bindArgs (dH x x (defArgs st) (defBody st) (defScope st) .none kV doc pm an cdv ct) ⟨us, []⟩ = pure (ps.zip us))
  (hbody : ∀ (cdv : Value) (A : Around) (outer : List Env) (s : Shared) (H : Hp) (E : XK), Room k (A.deeper (envOfC x (defScope st) s.heap.objs.size (He.ga K x) cdv)) -> A.guards = some [] ->
   PSs (cxOf (L2.CX P w) P w K mg base N x (defScope st) (He.ga K x) cdv A outer s H E) (defBody st) (lG K (fun c x _ H => E c x H) mb)) : OkG P w K mg base (k + 1) x ps (spF K md) := by
 obtain ⟨fd, F⟩ := F;refine ⟨fd, ?_, g, F.kp, F.bindsN bnd⟩
 obtain ⟨oc, od, dV, kV, doc, pm, an, cdv, ct, osl, e, lk, hc⟩ := F.ex;subst e;exact QP lk hc.1 S (AI R) fun A outer s H vs Q E hr hgd hsp => ⟨_, hbody cdv A outer s H E hr hgd, xA R hsp⟩
theorem PP {x : Str} {st : Stmt} {N ps : List Str} {k : Nat} {md : FD} {mb : FS} (F : pQ K x st) (S : FnScope N ps (defScope st)) (R : Runs md N.length ps.length mb)
  (bnd : ∀ (kV doc pm : Value) (an : Option Addr) (cdv ct : Value) (us : List Value), us.length = ps.length -> bindArgs (dH x x (defArgs st) (defBody st) (defScope st) .none kV doc pm an cdv ct) ⟨us, []⟩ = pure (ps.zip us))
  (hbody : ∀ (base : Heap) (cdv : Value) (A : Around) (outer : List Env) (s : Shared) (H : Hp) (E : XK), Room k (A.deeper (envOfC x (defScope st) s.heap.objs.size (He.ga K x) cdv)) -> A.guards = some [] ->
   PSs (cxOf (L2.CX P w) P w K mg base N x (defScope st) (He.ga K x) cdv A outer s H E) (defBody st) (lG K (fun c x _ H => E c x H) mb)) :
  ∃ fd, (∀ (s : Shared) (us : List Value), us.length = ps.length -> BindsTo s fd ⟨us, []⟩ (ps.zip us)) /\ ∀ base, FnG P w K mg base (L2.CX P w) (k + 1) (He.ga K x) fd ps (spF K md) := by
 obtain ⟨fd, F⟩ := F;refine ⟨fd, fun s us hl => F.bindsA bnd s us hl, fun base => ?_⟩
 obtain ⟨oc, od, dV, kV, doc, pm, an, cdv, ct, osl, e, lk, hc⟩ := F.ex;subst e;exact QP lk hc.1 S (AI R) fun A outer s H vs Q E hr hgd hsp => ⟨_, hbody base cdv A outer s H E hr hgd, xA R hsp⟩
theorem Ki {H : Hp} {h : Heap} {a : Addr} {vs : List Value} (ha : h.get? a = some { cls := .type "list", data := .seq vs.toArray }) (only : ∀ b, H b ≠ none -> b = a) {b : Addr} {m : Str -> Option Value} (n : h.Ns b m) : (hidT h H).Ns b m := by
 obtain ⟨o, es, ep, e, d, r⟩ := n;refine ⟨o, es, ep, hidT_get e ?_, d, r⟩
 by_cases q : H b = none
 ·exact q
 ·have e' := only b q
  subst e';rw [ha] at e;cases e;cases d
theorem Vf {H : Hp} {h : Heap} {a : Addr} (KX : K.In h) (only : ∀ b, H b ≠ none -> b = a) (hK : H a ≠ none -> K.lookup a = none) : K.In (hidT h H) := fun b o e => hidT_get (KX b o e) (by
 by_cases q : H b = none
 ·exact q
 ·have e' := only b q
  subst e';rw [hK q] at e;cases e)
theorem Iy {mb : Str -> Option Value} {k : Nat} {fa a : Addr} {fd : FuncData} {x : Str} {sp : Sp} {s : Shared} {vs : List Value} {H : Hp} {vl : List V} (KX : K.In s.heap) (hns : s.heap.Ns mainGlobals mg) (hb : s.heap.Ns builtinsNs mb) (hbb : ∀ x : Str, x ≠ "__name__" -> mb x = bootBuiltins x) (hlim : s.heap.NoLimit) (hg : s.gens = #[])
  (ha : s.heap.get? a = some { cls := .type "list", data := .seq vs.toArray }) (hr : Room k callerA) (F : ∀ base : Heap, K.In base -> base.Ns mainGlobals mg -> FnG P w K mg base (L2.CX P w) k fa fd [x] sp) (hbind : ∀ (s : Shared) (u : Value), BindsTo s fd ⟨[u], []⟩ [(x, u)])
  (hsp : sp [.ref a] H (fun v _ => v = .bl true) fun _ _ _ => False) (hO : Only H) (hok : HOk P w H s.heap) (only : ∀ b, H b ≠ none -> b = a) (hK : H a ≠ none -> K.lookup a = none) :
  codeAny (model P w) callerA (.call (.ref fa) ⟨[.ref a], []⟩) (fun r s' => r = .ok (.ret (.bool true)) /\ OldK s.heap s'.heap /\ s'.os = s.os /\ AllBare s'.gens) s := by
 have hin := Vf KX only hK;have hn := Ki ha only hns;obtain ⟨mc, l1, l2⟩ := hlim;have e0 : Env0 P w K mg (hidT s.heap H) callerA [] s H := ⟨rfl, ⟨hin, hn, ⟨mb, Ki ha only hb, hbb⟩, ⟨mc, Ki ha only l1, l2⟩⟩, fun b o e => of_hidT e, Nat.le_of_eq (hidT_size _ _), trivial, fun b hb => absurd (show b ∈ ([] : List Addr) from hb) (by simp), hok, .of_eq hg⟩
 refine codeAny_mono ((F _ hin hn).run callerA [] s H ⟨[.ref a], []⟩ [.ref a] [.ref a] _ _ hr rfl e0 (hbind s (.ref a)) (.cons rfl .nil) hsp) fun r s' h => ?_
 match r, h with
 | .error e, z => obtain ⟨_, _, _, _, _, _, _, _, _, _, _, _, z⟩ := z; exact z.elim
 | .ok .next, z => exact z.elim
 | .ok .brk, z => exact z.elim
 | .ok .cont, z => exact z.elim
 | .ok (.ret u), ⟨v, H', os, bare, un, hok', rv, q⟩ =>
  obtain rfl : v = .bl true := q;obtain rfl : u = Value.bool true := rv;refine ⟨rfl, OldK.of_keep fun b o e => ?_, os, bare⟩
  rcases hO b with z | ⟨ob, xs, z⟩
  ·exact un.keep b o e z (by intro z; exact absurd (show b ∈ ([] : List Addr) from z) (by simp)) (by simp)
  ·obtain ⟨e1, _⟩ := hok b _ z
   obtain ⟨e2, _⟩ := hok' b _ (un.frzs b ob _ z);rw [e] at e1;cases e1;exact e2
theorem NL {mb : Str -> Option Value} {k : Nat} {fa a : Addr} {fd : FuncData} {x : Str} {sp : Sp} {s : Shared} {vs : List Value} {ns : List Int} (KX : K.In s.heap) (hns : s.heap.Ns mainGlobals mg) (hb : s.heap.Ns builtinsNs mb) (hbb : ∀ x : Str, x ≠ "__name__" -> mb x = bootBuiltins x) (hlim : s.heap.NoLimit) (hg : s.gens = #[])
  (ha : s.heap.get? a = some { cls := .type "list", data := .seq vs.toArray }) (hi : IntsAre vs ns) (hl : ns.length <= sizeLine) (hr : Room k callerA) (F : ∀ base : Heap, K.In base -> base.Ns mainGlobals mg -> FnG P w K mg base (L2.CX P w) k fa fd [x] sp) (hbind : ∀ (s : Shared) (u : Value), BindsTo s fd ⟨[u], []⟩ [(x, u)])
  (hsp : ∀ H : Hp, Only H -> SqL K H a (ns.map V.int) -> sp [.ref a] H (fun v _ => v = .bl true) fun _ _ _ => False) :
  codeAny (model P w) callerA (.call (.ref fa) ⟨[.ref a], []⟩) (fun r s' => r = .ok (.ret (.bool true)) /\ OldK s.heap s'.heap /\ s'.os = s.os /\ AllBare s'.gens) s := by
 have rv := vals_ints hi;cases hk : K.lookup a with
 | some o =>
  obtain rfl : o = { cls := .type "list", data := .seq vs.toArray } := Option.some.inj ((KX a o hk).symm.trans ha);have hO : Only fun _ => none := fun _ => .inl rfl
  exact Iy (vl := []) KX hns hb hbb hlim hg ha hr F hbind (hsp _ hO (.inr ⟨_, vs.toArray, _, hk, rfl, rfl, rfl, by rw [uV, hi.length]; exact hl, by simpa using rv⟩)) hO (fun b u z => by cases z) (fun b z => absurd rfl z) fun z => absurd rfl z
 | none =>
  let H : Hp := fun b => if b = a then some (.frz { cls := .type "list", data := .seq vs.toArray } (.lst (ns.map V.int))) else none
  have at_ : H a = some (.frz { cls := .type "list", data := .seq vs.toArray } (.lst (ns.map V.int))) := if_pos rfl;have off : ∀ b, b ≠ a -> H b = none := fun b hb => if_neg hb
  have only : ∀ b, H b ≠ none -> b = a := fun b z => Classical.byContradiction fun q => z (off b q)
  have hO : Only H := fun b => by
   by_cases q : b = a
   ·subst q; exact .inr ⟨_, _, at_⟩
   ·exact .inl (off b q)
  refine Iy (vl := []) KX hns hb hbb hlim hg ha hr F hbind (hsp H hO (.inl (.inr ⟨_, at_⟩))) hO (fun b u z => ?_) only fun _ => hk
  by_cases q : b = a
  ·subst q
   rw [at_] at z;cases z;exact ⟨ha, by rw [aP]; exact hl, vs, _, rv, ha⟩
  ·rw [off b q] at z
   cases z
end
theorem walk_g {l : PySem.W.OpenLaw} {n k : Nat} {q : Program} {loose : List Str} {XP : (Str -> Option Value) -> Heap -> Prop} {YP : World -> Heap -> Prop} {d : DefRec} {x : Str} (e1 : l.most = some n) (e2 : n <= sizeLine) (e3 : d.params.defaults = []) (e4 : Room k callerA)
  (e5 : ∀ (w : World) (mg : Str -> Option Value) (fa : Addr) (h : Heap), YP w h -> h.Ns mainGlobals mg -> mg d.name = some (.ref fa) -> ∃ (K : aD) (fd : FuncData) (sp : Sp), K.In h /\ (∀ (s : Shared) (u : Value), BindsTo s fd ⟨[u], []⟩ [(x, u)]) /\
   (∀ (H : Hp) (a : Addr) (ns : List Int), ns.length <= n -> Only H -> SqL K H a (ns.map V.int) -> sp [.ref a] H (fun v _ => v = .bl true) fun _ _ _ => False) /\ ∀ base : Heap, K.In base -> base.Ns mainGlobals mg -> FnG l.prog w K mg base (L2.CX l.prog w) k fa fd [x] sp) :
  PySem.W.WalkO q loose XP YP l.row.toRowW d [] (fun f vs => PySem.call f vs) :=
 Att.attach_call e1 e3 fun w s0 s1 mg mb fa o pm cd doc a vs ns G Y _ _ _ m1 m2 m3 m4 m5 => by
  obtain ⟨K, fd, sp, KX, hb, hs, hF⟩ := e5 w mg fa _ Y G.T.g m1;exact NL KX G.T.g G.T.b G.T.builtins G.T.nolimit m5 m2 m3 (bY m4 e2) e4 hF hb fun H h1 h2 => hs H a ns m4 h1 h2
section
variable {X : Cx} {W : WX} {e a b c o i : Expr} {es rest : List Expr} {pos pos' p q p2 tpos apos cpos : Pos} {x y z C f : Str} {K : aD} {ma mb mc mo me mi mv : FE} {mt mu : FT} {mas : FA} {B : Addr -> Prop} {φ φ' : List Addr} {S S' : aO} {H H' : Hp} {σ : L2.St} {Q : VK} {m n : FS} {st : Stmt} {iM : List Stmt} {D : Ends} {t t1 : Tg}
theorem Hu {k : Str} : ∀ {vs : List (Str × V)}, valV (jJ vs) (Sum.inr k) = vs.lookup k
 | [] => rfl
 | (g, v) :: r => by
  have e : jJ ((g, v) :: r) = (Sum.inr g, v) :: jJ r := rfl;rw [e, fH]
  by_cases h : k = g
  ·subst h
   rw [valV_pos rfl];simp
  ·rw [valV_neg (fun q => h (Sum.inr.inj q).symm), Hu, show (k == g) = false from beq_eq_false_iff_ne.mpr h]
theorem PR {vs : List (Str × V)} : (jJ vs).length = vs.length := by simp [jJ]
theorem V3 {k : Str} {v : V} : ∀ {vs : List (Str × V)}, (vs.map Prod.fst).Nodup -> putK (jJ vs) (Sum.inr k) v = jJ (putF k v vs) := by
 have map_no : ∀ {vs : List (Str × V)}, k ∉ vs.map Prod.fst -> (jJ vs).map (fun kv => if kv.1 = (Sum.inr k : Key) then (kv.1, v) else kv) = jJ vs := fun {vs} h => by
  induction vs with
  | nil => rfl
  | cons g r ih =>
   simp only [aN, aY, not_or] at h;have e : jJ (g :: r) = (Sum.inr g.1, g.2) :: jJ r := rfl;rw [e, aN, ih h.2, if_neg fun q => h.1 (Sum.inr.inj q).symm]
 have any_no : ∀ {vs : List (Str × V)}, ((jJ vs).any fun kv => decide (kv.1 = (Sum.inr k : Key))) = decide (k ∈ vs.map Prod.fst) := fun {vs} => by
  induction vs with
  | nil => rfl
  | cons g r ih =>
   have e : jJ (g :: r) = (Sum.inr g.1, g.2) :: jJ r := rfl;rw [e, BY, ih]
   by_cases q : g.1 = k
   ·simp [q]
   ·have q' : ¬ k = g.1 := fun z => q z.symm
    simp [q, q', Sum.inr.injEq]
 intro vs hn
 induction vs with
 | nil => rfl
 | cons g r ih =>
  obtain ⟨g1, g2⟩ := g;simp only [aN, List.nodup_cons] at hn;have e : jJ ((g1, g2) :: r) = (Sum.inr g1, g2) :: jJ r := rfl
  by_cases q : g1 = k
  ·subst q
   unfold putK putF;rw [if_pos (by rw [e, BY]; simp), e, aN, if_pos rfl, map_no hn.1, if_pos rfl]
   rfl
  ·have ih := ih hn.2
   unfold putK at ih ⊢;unfold putF;rw [if_neg q];have e2 : jJ ((g1, g2) :: putF k v r) = (Sum.inr g1, g2) :: jJ (putF k v r) := rfl;rw [e2, <- ih, e, BY, show decide ((Sum.inr g1 : Key) = Sum.inr k) = false from decide_eq_false fun z => q (Sum.inr.inj z), Bool.false_or]
   by_cases z : ((jJ r).any fun kv => decide (kv.1 = (Sum.inr k : Key))) = true
   ·rw [if_pos z, if_pos z, aN, if_neg fun z => q (Sum.inr.inj z)]
   ·rw [if_neg z, if_neg z]
    rfl
theorem RepF.fsts : ∀ {fs : List (Str × Vl)} {vs : List (Str × V)}, RepF K B φ S H fs vs -> vs.map Prod.fst = fs.map Prod.fst
 | [], vs, h => by cases h; rfl
 | d :: ds, vs, ⟨v, ws, e, _, h2⟩ => by subst e; simp [RepF.fsts h2]
def rDGet : R2 := fun x y H Q => ∃ a v, x = .ref a /\ DGet H a y (some v) /\ Q v H
def dJ (x y : Vl) (S : aO) : Res Vl := match x, y with
 | .cel n, .dat (.str k) => (match S[n]? with
  | some (.dct fs) => (match fs.lookup k with
   | some d => .ok d S
   | none => .stuck)
  | _ => .stuck)
 | _, _ => .stuck
theorem MC {n : Nat} {k : Str} {fs : List (Str × Vl)} {d : Vl} {v : V} (I : GInv K B φ S H) (r : RepV K B φ S H (.cel n) v) (h : S[n]? = some (.dct fs)) (hl : fs.lookup k = some d) : ∃ a u, v = .ref a /\ DGet H a (.str k) (some u) /\ RepV K B φ S H d u := by
 obtain ⟨a, rfl, h1⟩ := r;obtain ⟨vs, h2, h3⟩ := I.ok n _ a h h1;obtain ⟨u, h4, h5⟩ := h3.look hl;exact ⟨a, u, rfl, by have := DGet.k (k := Sum.inr k) h2; rw [Hu, h4] at this; exact this, h5⟩
theorem V0 : fR K rDGet dJ := fun {W σ B φ S H x y d e Q} I r1 r2 f => by
 unfold dJ at f;split at f
 ·rename_i n k
  cases r2;split at f
  ·rename_i fs q
   split at f
   ·rename_i d' ql
    obtain ⟨a, u, rfl, g, ru⟩ := MC I r1 q ql;exact ⟨a, u, rfl, g, Fin.now f I ru⟩
   ·exact f.elim
  ·exact f.elim
 ·exact f.elim
theorem eD (hu : X.A.units + 64 < cLine) (ho : PE X o (dC X.K W mo)) (hi : PE X i (dC X.K W mi)) (hs : NoSl i := by intro _ _; rfl) : PE X (.Subscript o i pos) (dC X.K W (aU dJ mo mi)) := dM (pe_dget (by omega) ho hi hs) fun σ H Q h => DV V0 h
def IE (S : aO) (x y d : Vl) : Option aO := match x, y with
 | .cel n, .dat (.str k) => (match S[n]? with
  | some (.dct fs) => if fs.length < 1000 /\ (fs.map Prod.fst).Nodup then some (S.set n (.dct (pE k d fs))) else none
  | _ => none)
 | _, _ => none
theorem LV {x y d : Vl} {S3 : aO} {vx vy v : V} (I : GInv K B φ S H) (rx : RepV K B φ S H x vx) (ry : RepV K B φ S H y vy) (r : RepV K B φ S H d v) (h : IE S x y d = some S3) : ∃ a H', vx = .ref a /\ DPut H a vy v H' /\ GInv K B φ S3 H' /\ Ext φ S H φ S3 H' := by
 unfold IE at h;split at h
 ·rename_i n k
  obtain ⟨a, rfl, h1⟩ := rx;cases ry;split at h
  ·rename_i fs q
   split at h
   ·rename_i hc
    obtain ⟨hl, hn⟩ := hc;cases h;obtain ⟨vs, h4, h5⟩ := I.ok n _ a q h1;have X3 := Ext.put (H := H) (o := .dK (jJ (putF k v vs))) (x := .dct (pE k d fs)) q (by simp) h1 (by simp)
    have I3 := I.put q (by simp) h1 (by simp) (x := .dct (pE k d fs)) (o := .dK (jJ (putF k v vs))) ⟨putF k v vs, upd_same, (RepF.put r h5).ext X3 I⟩
    have g := DPut.k (k := Sum.inr k) (v := v) h4 (by rw [PR, h5.len]; exact Nat.lt_trans hl (by decide))
    rw [V3 (by rw [h5.fsts]; exact hn)] at g
    exact ⟨a, _, rfl, g, I3, X3⟩
   ·cases h
  ·cases h
 ·cases h
def E9 (o i v : FE) : FS := fun ρ S => (v ρ S).toS ρ fun d S1 => (o ρ S1).toS ρ fun x S2 => (i ρ S2).toS ρ fun y S3 => match IE S3 x y d with
 | some S4 => .next ρ S4
 | none => .stuck
theorem Ay (hu : X.A.units + 64 < cLine) (ho : PE X o (dC X.K W mo)) (hi : PE X i (dC X.K W mi)) (hv : PE X e (dC X.K W mv)) (hs : swapsWith e (some (.Subscript o i pos')) pos.line X.env = pure false := by rfl) : PS X (.Assign [.Subscript o i pos'] e pos) (lG X.K W (E9 mo mi mv)) := gH (ps_dput (by omega) ho hi hv hs) fun D σ H h => by
 obtain ⟨B, φ, S, ρ, I, E, f'⟩ := h;refine cM I E f' fun φ1 S1 d1 v1 H1 I1 X1 E1 r1 f1 => cM I1 E1 f1 fun φ2 S2 d2 v2 H2 I2 X2 E2 r2 f2 => cM I2 E2 f2 fun φ3 S3 d3 v3 H3 I3 X3 E3 r3 f3 => ?_
 split at f3
 ·rename_i S4 q
  obtain ⟨a, H4, e1, g, I4, X4⟩ := LV I3 (r2.ext X3 I2) r3 ((r1.ext X2 I1).ext X3 I2) q;exact ⟨a, H4, e1, g, f3 φ3 σ H4 I4 X4 (E3.ext X4 I3)⟩
 ·exact f3.elim
def CS (g : Vl -> Vl -> aO -> Res Vl) (o i v : FE) : FS := fun ρ S => (o ρ S).toS ρ fun x S1 => (i ρ S1).toS ρ fun y S2 => match dJ x y S2 with
 | .ok u _ => (v ρ S2).toS ρ fun w S3 => (match g u w S3 with
  | .ok z S4 => (match IE S4 x y z with
   | some S5 => .next ρ S5
   | none => .stuck)
  | _ => .stuck)
 | _ => .stuck
theorem OU {g : Vl -> Vl -> aO -> Res Vl} {rd : R2} (s : fR K rd g) (h : lG K W (CS g mo mi mv) D σ H) : sDAug (dC K W mo) (dC K W mi) (dC K W mv) rd D σ H := by
 obtain ⟨B, φ, S, ρ, I, E, f'⟩ := h;refine cM I E f' fun φ1 S1 d1 v1 H1 I1 X1 E1 r1 f1 => cM I1 E1 f1 fun φ2 S2 d2 v2 H2 I2 X2 E2 r2 f2 => ?_
 split at f2
 ·rename_i u S2' q
  unfold dJ at q;split at q
  ·rename_i n k
   have r2' := r2;cases r2;split at q
   ·rename_i fs qn
    split at q
    ·rename_i d' ql
     cases q;obtain ⟨a, uv, ea, gt, ru⟩ := MC I2 (r1.ext X2 I1) qn ql;subst ea;refine ⟨a, uv, rfl, gt, cM I2 E2 f2 fun φ3 S3 d3 v3 H3 I3 X3 E3 r3 f3 => ?_⟩
     split at f3
     ·rename_i z S4 q4
      refine s (W := W) (σ := σ) I3 (ru.ext X3 I2) r3 ?_
      rw [q4];intro φ4 v4 H4 I4 X4 r4;split at f3
      ·rename_i S5 q5
       obtain ⟨a', H5, e1, g5, I5, X5⟩ := LV I4 (((r1.ext X2 I1).ext X3 I2).ext X4 I3) ((r2'.ext X3 I2).ext X4 I3) r4 q5;cases e1;exact ⟨H5, g5, f3 φ4 σ H5 I5 (X4.trans X5) ((E3.ext X4 I3).ext X5 I4)⟩
      ·exact f3.elim
     ·exact f3.elim
    ·cases q
   ·cases q
  ·cases q
 ·exact f2.elim
def JR : Vl -> Vl -> aO -> Res Vl
 | .dat (.int i), .dat (.int j), S => .ok (.dat (.int (i + j))) S
 | _, _, _ => .stuck
def JO : Vl -> Vl -> aO -> Res Vl
 | .dat (.int i), .dat (.int j), S => .ok (.dat (.int (i - j))) S
 | _, _, _ => .stuck
theorem V1 : fR K rAdd JR := fun {W σ B φ S H x y d e Q} I r1 r2 f => by
 unfold JR at f;split at f
 ·cases r1; cases r2; exact ⟨_, _, rfl, rfl, Fin.now f I rfl⟩
 ·exact f.elim
theorem Uw : fR K rSub JO := fun {W σ B φ S H x y d e Q} I r1 r2 f => by
 unfold JO at f;split at f
 ·cases r1; cases r2; exact ⟨_, _, rfl, rfl, Fin.now f I rfl⟩
 ·exact f.elim
def Kv (x y : Vl) (S : aO) : Res Vl := match x, y with
 | .cel n, .dat (.lst es) => (match S[n]? with
  | some (.lst ds) => if ds.length + es.length <= sizeLine then .ok (.cel n) (S.set n (.lst (ds ++ es))) else .stuck
  | _ => .stuck)
 | _, _ => .stuck
theorem Of : fR K rExt2 Kv := fun {W σ B φ S H x y d e Q} I r1 r2 f => by
 unfold Kv at f;split at f
 ·rename_i n es
  obtain ⟨a, rfl, h1⟩ := r1;obtain ⟨b, zs, rfl, nb, h2, l2⟩ := r2;split at f
  ·rename_i ds q
   split at f
   ·rename_i hl
    obtain ⟨vs, h3, l3⟩ := I.ok n _ a q h1;refine ⟨a, b, vs, zs, rfl, rfl, h3, h2, by rw [l3.len, l2.len]; exact hl, ?_⟩
    exact Ef (v := .ref a) (d' := .cel n) (vs := vs) I q h1 (RepL.append l3 l2) ⟨a, rfl, h1⟩ f
   ·exact f.elim
  ·exact f.elim
 ·exact f.elim
theorem xW {op : Operator} {g : Vl -> Vl -> aO -> Res Vl} {rd : R2} (hop : InOp X op rd) (s : fR X.K rd g) (hu : X.A.units + 64 < cLine) (ho : PE X o (dC X.K W mo)) (hi : PE X i (dC X.K W mi)) (hv : PE X e (dC X.K W mv))
  (ha : ∀ ov iv new, augStore i ov iv new = (do holding [new, ov, iv] (setItem ov iv new); release [new, ov, iv] []; pure .next) := by intro _ _ _; rfl) : PS X (.AugAssign (.Subscript o i tpos) op e pos) (lG X.K W (CS g mo mi mv)) := gH (ps_daug (by omega) ho hi hv hop ha) fun D σ H h => OU s h
theorem Ke : InOp X .Add rExt2 := fun pins s σ H x y u v Q I rx ry h => iop_ext pins s σ H x y u v Q I rx ry h
end
section
variable {X : Cx} {W : WX} {e a b c o i : Expr} {es rest : List Expr} {pos pos' p q p2 tpos apos cpos : Pos} {x y z C f : Str} {K : aD} {ma mb mc mo me mi mv : FE} {mt mu : FT} {mas : FA} {B : Addr -> Prop} {φ φ' : List Addr} {S S' : aO} {H H' : Hp} {σ : L2.St} {Q : VK} {m n : FS} {st : Stmt} {iM : List Stmt} {D : Ends} {t t1 : Tg}
def UA (K : aD) : V -> Hp -> VK -> Prop := fun x H Q => ∃ d : PyData, Dp K H x d /\ d.showable = true /\ d.hasDict = false /\ isDisplay d = true /\ d.depth <= 64 /\ d.shown.length <= sizeLine /\ Q (.str d.shown) H
theorem Nj (hgd : X.A.guards = some []) (hu : X.A.units + 100 < cLine) : CallR X (.type "str") (c1 (UA X.K)) := by
 intro pins s σ H xs us Q I rv h
 match xs, h with
 | [x], h =>
  obtain ⟨d, hd, h1, h2, h3, h4, h5, q⟩ := h;cases rv with
  | cons ru rn =>
   cases rn;obtain ⟨as, r1⟩ := Dp.reads I d x _ hd ru;obtain ⟨a, rfl⟩ := isRef_of_reads r1 h3;exact str_of_reads r1 h1 (PyData.noDict_hsm h2) hgd (by omega) (fun _ _ e => e) (fun h' u tk hk => ⟨.str d.shown, H, I.kept hk, ⟨u, rfl⟩, q⟩) h5
def FC (x : Vl) (S : aO) : Res Vl := match wN S x with
 | some d => if d.showable = true /\ d.hasDict = false /\ isDisplay d = true /\ d.depth <= 64 /\ d.shown.length <= sizeLine then .ok (.dat (.str d.shown)) S else .stuck
 | none => .stuck
theorem s_str : Hf K (UA K) FC := fun {W σ B φ S H x d Q} I r f => by
 unfold FC at f;split at f
 ·rename_i p hp
  split at f
  ·rename_i h
   exact ⟨p, qG I hp r, h.1, h.2.1, h.2.2.1, h.2.2.2.1, h.2.2.2.2, Fin.now f I rfl⟩
  ·exact f.elim
 ·exact f.elim
theorem WQ (hm : X.mg "str" = none) (hr : X.A.units + 100 < cLine) (hgd : X.A.guards = some []) (ha : PE X a (dC X.K W ma)) (hg : Gl X "str" := by rfl) (hs : starEach [a] X.env = [(false, eval a X.env)] := by rfl) : PE X (.Call (.Name "str" p) [a] [] pos) (dC X.K W (m1 FC ma)) :=
 dM (pe_callTy (Nj hgd hr) hg hm (by decide +kernel) (pa_cons ha pa_nil hs) (he := hs)) fun σ H Q h => Bg s_str h
def rInT : R2 := fun x y H Q => ∃ i j, x = .str i /\ y = .str j /\ Q (.bl (!(Builtin.Str.occurrences j i 0 j.length 1).isEmpty)) H
def QY : Vl -> Vl -> aO -> Res Vl
 | .dat (.str i), .dat (.str j), S => .ok (.dat (.bl (!(Builtin.Str.occurrences j i 0 j.length 1).isEmpty))) S
 | _, _, _ => .stuck
theorem s_inT : fR K rInT QY := fun {W σ B φ S H x y d e Q} I r1 r2 f => by
 unfold QY at f;split at f
 ·cases r1; cases r2; exact ⟨_, _, rfl, rfl, Fin.now f I rfl⟩
 ·exact f.elim
def Ph (ds : List PyData) (d : PyData) : Option Nat := (aX ds.length).find? fun j => match ds[j]? with
 | some z => PyData.eqv z d
 | none => false
def A3 (x y : Vl) (S : aO) : Res Vl := match wN S x, wN S y with
 | some (.list ds), some d => if SeqAt.shaped (.list ds) = true /\ SeqAt.shaped d = true then (match Ph ds d with
   | some j => .ok (.dat (.int (j : Int))) S
   | none => .stuck) else .stuck
 | _, _ => .stuck
theorem NM {ds : List PyData} {d : PyData} {j : Nat} (h : Ph ds d = some j) : ∃ z, ds[j]? = some z /\ PyData.eqv z d = true /\ ∀ (m : Nat) (z' : PyData), m < j -> ds[m]? = some z' -> PyData.eqv z' d = false := by
 unfold Ph at h;obtain ⟨h1, as, bs, h2, h3⟩ := Ey.mp h;cases q : ds[j]? with
 | none => rw [q] at h1; cases h1
 | some z =>
  rw [q] at h1;refine ⟨z, rfl, h1, fun m z' hm hz => ?_⟩
  have hj : j < ds.length := (aH.mp q).1;have la : as.length = j := by
   have e : (aX ds.length)[as.length]? = some j := by rw [h2]; simp
   rw [aH] at e;obtain ⟨_, e⟩ := e
   simpa using e
  have hma : m ∈ as := by
   have e : (aX ds.length)[m]? = (as ++ j :: bs)[m]? := by rw [h2]
   rw [mE (by omega), aJ (by omega)] at e
   exact bS e.symm
  have := h3 m hma;rw [hz] at this
  simpa using this
def VI (a b : FE) : FE := fun ρ S => (a ρ S).bind fun x S1 => match pD S1 x with
 | some _ => (b ρ S1).bind fun y S2 => A3 x y S2
 | none => .stuck
theorem TM (hu : X.A.units + 65 < cLine) (ha : PE X a (dC X.K W ma)) (hb : PE X b (dC X.K W mb)) (hs : starEach [b] X.env = (false, eval b X.env) :: starEach [] X.env := by rfl) (hbase : attributeBase a "index" X.env (eval a X.env) = eval a X.env := by rfl) (hline : (apos.endLine == cpos.line) = true := by rfl)
  (hfew : ((backTo cpos (starEach [b] X.env)).all (fun x => !x.1) && (backToKw cpos (keywordEach [] X.env)).all (fun x => x.1.isSome)
   && decide ([b].length + ([] : List Keyword).length + (if ([] : List Keyword).isEmpty then 0 else 1) < 30)) = true := by rfl)
  (hpl : (backTo cpos (starEach ([] : List Expr) X.env)).any (·.1) = false := by rfl) : PE X (.Call (.Attribute a "index" apos) [b] [] cpos) (dC X.K W (VI ma mb)) :=
 dM (pe_bm PySem.F.plainAttrs_list PySem.F.slot_list_index PySem.F.type_list_index (mt_indexD hu) ha (pa_cons hb pa_nil hs) hbase hfew hline hs hpl) fun σ H Q h =>
  cR (k := fun x ρ S1 => match pD S1 x with | some _ => (mb ρ S1).bind fun y S2 => A3 x y S2 | none => .stuck) h fun B φ S ρ d v H1 I E r f => by
   split at f
   ·rename_i ds q
    refine ⟨Qs (e := d) I r ⟨ds, q⟩, jK I E f fun φ' S' d2 v2 H2 I2 X2 E2 r2 f2 => ?_⟩
    obtain ⟨a, vs, rfl, _, _⟩ := lO I q r;have r' := r.ext X2 I;unfold A3 at f2;split at f2
    ·rename_i ps pd h1 h2
     split at f2
     ·rename_i hc
      split at f2
      ·rename_i j hj
       obtain ⟨z, g1, g2, g3⟩ := NM hj;exact ⟨a, v2, pd, ps, j, z, rfl, rfl, qG I2 h1 r', qG I2 h2 r2, hc.1, hc.2, g1, g2, g3, Fin.now f2 I2 rfl⟩
      ·exact f2.elim
     ·exact f2.elim
    ·exact f2.elim
   ·exact f.elim
theorem Kp.plusPutD {a : Addr} {acc : List (Key × V)} {o : HO} (ha : H a = some (.dK acc)) : Kp (kA (gC B a) φ S) H (kA (gC B a) φ S) (upd H a o) :=
 ⟨fun b o' h n => ⟨by
  rw [upd_ne]
  ·exact h
  ·intro e; subst e; exact n (.inl (.inr rfl)), n⟩, fun b w h => by
  have ne : b ≠ a := fun e => by
   subst e;rcases h with h | ⟨o', h⟩
   ·rw [ha] at h; cases h
   ·rw [ha] at h; cases h
  rcases h with h | ⟨o', h⟩
  ·exact .inl (by rw [upd_ne ne]; exact h)
  ·exact .inr ⟨o', by rw [upd_ne ne]; exact h⟩⟩
theorem RepV.plusPutD {a : Addr} {acc : List (Key × V)} {o : HO} (ha : H a = some (.dK acc)) {d : Vl} {v : L2.V} (r : RepV K (gC B a) φ S H d v) : RepV K (gC B a) φ S (upd H a o) d v := by
 have k := Kp.plusPutD (B := B) (φ := φ) (S := S) (o := o) ha;cases d with
 | dat d => exact Rep.kp k d v r
 | cel n => exact r
 | cels ns => obtain ⟨a', as, e1, e2, e3, e4⟩ := r; exact ⟨a', as, e1, (k.old _ _ e3 e2).2, (k.old _ _ e3 e2).1, e4⟩
 | scr ns =>
  obtain ⟨a', e1, e2⟩ := r;refine ⟨a', e1, e2.keep fun o u h => ?_⟩
  rw [upd_ne]
  ·exact h
  ·intro e; subst e; rw [ha] at h; cases h
 | tc xs => obtain ⟨a', vs, e1, e2, e3⟩ := r; exact ⟨a', vs, e1, SqT.kp k.tup e2, e3.kp k (fun _ _ h => h)⟩
theorem RepF.plusPutD {a : Addr} {acc : List (Key × V)} {o : HO} (ha : H a = some (.dK acc)) : ∀ {fs : List (Str × Vl)} {vs : List (Str × L2.V)}, RepF K (gC B a) φ S H fs vs -> RepF K (gC B a) φ S (upd H a o) fs vs
 | [], vs, r => r
 | f :: fs, vs, ⟨v, ws, e, h1, h2⟩ => ⟨v, ws, e, h1.plusPutD ha, RepF.plusPutD ha h2⟩
theorem GInv.plusPutD {a : Addr} {acc : List (Key × V)} {o : HO} (I : GInv K (gC B a) φ S H) (ha : H a = some (.dK acc)) : GInv K (gC B a) φ S (upd H a o) where
 len := I.len
 ok := fun n c b h1 h2 => by
  have q := I.ok n c b h1 h2;have k := Kp.plusPutD (B := B) (φ := φ) (S := S) (o := o) ha;have hb : c ≠ .dead -> upd H a o b = H b := fun hc => upd_ne fun e => by
   subst e;exact I.blk b ⟨n, c, h1, hc, h2⟩ (.inr rfl)
  cases c with
  | dead => trivial
  | lst ds => obtain ⟨vs, e, r⟩ := q; exact ⟨vs, by rw [hb (by simp)]; exact e, RepL.kp k ds vs r⟩
  | ins C fs => obtain ⟨dx, vs, e, r⟩ := q; exact ⟨dx, vs, by rw [hb (by simp)]; exact e, r.plusPutD ha⟩
  | dct fs => obtain ⟨vs, e, r⟩ := q; exact ⟨vs, by rw [hb (by simp)]; exact e, r.plusPutD ha⟩
  | lv xs => obtain ⟨vs, e, r⟩ := q; exact ⟨vs, by rw [hb (by simp)]; exact e, dW (RepV.plusPutD ha) r⟩
  | dki ks xs => obtain ⟨vs, e, r⟩ := q; exact ⟨vs, by rw [hb (by simp)]; exact e, dW (RepV.plusPutD ha) r⟩
  | dkt ks xs => obtain ⟨vs, e, r⟩ := q; exact ⟨vs, by rw [hb (by simp)]; exact e, dW (RepV.plusPutD ha) r⟩
 inj := I.inj
 blk := I.blk
 btr := fun b h => by
  by_cases e : b = a
  ·subst e; exact ⟨o, upd_same⟩
  ·obtain ⟨u, h1⟩ := I.btr b h
   exact ⟨u, by rw [upd_ne e]; exact h1⟩
section
variable {x : Cell} {p : Addr}
theorem cellK (I : GInv K (gC B p) φ S H) : Kp (kA (gC B p) φ S) H (kA B (φ ++ [p]) (S ++ [x])) H := ⟨fun b o h n => ⟨h, fun q => n (by
 rcases q with q | q
 ·exact .inl (.inl q)
 ·rcases (mL I.len).mp q with q | ⟨_, q⟩
  ·exact .inr q
  ·exact .inl (.inr q))⟩, fun _ _ h => h⟩
theorem MG (I : GInv K (gC B p) φ S H) {d : Vl} {v : L2.V} (r : RepV K (gC B p) φ S H d v) : RepV K B (φ ++ [p]) (S ++ [x]) H d v := by
 have k := cellK (x := x) I;have hφ : ∀ (n : Nat) (b : Addr), φ[n]? = some b -> (φ ++ [p])[n]? = some b := fun n b h => by rw [aJ (aH.mp h).1]; exact h
 cases d with
 | dat d => exact Rep.kp k d v r
 | cel n => obtain ⟨b, e1, e2⟩ := r; exact ⟨b, e1, hφ _ _ e2⟩
 | cels ns => obtain ⟨a', as, e1, e2, e3, e4⟩ := r; exact ⟨a', as, e1, (k.old _ _ e3 e2).2, e3, Ac hφ ns as e4⟩
 | scr ns => exact r
 | tc xs => obtain ⟨a', vs, e1, e2, e3⟩ := r; exact ⟨a', vs, e1, SqT.kp k.tup e2, e3.kp k hφ⟩
theorem MH (I : GInv K (gC B p) φ S H) : ∀ {fs : List (Str × Vl)} {vs : List (Str × L2.V)}, RepF K (gC B p) φ S H fs vs -> RepF K B (φ ++ [p]) (S ++ [x]) H fs vs
 | [], vs, r => r
 | f :: fs, vs, ⟨v, ws, e, h1, h2⟩ => ⟨v, ws, e, MG I h1, MH I h2⟩
theorem GInv.toCell (I : GInv K (gC B p) φ S H) (nB : ¬ B p) (hx : Hj K B (φ ++ [p]) (S ++ [x]) H x p) : GInv K B (φ ++ [p]) (S ++ [x]) H where
 len := by simp [I.len]
 ok := fun n c b h1 h2 => by
  have k := cellK (x := x) I
  by_cases hn : n < S.length
  ·rw [aJ hn] at h1
   rw [aJ (by rw [I.len]; exact hn)] at h2
   have q := I.ok n c b h1 h2;cases c with
   | dead => trivial
   | lst es => obtain ⟨us, e, r⟩ := q; exact ⟨us, e, RepL.kp k es us r⟩
   | ins C fs => obtain ⟨dx, us, e, r⟩ := q; exact ⟨dx, us, e, MH I r⟩
   | dct fs => obtain ⟨us, e, r⟩ := q; exact ⟨us, e, MH I r⟩
   | lv xs => obtain ⟨us, e, r⟩ := q; exact ⟨us, e, dW (MG I) r⟩
   | dki ks xs => obtain ⟨us, e, r⟩ := q; exact ⟨us, e, dW (MG I) r⟩
   | dkt ks xs => obtain ⟨us, e, r⟩ := q; exact ⟨us, e, dW (MG I) r⟩
  ·have e : n = S.length := by
    have := (aH.mp h1).1;simp at this;omega
   subst e;rw [bC (cE _)] at h1;rw [<- I.len, bC (cE _)] at h2;simp at h1 h2;subst h1 h2;exact hx
 inj := fun n m c c' b h1 h2 h3 h4 h5 h6 => by
  have na : ¬ nS φ S p := fun q => I.blk p q (.inr rfl)
  have key : ∀ (n : Nat) (c : Cell), (S ++ [x])[n]? = some c -> (n < S.length /\ S[n]? = some c) \/ n = S.length := fun n c h => by
   by_cases hn : n < S.length
   ·rw [aJ hn] at h; exact .inl ⟨hn, h⟩
   ·have := (aH.mp h).1
    simp at this;exact .inr (by omega)
  have kφ : ∀ n : Nat, n < S.length -> (φ ++ [p])[n]? = φ[n]? := fun n hn => aJ (by rw [I.len]; exact hn)
  have kp : (φ ++ [p])[S.length]? = some p := by rw [<- I.len]; simp
  rcases key n c h1 with ⟨hn, e1⟩ | e1 <;> rcases key m c' h3 with ⟨hm, e2⟩ | e2
  ·rw [kφ n hn] at h5
   rw [kφ m hm] at h6;exact I.inj n m c c' b e1 h2 e2 h4 h5 h6
  ·subst e2
   rw [kp] at h6;cases h6;rw [kφ n hn] at h5;exact absurd ⟨n, c, e1, h2, h5⟩ na
  ·subst e1
   rw [kp] at h5;cases h5;rw [kφ m hm] at h6;exact absurd ⟨m, c', e2, h4, h6⟩ na
  ·omega
 blk := fun b h => by
  rcases (mL I.len).mp h with h | ⟨_, h⟩
  ·exact fun q => I.blk b h (.inl q)
  ·subst h; exact nB
 btr := fun b h => I.btr b (.inl h)
end
def mZ : List (Str × FE) -> Ev -> aO -> Res (List (Str × Vl))
 | [], _, S => .ok [] S
 | k :: r, ρ, S => (k.2 ρ S).bind fun v S1 => (mZ r ρ S1).bind fun fs S2 => .ok ((k.1, v) :: fs) S2
def NI (ks : List (Str × FE)) : FE := fun ρ S => match mZ ks ρ S with
 | .ok fs S1 => if (fs.map Prod.fst).Nodup /\ fs.length <= 15 then .ok (.cel S1.length) (S1 ++ [.dct fs]) else .stuck
 | _ => .stuck
theorem FQ : ∀ {ks : List (Str × FE)} {φ : List Addr} {S S1 : aO} {H : Hp} {ρ : Ev} {fs : List (Str × Vl)} {Q : List (V × V) -> Hp -> Prop}, GInv K B φ S H -> RepE K B φ S H ρ σ -> mZ ks ρ S = .ok fs S1 -> (∀ φ1 vs H1, GInv K B φ1 S1 H1 -> Ext φ S H φ1 S1 H1 -> RepF K B φ1 S1 H1 fs vs -> Q (vs.map fun p => (V.str p.1, p.2)) H1) ->
  tPairs (ks.map fun k => (dC K wNo (mC (.str k.1)), dC K wNo k.2)) σ H Q
 | [], φ, S, S1, H, ρ, fs, Q, I, E, h, q => by cases h; exact q φ [] H I Ext.refl rfl
 | k :: r, φ, S, S1, H, ρ, fs, Q, I, E, h, q => by
  unfold mZ at h;cases e1 : k.2 ρ S with
  | stuck => rw [e1] at h; cases h
  | err x S' => rw [e1] at h; cases h
  | ok v S2 =>
   rw [e1] at h;cases e2 : mZ r ρ S2 with
   | stuck => rw [show (Res.ok v S2).bind (fun v S1 => (mZ r ρ S1).bind fun fs S2 => Res.ok ((k.1, v) :: fs) S2) = (mZ r ρ S2).bind fun fs S3 => Res.ok ((k.1, v) :: fs) S3 from rfl, e2] at h; cases h
   | err x S' => rw [show (Res.ok v S2).bind (fun v S1 => (mZ r ρ S1).bind fun fs S2 => Res.ok ((k.1, v) :: fs) S2) = (mZ r ρ S2).bind fun fs S3 => Res.ok ((k.1, v) :: fs) S3 from rfl, e2] at h; cases h
   | ok fs' S3 =>
    rw [show (Res.ok v S2).bind (fun v S1 => (mZ r ρ S1).bind fun fs S2 => Res.ok ((k.1, v) :: fs) S2) = (mZ r ρ S2).bind fun fs S3 => Res.ok ((k.1, v) :: fs) S3 from rfl, e2] at h
    cases h;refine ⟨B, φ, S, ρ, I, E, fun φ0 kv H0 I0 X0 r0 => ?_⟩
    obtain rfl : kv = V.str k.1 := r0;refine ⟨B, φ0, S, ρ, I0, E.ext X0 I, ?_⟩
    rw [e1];intro φ2 v2 H2 I2 X2 r2;refine FQ I2 ((E.ext X0 I).ext X2 I0) e2 fun φ3 vs H3 I3 X3 r3 => ?_
    exact q φ3 ((k.1, v2) :: vs) H3 I3 ((X0.trans X2).trans X3) ⟨v2, vs, rfl, r2.ext X3 I2, r3⟩
theorem Ij : ∀ {ys xs : List (Str × V)}, ((xs ++ ys).map Prod.fst).Nodup -> mergeK (jJ xs) (jJ ys) = jJ (xs ++ ys)
 | [], xs, _ => by rw [cY]; rfl
 | y :: r, xs, h => by
  have hn : ∀ k ∈ jJ xs, k.1 ≠ Sum.inr y.1 := fun k hk q => by
   obtain ⟨u, hu, rfl⟩ := oI.mp hk;have e : u.1 = y.1 := Sum.inr.inj q;rw [cU, aN, List.nodup_append] at h;exact h.2.2 _ (O0 hu) _ (aV ..) e
  have ep : putK (jJ xs) (Sum.inr y.1) y.2 = jJ (xs ++ [y]) := by
   unfold putK;rw [if_neg]
   ·simp [jJ]
   ·intro q
    obtain ⟨k, hk, e⟩ := List.any_eq_true.mp q;exact hn k hk (of_decide_eq_true e)
  have ih := Ij (ys := r) (xs := xs ++ [y]) (by rw [dG]; exact h)
  rw [dG] at ih
  show mergeK (putK (jJ xs) (Sum.inr y.1) y.2) (jJ r) = jJ (xs ++ y :: r)
  rw [ep, ih];rfl
theorem Ra {ks : List (Str × FE)} (h : dC K W (NI ks) σ H Q) : tDisp (ks.map fun k => (dC K wNo (mC (.str k.1)), dC K wNo k.2)) σ H Q := by
 obtain ⟨B, φ, S, ρ, I, E, f⟩ := h;intro p hp;unfold NI at f;cases e : mZ ks ρ S with
 | stuck => rw [e] at f; exact f.elim
 | err x S' => rw [e] at f; exact f.elim
 | ok fs S1 =>
  rw [e] at f;dsimp only at f;split at f
  ·rename_i hc
   have nB : ¬ B p := fun q => by obtain ⟨u, e⟩ := I.btr p q; rw [hp] at e; cases e
   have IA : GInv K (gC B p) φ S (upd H p (.dK [])) := I.plus hp;refine FQ IA (E.plus I hp) e fun φ1 vs H1 I1 X1 r1 => ?_
   have hp1 : H1 p = some (.dK []) := (X1.old p _ upd_same fun q => IA.blk p q (.inr rfl)).1
   have I2 : GInv K (gC B p) φ1 S1 (upd H1 p (.dK (jJ vs))) := I1.plusPutD hp1;have r2 : RepF K (gC B p) φ1 S1 (upd H1 p (.dK (jJ vs))) fs vs := r1.plusPutD hp1;refine ⟨hp1, jJ vs, by simp [jJ, kV], by rw [PR, r1.len]; exact hc.2, ?_⟩
   have em : mergeK [] (jJ vs) = jJ vs := by
    have := Ij (xs := []) (ys := vs) (by rw [bT, r1.fsts]; exact hc.1)
    exact this
   rw [em];refine f (φ1 ++ [p]) (.ref p) _ (I2.toCell nB ⟨vs, upd_same, MH I2 r2⟩) ⟨fun b o hb nb => ?_, fun n b hb => ?_⟩ ⟨p, rfl, by rw [<- I1.len]; exact pL⟩
   ·have ne : b ≠ p := fun q => by subst q; rw [hp] at hb; cases hb
    obtain ⟨h1, h2⟩ := X1.old b o (by rw [upd_ne ne]; exact hb) nb
    refine ⟨by rw [upd_ne ne]; exact h1, fun q => ?_⟩
    rcases (mL I1.len).mp q with q | ⟨_, q⟩
    ·exact h2 q
    ·exact ne q
   ·have := X1.ids n b hb
    rw [aJ (aH.mp this).1]; exact this
  ·exact f.elim
theorem TJ : PPs X pos [] [] (([] : List (Str × FE)).map fun k => (dC X.K wNo (mC (.str k.1)), dC X.K wNo k.2)) := pps_nil
theorem rX {k : Str} {ek v : Expr} {ks : List (Option Expr)} {vs : List Expr} {mv : FE} {r : List (Str × FE)} (hk : PE X ek (dC X.K wNo (mC (.str k)))) (hv : PE X v (dC X.K wNo mv)) (hr : PPs X pos ks vs (r.map fun k => (dC X.K wNo (mC (.str k.1)), dC X.K wNo k.2))) :
  PPs X pos (some ek :: ks) (v :: vs) (((k, mv) :: r).map fun k => (dC X.K wNo (mC (.str k.1)), dC X.K wNo k.2)) := pps_cons hk hv hr
theorem WS {keys : List (Option Expr)} {values : List Expr} {r : List (Str × FE)} (h : PPs X pos keys values (r.map fun k => (dC X.K wNo (mC (.str k.1)), dC X.K wNo k.2))) (hall : keys.all (·.isSome) = true := by rfl) (hl : keys.length = values.length := by rfl) (h0 : keys ≠ [] := by simp) (h15 : keys.length <= 15 := by decide) : PE X (.Dict keys values pos) (dC X.K W (NI r)) :=
 dM (pe_disp h hall hl h0 h15) fun σ H Q h => Ra h
end
theorem st_hu {k : Nat} {A : Around} (r : Room k A) : A.units + 100 < cLine := by have := r.un; omega
section
variable {o i v a b : FE} {ρ : Ev} {S : aO} {x y d u w : Vl} {g : Vl -> Vl -> aO -> Res Vl}
def xU (ρ : Ev) (d x y : Vl) (S : aO) : Out := match IE S x y d with
 | some S4 => .next ρ S4
 | none => .stuck
def KS (i : FE) (ρ : Ev) (d x : Vl) (S : aO) : Out := (i ρ S).toS ρ (xU ρ d x)
def PY (o i : FE) (ρ : Ev) (d : Vl) (S : aO) : Out := (o ρ S).toS ρ (KS i ρ d)
theorem WG : E9 o i v ρ S = (v ρ S).toS ρ (PY o i ρ) := rfl
theorem QD : PY o i ρ d S = (o ρ S).toS ρ (KS i ρ d) := rfl
theorem QC : KS i ρ d x S = (i ρ S).toS ρ (xU ρ d x) := rfl
def HD (g : Vl -> Vl -> aO -> Res Vl) (ρ : Ev) (x y u w : Vl) (S : aO) : Out := match g u w S with
 | .ok z S4 => (match IE S4 x y z with
  | some S5 => .next ρ S5
  | none => .stuck)
 | _ => .stuck
def xV (g : Vl -> Vl -> aO -> Res Vl) (v : FE) (ρ : Ev) (x y : Vl) (S : aO) : Out := match dJ x y S with
 | .ok u _ => (v ρ S).toS ρ (HD g ρ x y u)
 | _ => .stuck
def PZ (g : Vl -> Vl -> aO -> Res Vl) (i v : FE) (ρ : Ev) (x : Vl) (S : aO) : Out := (i ρ S).toS ρ (xV g v ρ x)
theorem WH : CS g o i v ρ S = (o ρ S).toS ρ (PZ g i v ρ) := rfl
theorem QE : PZ g i v ρ x S = (i ρ S).toS ρ (xV g v ρ x) := rfl
def kIdx (b : FE) (ρ : Ev) (x : Vl) (S : aO) : Res Vl := match pD S x with
 | some _ => (b ρ S).bind (A3 x)
 | none => .stuck
theorem g_idx : VI a b ρ S = (a ρ S).bind (kIdx b ρ) := rfl
theorem W5 {ds : List PH.D} : kIdx b ρ (.dat (.lst ds)) S = (b ρ S).bind (A3 (.dat (.lst ds))) := rfl
theorem g_inT {z y : Str} : QY (.dat (.str z)) (.dat (.str y)) S = .ok (.dat (.bl (!(Builtin.Str.occurrences y z 0 y.length 1).isEmpty))) S := rfl
theorem C5 {n : Nat} {k : Str} {fs : List (Str × Vl)} (h : S[n]? = some (.dct fs)) (hl : fs.length < 1000) (hn : (fs.map Prod.fst).Nodup) : IE S (.cel n) (.dat (.str k)) d = some (S.set n (.dct (pE k d fs))) := by
 unfold IE;dsimp only;rw [h];exact if_pos ⟨hl, hn⟩
theorem nJ {n : Nat} {k : Str} {fs : List (Str × Vl)} (h : S[n]? = some (.dct fs)) (hl : fs.lookup k = some d) : dJ (.cel n) (.dat (.str k)) S = .ok d S := by
 unfold dJ;dsimp only;rw [h];dsimp only;rw [hl]
end
def uU := aF @WG (aF @QD (aF @QC (aF @WH (aF @QE (aF @g_idx (aF @W5 @g_inT))))))
def isNone {α : Type} : Option α -> Bool
 | none => true
 | some _ => false
end PH
namespace L2
open PySem PySem.Spec PyProof.Rows GenW
section
variable {prog : Program} {w : World} {A : Around} {E : Value -> Shared -> Prop} {s : Shared}
theorem Bf {it l : Addr} {i : Nat} {items : Array Value} {x : Value} {Q : Option Value -> Shared -> Prop} (hit : s.heap.get? it = some (GNX.itObj l i)) (hl : s.heap.IsList l items) (hx : items[i]? = some x)
  (hQ : ∀ h', h'.get? it = some (GNX.itObj l (i + 1)) -> Heap.SameBut it s.heap h' -> Q (some x) { s with heap := h' }) : wpAny (model prog w) A (callSpecial? (.ref it) "__next__") Q E s :=
 wpAny_callSpecial?_slot (name := Str.ofString "__next__") (show s.heap.IsListIter it l i from ⟨_, hit, rfl, rfl⟩).typeIs slot_listiter_next
  (wpAny_call_entry slot_listiter_next (show s.heap.IsListIter it l i from ⟨_, hit, rfl, rfl⟩).typeIs entry_listiter_next (GNX.next_item hit hl hx fun h' e sb => hQ h' e sb) (args_listiter_next _))
theorem Ck {it l : Addr} {i : Nat} {items : Array Value} {Q : Option Value -> Shared -> Prop} (hh : A.handled = none) (ho : s.heap.get? it = some (GNX.itObj l i)) (hl : s.heap.IsList l items) (hx : items[i]? = none)
  (hE : ∀ e h', StopX e h' -> Heap.ExtBut it s.heap h' -> E e { s with heap := h' }) : wpAny (model prog w) A (callSpecial? (.ref it) "__next__") Q E s := by
 obtain ⟨ol, hol, _, nl, hdl⟩ := hl;refine wpAny_callSpecial?_slot (name := Str.ofString "__next__") (show s.heap.IsListIter it l i from ⟨_, ho, rfl, rfl⟩).typeIs slot_listiter_next (wpAny_call_entry slot_listiter_next (show s.heap.IsListIter it l i from ⟨_, ho, rfl, rfl⟩).typeIs entry_listiter_next ?_ (args_listiter_next _))
 show wpAny _ _ (field (.ref it) 0 >>= _) _ _ s
 refine wpAny_bind (wpAny_field ho rfl (x := .ref l) rfl ?_)
 show wpAny _ _ (if (Value.ref l == Value.none) = true then _ else _) _ _ s
 rw [if_neg (show ¬ ((Value.ref l == Value.none) = true) from gP)]
 show wpAny _ _ (field (.ref it) 1 >>= _) _ _ s
 refine wpAny_bind (wpAny_field ho rfl (x := .int i 0) rfl ?_)
 show wpAny _ _ (seqItems? (.ref l) >>= _) _ _ s
 refine wpAny_bind (wpAny_seqItems hol hdl ?_)
 simp only [kU, hx];refine wpAny_bind (wpAny_rule (wpAny_bind (wpAny_setField ho rfl (by simp) ?_)))
 show wpAny _ _ (newExc (.type "StopIteration") [] >>= _) _ _ _
 refine wpAny_bind ?_
 simp only [newExc, newTuple];refine wpAny_bind (wpAny_newObj_type ?_ (by size_fits))
 refine wpAny_bind (m := firstArgMember _ _) (wpAny_of_eq (a := Value.none) (by first | rfl | (simp only [firstArgMember]; rfl)) ?_)
 refine wpAny_newObj_type ?_ (by size_fits)
 simp only [raiseNew];refine wpAny_bind (wpAny_handled ?_)
 first | rw [show A.in1.handled = none from hh] | rw [hh]
 refine wpAny_bind (wpAny_pure (wpAny_throw ?_))
 refine hE _ _ ⟨_, _, _, rfl, Heap.get?_push_size _ rfl, rfl, rfl, ?_⟩ (((Heap.SameBut.update ..).extBut.push _).push _)
 first
  | rfl
  | (rw [Array.getElem?_append_left (by decide)]; rfl)
  | kernel_rfl
end
theorem Ni : typeLookup (.type "list_iterator") "close" = pure none := by rw [typeLookup_type, builtinLookup_eq_fast]; kernel_rfl
end L2
namespace PH
open PySem PySem.Spec PyProof.Rows L2
abbrev L5 := Ev -> aO -> Res (List PH.D)
abbrev Ny := List Vl -> aO -> Res (List PH.D)
section
variable {X : Cx} {W : WX} {e a : Expr} {es : List Expr} {rest iM : List Stmt} {st : Stmt} {pos p yp : Pos} {x kw : Str} {K : aD} {ma me : FE} {mas : FA} {B : Addr -> Prop} {φ φ' : List Addr} {S S' : aO} {H H' : Hp} {σ : L2.St} {Q : VK} {m : FS} {n : L5}
def kYf (x : Vl) (S : aO) : Res (List PH.D) := match x with
 | .dat (.lst zs) => if zs.length <= 1000000 then .ok zs S else .stuck
 | _ => .stuck
def mYf (me : FE) : L5 := fun ρ S => (me ρ S).bind kYf
def Oi (n np : Nat) (mb : L5) : Ny := fun ds S => if ds.length = np then mb (envOf n ds) S else .stuck
end
section
variable {ρ : Ev} {S : aO} {m : FS} {n : L5} {me ma : FE} {mas : FA} {md : Ny}
theorem g_yf : mYf me ρ S = (me ρ S).bind kYf := rfl
end
end PH
namespace L2
open PySem PySem.Spec PyProof.Rows GenW
abbrev Cp := End -> Shared -> Prop
def dR (M : Model) (A : Around) (F : Cp) (c : Code) (t : Sem PySem.Fin) (fs : List Frame) (s : Shared) : Prop :=
 ∀ Γ p, Γ.code = c -> Γ.Woken A -> ∃ e s', Runs M Γ p t fs s e s' /\ F e s'
section
variable {M : Model} {A : Around} {F F' : Cp} {c : Code} {t : Sem PySem.Fin} {fs : List Frame} {s : Shared}
theorem yN {α : Type} {m : Sem α} {K : α -> Sem PySem.Fin} {J : Value -> Sem PySem.Fin} {gd : Bool -> Bool} {lv : List Value -> List Value}
  (h : wpAny M (A.over c fs) m (fun a s' => dR M A F c (K a) fs s') (fun x s' => dR M A F c (J x) fs s') s) : dR M A F c (m.wrap K J gd lv) fs s := by
 rintro Γ p rfl hΓ
 exact runs_wrap_of_wp K J gd lv m (h (Γ.over fs) p (hΓ.over fs)) (fun a p' s' q => q Γ p' rfl hΓ) (fun x p' s' q => q Γ p' rfl hΓ)
theorem gJ {α : Type} {m : Sem α} {K : α -> Sem PySem.Fin} (h : wpAny M (A.over c fs) m (fun a s' => dR M A F c (K a) fs s') (fun x s' => dR M A F c (.raise x) fs s') s) : dR M A F c (m >>= K) fs s := by
 rw [Sem.bind_eq_wrap']; exact yN h
theorem DO {α β : Type} {m : Sem α} {f : α -> Sem β} {K : β -> Sem PySem.Fin} {J : Value -> Sem PySem.Fin} {gd : Bool -> Bool} {lv : List Value -> List Value}
  (h : wpAny M (A.over c fs) m (fun a s' => dR M A F c ((f a).wrap K J gd lv) fs s') (fun x s' => dR M A F c (J x) fs s') s) : dR M A F c ((m >>= f).wrap K J gd lv) fs s := by
 rw [Sem.bind_eq_wrap', Sem.wrap_wrap]; exact yN h
theorem Me {α β γ : Type} {m : Sem α} {f : α -> Sem β} {f2 : β -> Sem γ} {K : γ -> Sem PySem.Fin} {J : Value -> Sem PySem.Fin} {gd : Bool -> Bool} {lv : List Value -> List Value}
  (h : wpAny M (A.over c fs) m (fun a s' => dR M A F c ((f a).wrap (fun b => (f2 b).wrap K J gd lv) J gd lv) fs s') (fun x s' => dR M A F c (J x) fs s') s) : dR M A F c (((m >>= f) >>= f2).wrap K J gd lv) fs s := by
 rw [Sem.bind_eq_wrap' (m >>= f) f2, Sem.wrap_wrap]; exact DO h
theorem U4 {p' : Pos} {k : Unit -> Sem PySem.Fin} (h : dR M A F c (k ()) fs s) : dR M A F c (.at p' k) fs s :=
 yN (m := standAt p') (K := k) (J := .raise) (gd := id) (lv := id) (wpAny_standAt h)
theorem OD {l : List Value} {k : Unit -> Sem PySem.Fin} (h : dR M A F c (k ()) fs s) : dR M A F c (.point l k) fs s :=
 yN (m := point) (K := k) (J := .raise) (gd := id) (lv := fun _ => l) (wpAny_point h)
theorem RN {c' : Code} {g : Bool} {l : List Value} {k : Result -> Sem PySem.Fin} (hc : ∀ p, dR M A F c' (M.den c') (.ret k none g l c p [] :: fs) s) : dR M A F c (.call c' none g l k) fs s := by
 rintro Γ p rfl hΓ
 obtain ⟨e, s', hr, he⟩ := hc p (Γ.goto c') p rfl (hΓ.goto c');exact ⟨e, s', runs_call_seg hr, he⟩
theorem LK {k : Result -> Sem PySem.Fin} {g : Bool} {l kp : List Value} {c₁ : Code} {p₁ : Pos} (r : Result) (hk : dR M A F c₁ (k r) fs s) : dR M A F c (leafOf r) (.ret k none g l c₁ p₁ kp :: fs) s := by
 rintro Γ p rfl hΓ
 obtain ⟨e, s', hr, he⟩ := hk (Γ.goto c₁) p₁ rfl (hΓ.goto c₁);exact ⟨e, s', Runs.pop r hr, he⟩
theorem OF {c' : Code} (hq : c'.quiet = true) (hc : dR M A F c' (M.den c') fs s) : dR M A F c (.pure (.again c')) fs s := by
 rintro Γ p rfl hΓ
 obtain ⟨e, s', hr, he⟩ := hc (Γ.goto c') p rfl (hΓ.goto c');exact ⟨e, s', Runs.head (c₁ := c') (fun _ _ x => .again hq x) hr, he⟩
theorem OE (r : Result) (h : F (.ret r) s) : dR M A F c (leafOf r) [] s := by
 rintro Γ p rfl _
 exact ⟨.ret r, s, Runs.leaf r, h⟩
theorem OC {v : Value} {g : Bool} {l : List Value} {k : Resume -> Sem PySem.Fin} (hfs : splitAtGen fs = none) (h : ∀ p, F (.susp v g l k c p fs) s) : dR M A F c (.yield v g l k) fs s := by
 rintro Γ p rfl _
 exact ⟨_, s, Runs.yield' fs hfs, h p⟩
def MP (M : Model) (A : Around) (F : Cp) (gs : GenState) (s : Shared) : Prop := match gs with
 | .fresh c => dR M A F c (M.den c) [] s
 | .suspended k _ c _ fs _ => dR M A F c (k (.send .none)) fs s
 | _ => False
theorem Ez {E : Value -> Shared -> Prop} {g : Nat} {gs : GenState} {l : List Value} {α : Type} {k : GenResult -> Sem α} {Q : α -> Shared -> Prop} (hg : s.gens[g]? = some gs)
  (hgo : MP M A F gs (s.setGen g .running)) (hF : ∀ e s₁, F e s₁ -> e.quiet = true /\ wpAny M A (k e.result) Q E (s₁.setGen g e.genState)) : wpAny M A (.resume g (.send .none) l k) Q E s := by
 intro Γ p hΓ;rw [Sem.wp_resume];have hB : ∀ c, (Γ.wake c p).Woken A := fun c => hΓ.wake c p
 cases gs with
 | fresh c =>
  obtain ⟨e₁, s₁, hr, he⟩ := hgo (Γ.wake c p) p rfl (hB c);exact ⟨_, _, by unfold Wakes; rw [hg]; exact ⟨e₁, s₁, hr, (hF e₁ s₁ he).1, rfl, rfl⟩, (hF e₁ s₁ he).2 Γ p hΓ⟩
 | suspended k₀ l₀ c₀ p₀ fs₀ cl =>
  obtain ⟨e₁, s₁, hr, he⟩ := hgo (Γ.wake c₀ p) p₀ rfl (hB c₀);exact ⟨_, _, by unfold Wakes; rw [hg]; exact ⟨e₁, s₁, hr, (hF e₁ s₁ he).1, rfl, rfl⟩, (hF e₁ s₁ he).2 Γ p hΓ⟩
 | running => exact hgo.elim
 | finished => exact hgo.elim
end
section
variable {P : Program} {w : World} {A : Around} {E : Value -> Shared -> Prop} {s : Shared}
def NextT (P : Program) (w : World) (a : Addr) (g : Nat) (Q : Option Value -> Shared -> Prop) (E : Value -> Shared -> Prop) (e : End) (s₁ : Shared) : Prop := match e with
 | .ret r => ((r = .ok (.ret .none) \/ r = .ok .next) /\ ∀ h', (∀ b o, s₁.heap.get? b = some o -> h'.get? b = some o) -> Q none { s₁.setGen g .finished with heap := h' }) \/
   ∃ x, r = .error x /\ s₁.heap.IsGen a g /\ NotStop (model P w) x s₁.heap /\ E x (s₁.setGen g .finished)
 | .susp v g0 l k c p fs => (End.susp v g0 l k c p fs).quiet = true /\ Q (some v) (s₁.setGen g (End.susp v g0 l k c p fs).genState)
theorem P0 {a : Addr} {g : Nat} {gs : GenState} {F : Cp} {Q : Option Value -> Shared -> Prop} (hh : A.handled = none)
  (hl : s.heap.NoLimit) (hroom : A.depth < recursionLimit) (hg : s.heap.IsGen a g) (hgs : s.gens[g]? = some gs)
  (hgo : MP (model P w) A.in1 F gs (s.setGen g .running)) (hF : ∀ e s₁, F e s₁ -> NextT P w a g Q E e s₁) : wpAny (model P w) A (pyNext (.ref a)) Q E s := by
 unfold pyNext;refine wpAny_bind (wpAny_attempt (wpAny_callSpecial?_slot (name := Str.ofString "__next__") hg.typeIs slot_gen_next (wpAny_call_entry slot_gen_next hg.typeIs entry_gen_next ?_ (args_gen_next _))))
 show wpAny _ A.in1 (Builtin.Generator.genWake (.ref a) (.send .none)) _ _ s
 unfold Builtin.Generator.genWake;refine wpAny_bind (wpAny_holding (wpAny_genNumber hg (wpAny_bind (wpAny_genState hgs ?_))))
 cases gs with
 | running => exact hgo.elim
 | finished => exact hgo.elim
 | _ =>
  refine wpAny_bind (wpAny_roomToWake hl hroom ?_)
  show wpAny _ A.in1 (.resume g (.send .none) [] _) _ _ s
  refine Ez hgs hgo (fun e s₁ hx => ?_)
  have hn := hF e s₁ hx;cases e with
  | susp v g0 l k c p fs =>
   obtain ⟨q, hv⟩ := hn;exact ⟨q, wpAny_pure ⟨v, rfl, wpAny_pure hv⟩⟩
  | ret x =>
   refine ⟨rfl, ?_⟩
   rcases hn with ⟨hr, hp⟩ | ⟨e, rfl, hg1, hns, hq⟩
   ·have hres : End.result (.ret x) = .returned .none := by
     rcases hr with hr | hr <;> rw [hr] <;> rfl
    first | rw [hres] | simp only [hres]
    show wpAny _ A.in1 (newExc (.type "StopIteration") [] >>= _) _ _ _
    refine wpAny_bind ?_
    simp only [newExc, newTuple];refine wpAny_bind (wpAny_newObj_type ?_ (by size_fits))
    refine wpAny_bind (m := firstArgMember _ _) (wpAny_of_eq (a := Value.none) (by first | rfl | (simp only [firstArgMember]; rfl)) ?_)
    refine wpAny_newObj_type ?_ (by size_fits)
    simp only [raiseNew];refine wpAny_bind (wpAny_bind (wpAny_handled ?_))
    first | rw [show A.in1.handled = none from hh] | rw [hh]
    refine wpAny_throw ?_
    refine wpAny_bind (wpAny_isInstance (T := "StopIteration") (b := true) ⟨_, Heap.get?_push_size _ rfl, rfl⟩ isSubtype_stop ?_)
    exact wpAny_pure (hp _ fun b o hb => Heap.get?_push_of_some _ (Heap.get?_push_of_some _ hb))
   ·obtain ⟨o, nm, qn, ho, hc, hd, hsl⟩ := hg1
    show wpAny _ A.in1 (Builtin.Generator.genLeft (.ref a) e) _ _ _
    unfold Builtin.Generator.genLeft Builtin.Generator.madeByALambda;refine wpAny_bind (wpAny_bind (wpAny_load (o := o) ho (wpAny_pure ?_)))
    refine wpAny_bind (hns _ _ _ _ rfl ?_)
    rw [Hk, if_neg gP];unfold Builtin.Generator.genEscaped
    first
     | refine wpAny_bind (hns _ _ _ _ rfl ?_)
     | refine wpAny_bind (wpAny_pure (wpAny_bind (hns _ _ _ _ rfl ?_)))
    rw [if_pos (show (!false) = true from rfl)]
    first
     | refine wpAny_throw ?_
     | refine wpAny_bind (wpAny_throw ?_)
    refine wpAny_bind (hns _ _ _ _ rfl ?_)
    rw [if_neg gP];exact wpAny_throw hq
end
def KB (it : Addr) (s s' : Shared) : Prop := s'.os = s.os /\ s'.gens = s.gens /\ ∀ b o, b ≠ it -> s.heap.get? b = some o -> s'.heap.get? b = some o
def FR (M : Model) (A : Around) (it a : Addr) (its : Array Value) : Nat -> Shared -> Cp
 | 0, s => fun e s' => e = .ret (.ok (.ret .none)) /\ KB it s s'
 | r + 1, s => fun e s' => match e with
  | .ret _ => False
  | .susp v g l k c p fs => (End.susp v g l k c p fs).quiet = true /\ its[its.size - (r + 1)]? = some v /\ KB it s s' /\ s'.heap.get? it = some (GNX.itObj a (its.size - r)) /\
    ∀ s'' : Shared, s''.heap.get? it = some (GNX.itObj a (its.size - r)) -> s''.heap.IsList a its -> dR M A (FR M A it a its r s'') c (k (.send .none)) fs s''
abbrev Jy (it : Addr) : Code := .builtin "proto.yield_from" ⟨[.ref it, .bool false, .none], []⟩
section
variable {P : Program} {w : World} {A : Around} {F : Cp} {fs : List Frame} {s : Shared} {it a : Addr} {its : Array Value} {j : Nat} {x : Value}
theorem MD {it : Value} : (model P w).den (.builtin "proto.yield_from" ⟨[it, .bool false, .none], []⟩) = Builtin.«proto.yield_from» ⟨[it, .bool false, .none], []⟩ := by
 show (match entryFor table "proto.yield_from" with | some b => b ⟨[it, .bool false, .none], []⟩ | none => unsupported ((withoutEnding? "proto.yield_from" "#data").getD "proto.yield_from")) = _
 rw [entry_yf]
theorem Ka : typeLookup (.type "list_iterator") "close" = pure none := Ni
theorem LG (hsp : splitAtGen fs = none) (hgd : fs.any Frame.guarded = false) (hit : s.heap.get? it = some (GNX.itObj a j)) (hl : s.heap.IsList a its) (hx : its[j]? = some x)
  (hF : ∀ h' l k p, h'.get? it = some (GNX.itObj a (j + 1)) -> Heap.SameBut it s.heap h' -> (End.susp x false l k (Jy it) p fs).quiet = true ->
   (∀ (F' : Cp) (s'' : Shared), s''.heap.get? it = some (GNX.itObj a (j + 1)) -> dR (model P w) A F' (Jy it) ((model P w).den (Jy it)) fs s'' -> dR (model P w) A F' (Jy it) (k (.send .none)) fs s'') ->
   F (.susp x false l k (Jy it) p fs) { s with heap := h' }) :
  dR (model P w) A F (Jy it) ((model P w).den (Jy it)) fs s := by
 rw [MD];unfold Builtin.«proto.yield_from»
 try dsimp only
 refine gJ (wpAny_pure ?_)
 try dsimp only
 refine gJ (wpAny_attempt (wpAny_holding ?_))
 rw [if_neg gP, if_pos (show (Value.none == Value.none) = true from rfl)]
 refine wpAny_bind (wpAny_rule (wpAny_bind ?_))
 refine Bf hit hl hx fun h' q1 hs => ?_
 refine wpAny_pure ?_
 try dsimp only
 refine gJ (wpAny_typeOf (T := "list_iterator") ⟨_, q1, rfl⟩ ?_)
 try dsimp only
 first
  | (refine gJ (wpAny_of_eq Ka ?_); refine gJ (wpAny_pure ?_))
  | refine gJ (wpAny_bind (wpAny_of_eq Ka (wpAny_pure ?_)))
  | refine gJ (wpAny_of_eq Ka ?_)
 try dsimp only
 refine gJ (wpAny_sleptOver q1 rfl (by decide) ?_)
 refine OC hsp fun p => ?_
 refine hF h' _ _ p q1 hs (by simp [End.quiet, hgd]) fun F' s'' q2 hd => ?_
 show dR _ _ _ _ (Builtin.Generator.sleptOver (.ref it) false >>= fun _ => _) fs s''
 refine gJ (wpAny_sleptOver q2 rfl (by decide) ?_)
 try dsimp only
 refine gJ (wpAny_pure ?_)
 exact OF (plainId_quiet plain_yf _) hd
theorem O1 (ho : (A.over (Jy it) fs).handled = none) (hit : s.heap.get? it = some (GNX.itObj a j)) (hl : s.heap.IsList a its) (hx : its[j]? = none)
  (hF : ∀ h', (∀ b o, b ≠ it -> s.heap.get? b = some o -> h'.get? b = some o) -> dR (model P w) A F (Jy it) (.pure (.done (.ret .none))) fs { s with heap := h' }) :
  dR (model P w) A F (Jy it) ((model P w).den (Jy it)) fs s := by
 rw [MD];unfold Builtin.«proto.yield_from»
 try dsimp only
 refine gJ (wpAny_pure ?_)
 try dsimp only
 refine gJ (wpAny_attempt (wpAny_holding ?_))
 rw [if_neg gP, if_pos (show (Value.none == Value.none) = true from rfl)]
 refine wpAny_bind (wpAny_rule (wpAny_bind ?_))
 refine Ck ho hit hl hx fun e h' hS hk => ?_
 obtain ⟨c, o, vs, rfl, hoa, hcls, hdat, h5⟩ := hS
 try dsimp only
 refine gJ (wpAny_endsTurn hoa hcls ?_)
 try dsimp only
 rw [if_pos rfl]
 first
  | refine gJ (wpAny_rule ?_)
  | (rw [if_neg gP]; refine gJ (wpAny_rule ?_))
  | (rw [if_neg gP]; refine gJ (wpAny_pure ?_); refine gJ (wpAny_rule ?_))
 refine gJ (wpAny_field hoa hdat h5 ?_)
 exact hF h' fun b o hb e => hk b o hb e
theorem RH (hsp : splitAtGen fs = none) (hgd : fs.any Frame.guarded = false) (ho : (A.over (Jy it) fs).handled = none)
  (hfin : ∀ (F' : Cp) (s' : Shared), F' (.ret (.ok (.ret .none))) s' -> dR (model P w) A F' (Jy it) (.pure (.done (.ret .none))) fs s') :
  ∀ (r : Nat), r <= its.size -> ∀ s : Shared, s.heap.get? it = some (GNX.itObj a (its.size - r)) -> s.heap.IsList a its -> dR (model P w) A (FR (model P w) A it a its r s) (Jy it) ((model P w).den (Jy it)) fs s := by
 intro r
 induction r with
 | zero =>
  intro _ s hit hl;refine O1 ho hit hl (by simp) fun h' hk => hfin _ _ ⟨rfl, rfl, rfl, hk⟩
 | succ r ih =>
  intro hr s hit hl;have hj : its.size - (r + 1) < its.size := by omega
  obtain ⟨x, hx⟩ : ∃ x, its[its.size - (r + 1)]? = some x := ⟨its[its.size - (r + 1)], by simp [hj]⟩
  have e : its.size - (r + 1) + 1 = its.size - r := by omega
  refine LG hsp hgd hit hl hx fun h' l k p q1 hs hq hres => ?_
  rw [e] at q1 hres;exact ⟨hq, hx, ⟨rfl, rfl, fun b o hb eb => hs.extBut b o hb eb⟩, q1, fun s'' q2 hl2 => hres _ s'' q2 (ih (by omega) s'' q2 hl2)⟩
theorem RM {body : List Stmt} {env : Env}
  (h : dR (model P w) A F (.func body env) ((execs body env).wrap (fun f => .pure (.done (.ret (match f with | .ret v => v | _ => .none)))) (fun e => (leaving env e).wrap (fun _ => .raise e) .raise id id) id id) fs s) :
  dR (model P w) A F (.func body env) ((model P w).den (.func body env)) fs s := by
 show dR _ A F _ (.point [] fun _ => ((execs body env).onRaise (leaving env)) >>= _) fs s
 refine OD ?_
 rw [Sem.onRaise_eq_wrap, Sem.bind_eq_wrap', Sem.wrap_wrap];rw [Sem.wrap_congr (execs body env) _ _ (K' := fun f => .pure (.done (.ret (match f with | .ret v => v | _ => .none)))) (H' := fun e => (leaving env e).wrap (fun _ => .raise e) .raise id id) (fun f => by cases f <;> rfl)
  (fun e => by rw [Sem.bind_eq_wrap, Sem.wrap_wrap]; rfl)]
 exact h
end
structure GCt (X : Cx) (A : Around) (c : Code) (fs : List Frame) (gd : Bool -> Bool) : Prop where
 over : A.over c fs = X.A
 split : splitAtGen fs = none
 guard : fs.any Frame.guarded = false
 gd : gd false = false
abbrev TQ := Addr -> List V -> Hp -> Prop
structure GKt (X : Cx) (A : Around) (F : Cp) (c : Code) (fs : List Frame) (K : Flow -> Sem PySem.Fin) (J : Value -> Sem PySem.Fin) (Q : TQ) : Prop where
 exc : ∀ (x : Value) (s : Shared), X.xe x s -> dR (model X.prog X.w) A F c (J x) fs s
 fin : ∀ (F' : Cp) (s : Shared), F' (.ret (.ok (.ret .none))) s -> dR (model X.prog X.w) A F' c (K .next) fs s
 end0 : ∀ (a : Addr) (σ : St) (H : Hp) (s : Shared), Inv X [] σ H s -> H a = some (.lst []) -> Q a [] H -> F (.ret (.ok (.ret .none))) s
 first : ∀ (v : Value) (l : List Value) (k : Resume -> Sem PySem.Fin) (c' : Code) (p : Pos) (fs' : List Frame) (it a : Addr) (its : Array Value) (ws : List V) (σ : St) (H : Hp) (s : Shared), (End.susp v false l k c' p fs').quiet = true -> Inv X [] σ H s -> H a = some (.lst ws) ->
  s.heap.IsList a its -> X.s_0.heap.objs.size <= it -> H it = none -> s.heap.get? it = some (GNX.itObj a 1) -> its[0]? = some v -> Q a ws H ->
  (∀ s'' : Shared, s''.heap.get? it = some (GNX.itObj a 1) -> s''.heap.IsList a its -> dR (model X.prog X.w) A (FR (model X.prog X.w) A it a its (its.size - 1) s'') c' (k (.send .none)) fs' s'') -> F (.susp v false l k c' p fs') s
abbrev TY := TQ -> St -> Hp -> Prop
structure YSs (X : Cx) (iM : List Stmt) (t : TY) : Prop where
 run : ∀ (A : Around) (F : Cp) (c : Code) (fs : List Frame) (K : Flow -> Sem PySem.Fin) (J : Value -> Sem PySem.Fin) (gd : Bool -> Bool) (lv : List Value -> List Value) (s : Shared) (σ : St) (H : Hp) (Q : TQ), GCt X A c fs gd -> GKt X A F c fs K J Q -> Inv X [] σ H s -> t Q σ H ->
  dR (model X.prog X.w) A F c ((execs iM X.env).wrap K J gd lv) fs s
section
variable {X : Cx} {st : Stmt} {rest : List Stmt} {e : Expr} {te : TE} {yp pos : Pos}
theorem MN {t u : TY} (h : YSs X rest t) (i : ∀ Q σ H, u Q σ H -> t Q σ H) : YSs X rest u := ⟨fun A F c fs K J gd lv s σ H Q g k I q => h.run A F c fs K J gd lv s σ H Q g k I (i Q σ H q)⟩
theorem RG {t : TS} {u : TY} (a : PS X st t) (b : YSs X rest u) : YSs X (st :: rest) (fun Q σ H => t { nx := fun σ' H' => u Q σ' H', rt := fun _ _ => False } σ H) := by
 refine ⟨fun A F c fs K J gd lv s σ H Q g k I q => ?_⟩
 rw [execs_cons_wrap];refine yN ?_
 rw [g.over];refine wpAny_mono (a.run [] s σ H _ I q) (fun f s' hs => ?_) fun x s' hx => k.exc x s' hx
 cases f with
 | next =>
  obtain ⟨σ', H', I', q'⟩ := hs;exact b.run A F c fs K J gd lv s' σ' H' Q g k I' q'
 | brk => obtain ⟨_, _, _, q'⟩ := hs; exact q'.elim
 | cont => obtain ⟨_, _, _, q'⟩ := hs; exact q'.elim
 | ret u => obtain ⟨_, _, _, _, _, q'⟩ := hs; exact q'.elim
theorem ys_yf (he : PE X e te) (hc : X.A.handled = none) (hi : interactive X.env = false := by rfl) : YSs X [.Expr (.YieldFrom e yp) pos] (fun Q σ H => te σ H fun x H1 => ∃ a xs, x = .ref a /\ H1 a = some (.lst xs) /\ Q a xs H1) := by
 refine ⟨fun A F c fs K J gd lv s σ H Q g k I ht => ?_⟩
 rw [execs_cons_wrap, exec_Expr X.env _ pos hi rfl]
 show dR _ _ _ c (.at pos fun _ => ((eval e X.env >>= fun v => (standAt yp >>= fun _ => yieldFrom X.env v)) >>= fun x => dropValue (.YieldFrom e yp) pos x).wrap _ J gd lv) fs s
 refine U4 ?_
 refine Me ?_
 rw [g.over];refine wpAny_mono (he.run [] s σ H _ I ht) (fun v s1 hv => ?_) fun x s' hx => k.exc x s' hx
 obtain ⟨x, H1, I1, r1, a, xs, ex, ha, hq⟩ := hv;subst ex;obtain rfl : v = Value.ref a := r1;obtain ⟨its, rits, ht, hlen⟩ := I1.list (.inl (.inl ha));have hl := ht.isList;have hne' : ¬ ((Value.type "list" == Value.type "coroutine") = true) := by decide
 refine U4 ?_
 show dR _ _ _ c ((yieldFrom X.env (.ref a)).wrap (fun b => (dropValue (.YieldFrom e yp) pos b).wrap _ J gd lv) J gd lv) fs s1
 unfold yieldFrom;refine DO (wpAny_typeOf hl.typeIs ?_)
 rw [if_neg hne'];refine DO (wpAny_holding ?_)
 rw [g.over];refine wpAny_pyIter_list hl ?_
 refine RN fun p => ?_
 have ksz : ∀ b o, s1.heap.get? b = some o -> b ≠ s1.heap.objs.size := fun b o e => MR (Heap.lt_size e)
 have kp : ∀ b o, s1.heap.get? b = some o -> (s1.heap.push (GNX.itObj a 0)).get? b = some o := fun b o e => Heap.get?_push_of_some _ e
 have I2 : Inv X [] σ H1 { s1 with heap := s1.heap.push (GNX.itObj a 0) } := I1.kept (t' := s1.toks) kp
 have hit : (s1.heap.push (GNX.itObj a 0)).get? s1.heap.objs.size = some (GNX.itObj a 0) := Heap.get?_push_size _ rfl
 have hl2 : (s1.heap.push (GNX.itObj a 0)).IsList a its.toArray := hl.push _;have hn : H1 s1.heap.objs.size = none := I1.hok.fresh (cE _);have turned : ∀ h', Heap.SameBut s1.heap.objs.size (s1.heap.push (GNX.itObj a 0)) h' -> Inv X [] σ H1 { s1 with heap := h' } := fun h' hs =>
  Inv.turned (s := { s1 with heap := s1.heap.push (GNX.itObj a 0) }) I2 (t' := s1.toks) (it := s1.heap.objs.size) (fun b o hb eb => hs.extBut b o hb eb) hn (MT I1.lt) (.inr I1.sz) (fun y c hy => by
   obtain ⟨v, o, ho, _⟩ := I1.cell y c hy;exact ksz c o ho) fun p hp => ksz p.1 _ (I1.pin p hp).1
 have sp2 : ∀ F : Frame -> Frame, True := fun _ => trivial
 have hlen2 : its.toArray.size = xs.length := by
  have := rits.length;simp only [uV];omega
 have hsplit : ∀ (kk : Result -> Sem PySem.Fin) (l : List Value), splitAtGen (.ret kk none (gd false) l c p [] :: fs) = none := fun kk l => by
  show (splitAtGen fs).map _ = none
  rw [g.split]; rfl
 have hguard : ∀ (kk : Result -> Sem PySem.Fin) (l : List Value), (Frame.ret kk none (gd false) l c p [] :: fs).any Frame.guarded = false := fun kk l => by
  show (gd false || fs.any Frame.guarded) = false
  rw [g.gd, g.guard]; rfl
 have hhand : ∀ (kk : Result -> Sem PySem.Fin) (l : List Value), (A.over (Jy s1.heap.objs.size) (.ret kk none (gd false) l c p [] :: fs)).handled = none := fun kk l => by
  show (A.over c fs).handled = none
  rw [g.over]; exact hc
 by_cases hz : xs = []
 ·subst hz
  refine O1 (a := a) (its := its.toArray) (j := 0) (hhand _ _) hit hl2 (Array.getElem?_eq_none (by rw [hlen2]; exact cE 0)) fun h' hk => ?_
  refine LK (.ok (.ret .none)) (k.fin F _ (k.end0 a σ H1 _ ?_ ha hq))
  refine Inv.turned (s := { s1 with heap := s1.heap.push (GNX.itObj a 0) }) I2 (t' := s1.toks) (it := s1.heap.objs.size) (fun b o hb eb => hk b o hb eb) hn (MT I1.lt) (.inr I1.sz) (fun y c hy => by
   obtain ⟨v, o, ho, _⟩ := I1.cell y c hy;exact ksz c o ho) fun p hp => ksz p.1 _ (I1.pin p hp).1
 ·have hpos : 0 < its.toArray.size := by
   rw [hlen2];cases xs with
   | nil => exact absurd rfl hz
   | cons _ _ => simp
  obtain ⟨x, hx⟩ : ∃ x, its.toArray[0]? = some x := ⟨its.toArray[0], by simp [hpos]⟩
  refine LG (a := a) (its := its.toArray) (j := 0) (hsplit _ _) (hguard _ _) hit hl2 hx fun h' l kk p' q1 hs hq' hres => ?_
  have hne : a ≠ s1.heap.objs.size := by obtain ⟨o, ho, _⟩ := hl; exact ksz a o ho
  refine k.first x l kk _ p' _ s1.heap.objs.size a its.toArray xs σ H1 _ hq' (turned h' hs) ha ?_ I1.sz hn q1 hx hq fun s'' q2 hl3 => ?_
  ·exact hl2.extBut hs.extBut hne
  ·refine hres _ s'' q2 (RH (hsplit _ _) (hguard _ _) (hhand _ _) (fun F' s' hF' => LK (.ok (.ret .none)) (k.fin F' s' hF')) (its.toArray.size - 1) (Nat.sub_le _ _) s'' ?_ hl3)
   have : its.toArray.size - (its.toArray.size - 1) = 1 := by omega
   rw [this]; exact q2
end
def We (P : Program) (w : World) (A : Around) (outer : List Env) (H : Hp) (sc : Shared) (Q : TQ) (E : XK) (ga : Addr) (g : Nat) : Cp := fun e s' => match e with
 | .ret r => (r = .ok (.ret .none) /\ ∃ a H1, s'.os = sc.os /\ AllBare s'.gens /\ Un (frs outer) [] H H1 sc.heap s'.heap /\ HOk P w H1 s'.heap /\ H1 a = some (.lst []) /\ Q a [] H1) \/
   ∃ x, r = .error x /\ CX P w outer H sc E x s' /\ s'.heap.IsGen ga g
 | .susp v g0 l k c p fs => (End.susp v g0 l k c p fs).quiet = true /\ ∃ it a its ws H1, s'.os = sc.os /\ AllBare s'.gens /\ Un (frs outer) [] H H1 sc.heap s'.heap /\ HOk P w H1 s'.heap /\ H1 a = some (.lst ws) /\ s'.heap.IsList a its /\ sc.heap.objs.size <= it /\ H1 it = none /\
   s'.heap.get? it = some (GNX.itObj a 1) /\ its[0]? = some v /\ Q a ws H1 /\ s'.heap.IsGen ga g /\ H1 ga = none /\
   ∀ s'' : Shared, s''.heap.get? it = some (GNX.itObj a 1) -> s''.heap.IsList a its -> dR (model P w) A (FR (model P w) A it a its (its.size - 1) s'') c (k (.send .none)) fs s''
def L4 (P : Program) (w : World) (k : Nat) (outer : List Env) (H : Hp) (s : Shared) (Q : TQ) (E : XK) (u : Value) (s' : Shared) : Prop :=
 ∃ (a : Addr) (g : Nat) (c : Code), u = .ref a /\ s.heap.objs.size <= a /\ a < s'.heap.objs.size /\ s'.heap.IsGen a g /\ s'.gens[g]? = some (.fresh c) /\ s'.os = s.os /\ AllBare s'.gens /\ s'.heap.NoLimit /\ (∀ b o, s.heap.get? b = some o -> s'.heap.get? b = some o) /\
  ∀ (A : Around) (s2 : Shared), Room k A -> A.frames = some outer -> (∀ b o, s'.heap.get? b = some o -> s2.heap.get? b = some o) -> s2.os = s.os -> AllBare s2.gens -> dR (model P w) A (We P w A outer H s Q E a g) c ((model P w).den c) [] s2
abbrev SpT := List V -> Hp -> TQ -> XK -> Prop
structure GFnT (P : Program) (w : World) (K : aD) (mg : Str -> Option Value) (base : Heap) (k : Nat) (f : Addr) (fd : FuncData) (ps : List Str) (sp : SpT) : Prop where
 len : ∀ vs H Q E, sp vs H Q E -> vs.length = ps.length
 run : ∀ (A : Around) (outer : List Env) (s : Shared) (H : Hp) (args : Args) (us : List Value) (vs : List V) (Q : TQ) (E : XK), Room k A -> Env0 P w K mg base A outer s H -> BindsTo s fd args (ps.zip us) -> Vals vs us -> sp vs H Q E ->
  codeAny (model P w) A (.call (.ref f) args) (fun r s' => match r with | .ok (.ret u) => L4 P w k outer H s Q E u s' | _ => False) s
theorem SY {P : Program} {w : World} {K : aD} {mg : Str -> Option Value} {base : Heap} {k : Nat} {f : Addr} {name qual : Str} {params : Arguments} {body : List Stmt} {scope : Scope} {dV kV doc pm cdv ct oc : Value} {an od : Option Addr}
  {osl : Array (Option Value)} {N ps : List Str} {sp : SpT} (lk : K.lookup f = some ⟨oc, od, .func (dH name qual params body scope dV kV doc pm an cdv ct), osl⟩) (hcd : PySem.W.codeIn K cdv qual = true) (S : GScope N ps scope)
  (len : ∀ vs H Q E, sp vs H Q E -> vs.length = ps.length)
  (hbody : ∀ (A : Around) (outer : List Env) (s : Shared) (H : Hp) (vs : List V) (Q : TQ) (E : XK) (pn : List (Addr × Obj)), Room k (A.deeper (envOfC qual scope s.heap.objs.size f cdv)) -> sp vs H Q E ->
   ∃ t, YSs (gcxOf P w K mg base N qual scope f cdv A outer s H E pn) body t /\ t Q (start N vs) H) :
  GFnT P w K mg base (k + 1) f (dH name qual params body scope dV kV doc pm an cdv ct) ps sp := by
 refine ⟨len, fun A outer s H args us vs Q E hr e0 hb r hsp => ?_⟩
 have hl := len _ _ _ _ hsp;have KX : K.In s.heap := e0.mod.kin.keeps fun b o e => (e0.bs b o e).1
 have lim : s.heap.NoLimit := e0.mod.nolimit.keeps fun b o e => (e0.bs b o e).1
 have hkind : ∀ y ∈ ps.zip us, scope.names.lookup y.1 = some .local \/ (scope.names.lookup y.1 = some .cell /\ ((cellsFrom (s.heap.objs.size + 1) scope.names []).lookup y.1).isSome = true) := fun ⟨n, v⟩ hy => by
  rcases S.par n (List.of_mem_zip hy).1 with q | q
  ·exact .inl q
  ·exact .inr ⟨q, Hm _ _ _ (.inl q)⟩
 refine codeAny_call_generator hr.depth (KX _ _ lk) rfl S.co S.gen rfl (MS KX hcd) (hb _ _ _ _ ?_)
 refine wpAny_newFunctionEnv_cells S.kind hkind fun env he s1 x => ?_
 subst he;have lim1 : s1.heap.NoLimit := lim.keeps x.toInCall.keep;refine ⟨lim1, ?_⟩
 obtain ⟨h1, tk, es1, hk1⟩ := x.done;have os1 : s1.os = s.os := by rw [es1]
 have gen1 : s1.gens = s.gens := by rw [es1]
 have lt1 : s.heap.objs.size < s1.heap.objs.size := x.toInCall.ns.lt;have sz1 : s.heap.objs.size <= s1.heap.objs.size := zD lt1;have kp1 : ∀ b o, s.heap.get? b = some o -> s1.heap.get? b = some o := x.toInCall.keep;have main : ∀ (go : Obj) (nm qn : Value) (tk2 : Nat), go.cls = .type "generator" -> go.data = .fields #[.int s1.gens.size 0, nm, qn] -> go.slots = #[] -> (∀ h : Heap, (h.push go).get? h.objs.size = some go) ->
   L4 P w (k + 1) outer H s Q E (.ref s1.heap.objs.size) { s1 with gens := s1.gens.push (.fresh (.func body (envOfC qual scope s.heap.objs.size f cdv))), toks := tk2, heap := s1.heap.push go } := by
  intro go nm qn tk2 hgc hgd0 hgs hgp;have hgen : ∀ h : Heap, h.get? s1.heap.objs.size = some go -> h.IsGen s1.heap.objs.size s1.gens.size := fun h e => ⟨go, nm, qn, e, hgc, hgd0, hgs⟩
  have hpushed : (s1.heap.push go).get? s1.heap.objs.size = some go := hgp _;refine ⟨s1.heap.objs.size, s1.gens.size, _, rfl, sz1, ?_, hgen _ hpushed, Array.getElem?_push_size .., os1, ?_, lim1.keeps fun b o e => Heap.get?_push_of_some _ e, fun b o e => Heap.get?_push_of_some _ (kp1 b o e), ?_⟩
  ·show _ < (s1.heap.push _).objs.size
   rw [Heap.size_push]; exact Ex _
  ·exact AllBare.push (by rw [gen1]; exact e0.bare) rfl
  intro Aw s2 hrw hfr hk2 hos hba;have e0w : Env0 P w K mg base Aw outer s H := ⟨hfr, e0.mod, e0.bs, e0.bsz, e0.funs, e0.frf, e0.hok, e0.bare⟩;obtain ⟨t, ht, hq⟩ := hbody Aw outer s H vs Q E [(s1.heap.objs.size, go)] (hrw.deeper _) hsp;have I1 : Inv (gcxOf P w K mg base N qual scope f cdv Aw outer s H E []) [] (start N vs) H s1 := inv_startG S hrw.hd e0w hl r x;have kp2 : ∀ b o, s1.heap.get? b = some o -> s2.heap.get? b = some o := fun b o e => hk2 b o (Heap.get?_push_of_some _ e)
  have I2 : Inv (gcxOf P w K mg base N qual scope f cdv Aw outer s H E []) [] (start N vs) H s2 :=
   I1.call' (ch := []) (hos.trans os1.symm) (Un.kept kp2) (I1.hok.kept kp2) hba fun b z => by simp at z
  have hea : s2.heap.get? s1.heap.objs.size = some go := hk2 s1.heap.objs.size go hpushed;have I3 : Inv (gcxOf P w K mg base N qual scope f cdv Aw outer s H E [(s1.heap.objs.size, go)]) [] (start N vs) H s2 := Inv.pinnedG I2 fun p hp => by
   rw [cY] at hp;rw [bI.mp hp];exact ⟨hea, I1.hok.fresh (cE _), MT lt1, I1.nofs (cE _), fun v q => by rw [hgd0] at q; cases q⟩
  have pinned : ∀ {s' : Shared} {σ' : L2.St} {H' : Hp}, Inv (gcxOf P w K mg base N qual scope f cdv Aw outer s H E [(s1.heap.objs.size, go)]) [] σ' H' s' -> s'.heap.IsGen s1.heap.objs.size s1.gens.size /\ H' s1.heap.objs.size = none := fun J =>
   ⟨hgen _ (J.pin (s1.heap.objs.size, go) (qS _ (bI.mpr rfl))).1, (J.pin (s1.heap.objs.size, go) (qS _ (bI.mpr rfl))).2.1⟩
  refine RM ?_
  refine ht.run Aw _ _ [] _ _ id id s2 (start N vs) H Q ⟨over_func, rfl, rfl, rfl⟩ ⟨fun x' s' hx => ?_, fun F' s' hF => OE (.ok (.ret .none)) hF, fun a σ' H' s' J ha q => ?_, fun v l kk c' p fs' it a its ws σ' H' s' hq' J ha hl' hit hn h1 h0 q hrest => ?_⟩ I3 hq
  ·refine yN ?_
   rw [over_func];refine wpAny_mono (show wpAny (model P w) (Aw.deeper (envOfC qual scope s.heap.objs.size f cdv)) (leaving (envOfC qual scope s.heap.objs.size f cdv) x') (fun _ s'' => CX P w outer H s E x' s'' /\ ∀ p ∈ [(s1.heap.objs.size, go)], s''.heap.get? p.1 = some p.2) (fun _ _ => False) s' from hx) (fun _ s'' q => ?_) fun _ s'' q => q.elim
   exact OE (.error x') (.inr ⟨x', rfl, q.1, hgen _ (q.2 (s1.heap.objs.size, go) (bI.mpr rfl))⟩)
  ·exact .inl ⟨rfl, a, H', J.os, J.bare, J.base, J.hok, ha, q⟩
  ·exact ⟨hq', it, a, its, ws, H', J.os, J.bare, J.base, J.hok, ha, hl', hit, hn, h1, h0, q, (pinned J).1, (pinned J).2, hrest⟩
 exact main _ _ _ _ rfl rfl rfl fun h => Heap.get?_push_size _ rfl
section
variable {X : Cx} {pins : List (Addr × Obj)} {σ : St} {H : Hp} {s : Shared}
theorem Inv.stored {i : Nat} {x : Str} {v : V} {u : Value} {m : Str -> Option Value} {h' : Heap} {t' : Nat} (I : Inv X pins σ H s) (hN : X.N.Nodup) (hi : X.N[i]? = some x) (hk : X.env.scope.names.lookup x = some .local) (r : RelV v u)
  (hm : s.heap.Ns X.env.locals m) (hl : ∀ (i : Nat) (y : Str) (v : V), X.N[i]? = some y -> σ[i]? = some (some v) -> Vis X.env.scope y -> ∃ u, RelV v u /\ Look X.env s.heap m y u)
  (hn' : h'.Ns X.env.locals (fun y => if y = x then some u else m y)) (hs : Heap.SameBut X.env.locals s.heap h') : Inv X pins (σ.set i (some v)) H { s with heap := h', toks := t' } := by
 have hiσ : i < σ.length := by rw [I.len]; exact (aH.mp hi).1
 have cne := I.cne;obtain ⟨oL, _, _, hoL, _⟩ := id hm;have above : ∀ {b o}, X.s_0.heap.get? b = some o -> h'.get? b = s.heap.get? b := fun {b o} e => hs.2 b (MR (Nat.lt_of_lt_of_le (Heap.lt_size e) I.ok.above))
 refine ⟨I.ok, I.os, I.bare, ⟨fun b o e n hb hx => (above e).trans (I.base.keep b o e n hb hx), fun b o e n hb hx => ?_, I.base.free, fun b o e hx => ?_, I.base.tups, I.base.frzs, I.base.tbls⟩, ⟨_, hn', fun j y v' e1 e2 e3 => ?_⟩, fun y c e => ?_, I.free, I.freeC, fun p hp => ?_, fun b ob e => ?_, by simpa using I.len⟩
 ·obtain ⟨sl, e1⟩ := I.base.slot b o e n hb hx
  exact ⟨sl, (above e).trans e1⟩
 ·obtain ⟨o', e1⟩ := I.base.there b o e hx
  exact ⟨o', (above e).trans e1⟩
 ·by_cases hj : j = i
  ·subst hj
   rw [hi] at e1; cases e1;rw [LB hiσ] at e2;cases e2;exact ⟨u, r, .inl ⟨hk, by simp⟩⟩
  ·rw [A9 (Ne.symm hj)] at e2
   obtain ⟨u', r', q⟩ := hl j y v' e1 e2 e3;refine ⟨u', r', ?_⟩
   rcases q with ⟨k, e⟩ | ⟨k, c, e, z⟩
   ·refine .inl ⟨k, ?_⟩
    have : y ≠ x := fun e => hj (nodup_ix hN e1 (e ▸ hi))
    simp [this, e]
   ·exact .inr ⟨k, c, e, z.sameBut hs (cne y c e)⟩
 ·obtain ⟨w', z⟩ := I.cell y c e
  exact ⟨w', z.sameBut hs (cne y c e)⟩
 ·obtain ⟨e, n, ne, nf, d⟩ := I.pin p hp
  exact ⟨(hs.2 p.1 ne).trans e, n, ne, nf, d⟩
 ·refine (I.hok b ob e).stay (fun c w' hc q => (hs.2 c ?_).trans q) (fun _ q => q) fun _ _ q => q
  rintro rfl
  rcases hc with rfl | hc
  ·rw [I.free] at e; cases e
  ·rw [I.free] at hc; cases hc
theorem Inv.setG {g : Nat} {x : GenState} (I : Inv X pins σ H s) (hx : x.bare = true) : Inv X pins σ H (s.setGen g x) :=
 ⟨I.ok, I.os, allBare_setGen I.bare hx, I.base, I.loc, I.cell, I.free, I.freeC, I.pin, I.hok, I.len⟩
theorem O8 {H : Hp} {a : Addr} {o : HO} (h : H a = some o) : upd H a o = H := by
 funext b; unfold upd; split
 ·rename_i e; rw [e, h]
 ·rfl
end
structure PGenT (X : Cx) (k : Nat) (e : Expr) (tg : St -> Hp -> TQ -> Prop) (W : WX) : Prop where
 run : ∀ (pins : List (Addr × Obj)) (s : Shared) (σ : St) (H : Hp) (Q : TQ), Inv X pins σ H s -> tg σ H Q -> wpAny (model X.prog X.w) X.A (eval e X.env) (fun u s' => ∃ H1 sc, Inv X pins σ H1 sc /\ L4 X.prog X.w k X.stack H1 sc Q (WE W σ) u s') X.xe s
def sR (σ : St) (ix : Nat) (ws : List V) : St := match ws.getLast? with
 | none => σ
 | some z => σ.set ix (some z)
theorem K9 {σ : St} {ix : Nat} {ws : List V} {z : V} : (sR σ ix ws).set ix (some z) = sR σ ix (ws ++ [z]) := by
 unfold sR;rw [List.getLast?_append]
 cases ws.getLast? <;> simp
theorem Oh {σ : St} {ix il : Nat} {ws : List V} (h : ix ≠ il) : (sR σ ix ws)[il]? = σ[il]? := by
 unfold sR;split
 ·rfl
 ·rw [A9 h]
def U6 (ix il : Nat) (tg : St -> Hp -> TQ -> Prop) : TS := fun D σ H => tg σ H fun a ws H1 => ∃ S xs, σ[il]? = some (some (.ref S)) /\ H1 S = some (.lst xs) /\ a ≠ S /\ xs.length + ws.length <= sizeLine /\ D.nx (sR σ ix ws) (upd H1 S (.lst (xs ++ ws)))
section
variable {X : Cx} {k : Nat} {x l : Str} {ix il : Nat} {iter : Expr} {tg : St -> Hp -> TQ -> Prop} {px pl px2 : Pos} {pa pc pe pos : Pos}
theorem Na {pins : List (Addr × Obj)} {σ : St} {H : Hp} {s : Shared} {S : Addr} {xs : List V} {z : V} {v itv : Value} {Q : Flow -> Shared -> Prop} {E1 E2 E3 : Value -> Shared -> Prop} (I : Inv X pins σ H s) (hN : X.N.Nodup) (hix : X.N[ix]? = some x) (hil : X.N[il]? = some l) (hne : ix ≠ il)
  (hlx : X.env.scope.names.lookup x = some .local) (hll : X.env.scope.names.lookup l = some .local) (hS : σ[il]? = some (some (.ref S))) (hH : H S = some (.lst xs)) (hlen : xs.length < sizeLine) (r : RelV z v)
  (hbase : attributeBase (.Name l pl) "append" X.env (eval (.Name l pl) X.env) = eval (.Name l pl) X.env)
  (hfew : ((backTo pc (starEach [.Name x px2] X.env)).all (fun x => !x.1) && (backToKw pc (keywordEach [] X.env)).all (fun x => x.1.isSome) && decide (([.Name x px2] : List Expr).length + ([] : List Keyword).length + (if ([] : List Keyword).isEmpty then 0 else 1) < 30)) = true)
  (hline : (pa.endLine == pc.line) = true) (htrees : backTo pc (starEach [.Name x px2] X.env) = [(false, eval (.Name x px2) X.env)]) (hdx : (x == ("__debug__" : Str)) = false) (hdl : (l == ("__debug__" : Str)) = false)
  (hsw : swapsWith (.Call (.Attribute (.Name l pl) "append" pa) [.Name x px2] [] pc) none pe.line X.env = pure false)
  (hQ : ∀ h' t', Inv X pins (σ.set ix (some z)) (upd H S (.lst (xs ++ [z]))) { s with heap := h', toks := t' } -> (∀ b o, b ≠ S -> b ≠ X.env.locals -> s.heap.get? b = some o -> h'.get? b = some o) -> Q .next { s with heap := h', toks := t' }) :
  wpAny (model X.prog X.w) X.A (letOwnedTupleGo (.Name x px) itv v) (fun _ s1 => wpAny (model X.prog X.w) X.A (assign (.Name x px) X.env v) (fun _ s2 =>
   wpAny (model X.prog X.w) X.A (execs [.Expr (.Call (.Attribute (.Name l pl) "append" pa) [.Name x px2] [] pc) pe] X.env) Q E3 s2) E2 s1) E1 s := by
 show wpAny _ _ (pure ()) _ _ s
 refine wpAny_pure ?_
 refine wpAny_assign_Name ?_
 obtain ⟨m, hm, hl⟩ := id I.loc;have hcls : (X.env.scope.kind == .class || (X.env.scope.kind == .module && X.env.locals != X.env.globals)) = false := by rw [I.ok.kind]; rfl
 refine wpAny_storeName_local hlx hm (fun h1 hn1 hs1 => ?_) hcls
 have I1 := I.stored (t' := s.toks + 1) hN hix hlx r hm hl hn1 hs1;have e1 : (σ.set ix (some z))[il]? = some (some (.ref S)) := by rw [A9 hne]; exact hS
 have hiσ : ix < σ.length := by rw [I.len]; exact (aH.mp hix).1
 obtain ⟨m1, hm1, hl1⟩ := id I1.loc;obtain ⟨uS, rS, lS⟩ := hl1 il l _ hil e1 (.inl hll);obtain ⟨ux, rx, lx⟩ := hl1 ix x z hix (by rw [LB hiσ]) (.inl hlx)
 obtain rfl : uS = Value.ref S := rS;have mS : m1 l = some (.ref S) := by
  rcases lS with ⟨_, q⟩ | ⟨q, _⟩
  ·exact q
  ·have q' : X.env.scope.names.lookup l = some .cell \/ X.env.scope.names.lookup l = some .free := q
   rw [hll] at q';rcases q' with q' | q' <;> cases q'
 have mx : m1 x = some ux := by
  rcases lx with ⟨_, q⟩ | ⟨q, _⟩
  ·exact q
  ·have q' : X.env.scope.names.lookup x = some .cell \/ X.env.scope.names.lookup x = some .free := q
   rw [hlx] at q';rcases q' with q' | q' <;> cases q'
 obtain ⟨zl, its, n, rv, hlv, e⟩ := I1.lstM hH;refine wpAny_execs_cons (wpAny_Expr (wpAny_Call_append hbase hfew hline htrees ?_) I1.quiet hsw)
 refine wpAny_Name (wpAny_loadName_local I1.ok.kind hll hm1 mS ?_) hdl
 refine ⟨S, its.toArray, rfl, ⟨_, n, e, rfl, rfl, rfl⟩, ?_⟩
 refine wpAny_Name (wpAny_loadName_local I1.ok.kind hlx hm1 mx ?_) hdx
 refine call_meets F.slot_list_append ⟨_, e, rfl⟩ F.entry_list_append (F.args_list_append_2 _ _) (PySem.list_append S its.toArray n ux (by rw [uV]; omega)) ⟨e, ?_⟩
 refine wpAny_execs_nil (hQ _ _ (I1.lset (its' := its ++ [ux]) (t' := s.toks + 1) hH e (by simp) (rv.append (.cons rx .nil)) ?_) fun b o hb hL eb => ?_)
 ·rw [bP, MU]
  omega
 ·exact (Heap.get?_update_other _ _ (Ne.symm hb)).trans ((hs1.2 b hL).trans eb)
end
def LJ (X : Cx) (pins : List (Addr × Obj)) (σ : St) (D : Ends) (ix il : Nat) (ga g : Nat) (m : Nat) (s : Shared) : Prop := ∃ (it a S : Addr) (its : Array Value) (ws xs : List V) (H1 : Hp) (j : Nat),
 m = its.size + 1 - j /\ j <= its.size /\ Vals ws its.toList /\ σ[il]? = some (some (.ref S)) /\ H1 a = some (.lst ws) /\ H1 S = some (.lst xs) /\ a ≠ S /\ xs.length + ws.length <= sizeLine /\ FpOk X pins H1 it /\ FpOk X pins H1 ga /\ it ≠ ga /\
 D.nx (sR σ ix ws) (upd H1 S (.lst (xs ++ ws))) /\ Inv X pins (sR σ ix (ws.take j)) (upd H1 S (.lst (xs ++ ws.take j))) s /\ s.heap.IsGen ga g /\ s.heap.get? it = some (GNX.itObj a j) /\ s.heap.IsList a its /\
 ∃ gs, s.gens[g]? = some gs /\ ∀ s'' : Shared, s''.heap.get? it = some (GNX.itObj a j) -> s''.heap.IsList a its -> MP (model X.prog X.w) X.A.in1 (FR (model X.prog X.w) X.A.in1 it a its (its.size - j) s'') gs s''
section
variable {X : Cx} {k : Nat} {x l : Str} {ix il : Nat} {iter : Expr} {tg : St -> Hp -> TQ -> Prop} {W : WX} {px pl px2 : Pos} {pa pc pe pos : Pos} {pins : List (Addr × Obj)} {σ : St} {H H1 : Hp} {s : Shared} {D : Ends} {ga g m : Nat}
theorem take_snoc {α : Type} {ws : List α} {j : Nat} {z : α} (h : ws[j]? = some z) : ws.take j ++ [z] = ws.take (j + 1) := by
 rw [List.take_add_one, h]; rfl
theorem J8 {h : Heap} {a : Addr} {i1 i2 : Array Value} (a1 : h.IsList a i1) (a2 : h.IsList a i2) : i1 = i2 := by
 obtain ⟨o, e, c, n, d⟩ := a1;obtain ⟨o', e', c', n', d'⟩ := a2;rw [e] at e'; cases e';rw [d] at d'; cases d'; rfl
structure ForGT (X : Cx) (x l : Str) (ix il : Nat) (pl px2 : Pos) (pa pc pe : Pos) : Prop where
 nd : X.N.Nodup
 hix : X.N[ix]? = some x
 hil : X.N[il]? = some l
 ne : ix ≠ il
 lx : X.env.scope.names.lookup x = some .local
 ll : X.env.scope.names.lookup l = some .local
 base : attributeBase (.Name l pl) "append" X.env (eval (.Name l pl) X.env) = eval (.Name l pl) X.env
 few : ((backTo pc (starEach [.Name x px2] X.env)).all (fun x => !x.1) && (backToKw pc (keywordEach [] X.env)).all (fun x => x.1.isSome) && decide (([.Name x px2] : List Expr).length + ([] : List Keyword).length + (if ([] : List Keyword).isEmpty then 0 else 1) < 30)) = true
 line : (pa.endLine == pc.line) = true
 trees : backTo pc (starEach [.Name x px2] X.env) = [(false, eval (.Name x px2) X.env)]
 dx : (x == ("__debug__" : Str)) = false
 dl : (l == ("__debug__" : Str)) = false
 sw : swapsWith (.Call (.Attribute (.Name l pl) "append" pa) [.Name x px2] [] pc) none pe.line X.env = pure false
theorem G7 {it a S : Addr} {its : Array Value} {ws xs : List V} {j : Nat} {v itv : Value} {gs : GenState} {Q : Flow -> Shared -> Prop} {E1 E2 E3 : Value -> Shared -> Prop} (T : ForGT X x l ix il pl px2 pa pc pe)
  (hj : j < its.size) (rv : Vals ws its.toList) (hS : σ[il]? = some (some (.ref S))) (ha : H1 a = some (.lst ws)) (hHS : H1 S = some (.lst xs)) (hne : a ≠ S) (hsz : xs.length + ws.length <= sizeLine) (fit : FpOk X pins H1 it) (fga : FpOk X pins H1 ga) (hig : it ≠ ga)
  (hD : D.nx (sR σ ix ws) (upd H1 S (.lst (xs ++ ws)))) (I : Inv X pins (sR σ ix (ws.take j)) (upd H1 S (.lst (xs ++ ws.take j))) s) (hg : s.heap.IsGen ga g) (hit : s.heap.get? it = some (GNX.itObj a (j + 1))) (hl : s.heap.IsList a its) (hv : its[j]? = some v)
  (hgs : s.gens[g]? = some gs) (hgo : ∀ s'' : Shared, s''.heap.get? it = some (GNX.itObj a (j + 1)) -> s''.heap.IsList a its -> MP (model X.prog X.w) X.A.in1 (FR (model X.prog X.w) X.A.in1 it a its (its.size - (j + 1)) s'') gs s'')
  (hQ : ∀ s', LJ X pins σ D ix il ga g (its.size + 1 - (j + 1)) s' -> Q .next s') :
  wpAny (model X.prog X.w) X.A (letOwnedTupleGo (.Name x px) itv v) (fun _ s1 => wpAny (model X.prog X.w) X.A (assign (.Name x px) X.env v) (fun _ s2 =>
   wpAny (model X.prog X.w) X.A (execs [.Expr (.Call (.Attribute (.Name l pl) "append" pa) [.Name x px2] [] pc) pe] X.env) Q E3 s2) E2 s1) E1 s := by
 have hlen : ws.length = its.size := by rw [rv.length]; simp
 obtain ⟨z, hz⟩ : ∃ z, ws[j]? = some z := ⟨ws[j]'(by omega), by rw [cG]⟩
 obtain ⟨u, hu, ru⟩ := rv.get hz;have huv : u = v := by
  have : its.toList[j]? = some v := by simpa using hv
  rw [this] at hu; cases hu; rfl
 subst huv;have hSit : it ≠ S := fun e => by have := fit.1; rw [e, hHS] at this; cases this
 have hSga : ga ≠ S := fun e => by have := fga.1; rw [e, hHS] at this; cases this
 have haL : a ≠ X.env.locals := fun e => by
  have q := I.free;rw [upd_ne (show X.env.locals ≠ S from fun e2 => by have q2 := I.free; rw [e2, upd_same] at q2; cases q2)] at q
  rw [<- e, ha] at q; cases q
 refine Na (xs := xs ++ ws.take j) (z := z) I T.nd T.hix T.hil T.ne T.lx T.ll (by rw [Oh T.ne]; exact hS) upd_same (by rw [bP, cX]; omega) ru T.base T.few T.line T.trees T.dx T.dl T.sw fun h' t' I' hk => hQ _ ?_
 rw [K9, take_snoc hz, upd_upd, dG, take_snoc hz] at I';obtain ⟨og, nm, qn, eg, rg⟩ := hg;obtain ⟨ol, el, rl⟩ := hl;have hg' : h'.IsGen ga g := ⟨og, nm, qn, hk ga og hSga fga.2.1 eg, rg⟩;exact ⟨it, a, S, its, ws, xs, H1, j + 1, rfl, hj, rv, hS, ha, hHS, hne, hsz, fit, fga, hig, hD, I', hg', hk it _ hSit fit.2.1 hit, ⟨ol, hk a ol hne haL el, rl⟩, gs, hgs, hgo⟩
theorem Inv.like {s' : Shared} (I : Inv X pins σ H { s with heap := s'.heap, toks := s'.toks }) (ho : s'.os = s.os) (hb : AllBare s'.gens) : Inv X pins σ H s' :=
 ⟨I.ok, ho.trans I.os, hb, I.base, I.loc, I.cell, I.free, I.freeC, I.pin, I.hok, I.len⟩
theorem Rm (T : ForGT X x l ix il pl px2 pa pc pe) (hp : PassesOwn (model X.prog X.w) X.A X.env X.xe) (hr : Room (k + 2) X.A) (tk : Takes X W) (hns : ∀ σ, NoStop X.K (WE W σ)) (h : PGenT X k iter tg W)
  (hs : ∀ x, foldedSetIterable iter X.env x = pure x := by intro _; rfl) :
  PS X (.For (.Name x px) iter [.Expr (.Call (.Attribute (.Name l pl) "append" pa) [.Name x px2] [] pc) pe] [] pos) (U6 ix il tg) := by
 refine ⟨fun pins s σ H D I h0 => ?_⟩
 refine wpAny_For (thn (h.run pins s σ H _ I h0) fun u s1 ⟨H0, sc, I0, hG⟩ => ?_) hs
 obtain ⟨ga, g, c, rfl, h1, h2, hgen, hgs, hos, hb, hl, hkp, wake⟩ := hG;refine wpAny_pyIter_gen hgen ?_
 have room1 : Room k X.A.in1 := ⟨hr.hd, by have := hr.dp; show X.A.depth + 3 * k + 5 < _; omega, by have := hr.un; show X.A.units + 1 + 16 * k + 200 < _; omega⟩
 have hdep : X.A.depth < recursionLimit := by have := hr.dp; omega
 refine codeAny_forLoop_any (fun m s' => (m = sizeLine + 2 /\ s' = s1) \/ (m < sizeLine + 2 /\ LJ X pins σ D ix il ga g m s')) ?_ (sizeLine + 2) (.inl ⟨rfl, rfl⟩)
 rintro m s3 (⟨rfl, rfl⟩ | ⟨hm, hJ⟩)
 ·have hw := wake X.A.in1 (s3.setGen g .running) room1 I0.ok.frames (fun b o e => e) hos (allBare_setGen hb rfl)
  have hgl : g < s3.gens.size := (Array.getElem?_eq_some_iff.mp hgs).1
  refine wpAny_passesOwn hp (wpAny_gsz (n := g + 1) hgl (P0 hr.hd hl hdep hgen hgs hw fun e s4 hF => ?_))
  cases e with
  | susp v g0 l0 k0 c0 p0 fs0 =>
   obtain ⟨hq, it, a, its, ws, H2, o1, b1, un, hok, ha, hls, hit1, hn, hget, hv, ⟨S, xs, q1, q2, q3, q4, q5⟩, hgen', hgan, hrest⟩ := hF;refine ⟨hq, fun hsz => ?_⟩
   have hsz1 : g < s4.gens.size := by
    have q : (s4.setGen g (End.susp v g0 l0 k0 c0 p0 fs0).genState).gens.size = s4.gens.size := setGen_size _ _ _;omega
   have I1 : Inv X pins σ H2 s4 := I0.call' (ch := []) o1 un hok b1 fun b z => by simp at z
   obtain ⟨its', rits, ht, hle⟩ := I1.list (.inl (.inl ha));obtain rfl := J8 hls ht.isList;have I2 := I1.setG (g := g) (End.bare_of_quiet hq);have fit : FpOk X pins H2 it := I0.fpOk hit1 hn;have fga : FpOk X pins H2 ga := I0.fpOk h1 hgan;have hpos : 0 < its'.toArray.size := by
    rcases Nat.eq_zero_or_pos its'.toArray.size with z | z
    ·rw [Array.getElem?_eq_none (by omega)] at hv; cases hv
    ·exact z
   have hig : it ≠ ga := fun z => by
    obtain ⟨og, nm, qn, eg, cg, _⟩ := hgen';rw [<- z, hget] at eg; cases eg; exact absurd (show Value.type "list_iterator" = Value.type "generator" from cg) (by decide)
   have hle2 : its'.toArray.size <= sizeLine := by
    have := rits.length; simp only [uV]; omega
   have I3 : Inv X pins (sR σ ix (ws.take 0)) (upd H2 S (.lst (xs ++ ws.take 0))) (s4.setGen g (End.susp v g0 l0 k0 c0 p0 fs0).genState) := by
    rw [List.take_zero, cY, O8 q2];exact I2
   refine G7 (j := 0) (gs := (End.susp v g0 l0 k0 c0 p0 fs0).genState) T hpos (by simpa using rits) q1 ha q2 q3 q4 fit fga hig q5 I3 hgen' hget hls hv (setGen_at hsz1) hrest fun s' hJ => ⟨_, ?_, .inr ⟨?_, hJ⟩⟩
   ·omega
   ·omega
  | ret r =>
   rcases hF with ⟨rfl, a, H2, o1, b1, un, hok, ha, S, xs, q1, q2, q3, q4, q5⟩ | ⟨x', rfl, hcx, hg1⟩
   ·refine .inl ⟨.inl rfl, fun h' hk _ => ?_⟩
    have I1 : Inv X pins σ H2 s4 := I0.call' (ch := []) o1 un hok b1 fun b z => by simp at z
    rw [cY, O8 q2] at q5;exact wpAny_execs_nil ⟨σ, H2, (I1.setG (g := g) (x := .finished) rfl).kept (t' := s4.toks) hk, q5⟩
   ·have kin : X.K.In s4.heap := by
     obtain ⟨a, B, H', cls, d, _, fl, _, ub, _⟩ := id hcx;refine I0.ok.mod.kin.keeps fun b o eb => fl.1 b o (ub.keep b o (I0.bs b o eb).1 (I0.bs b o eb).2 fun hm => ?_)
     rcases aY.mp (I0.stkSub b hm) with z | z
     ·have h1 := Heap.lt_size eb
      have h2 := bY I0.ok.bsz I0.ok.above;rw [z] at h1;exact absurd (Nat.lt_of_lt_of_le h1 h2) (Nat.lt_irrefl _)
     ·exact I0.ok.nofr eb z
    refine .inr ⟨x', rfl, hg1, notStop_of (hns σ) kin hcx, ?_⟩
    refine fun _ => passAt tk σ pins H0 sc x' _ I0 ?_
    obtain ⟨a, B, H', cls, d, z1, fl, z2, ub, z3, z4, z5, z6⟩ := hcx;exact ⟨a, B, H', cls, d, z1, fl, z2, ub, z3, z4, allBare_setGen z5 rfl, z6⟩
 ·obtain ⟨it, a, S, its, ws, xs, H2, j, rfl, hj, rv, hS, ha, hHS, hne, hsz, fit, fga, hig, hD, I2, hg2, hit2, hl2, gs, hgs2, hgo⟩ := hJ
  have hgo' := hgo (s3.setGen g .running) hit2 hl2;have hgl : g < s3.gens.size := (Array.getElem?_eq_some_iff.mp hgs2).1
  have hSit : it ≠ S := fun e => by have := fit.1; rw [e, hHS] at this; cases this
  have hnu : upd H2 S (.lst (xs ++ ws.take j)) it = none := by rw [upd_ne hSit]; exact fit.1
  have turned : ∀ s4 : Shared, KB it (s3.setGen g .running) s4 -> Inv X pins (sR σ ix (ws.take j)) (upd H2 S (.lst (xs ++ ws.take j))) s4 := fun s4 kb =>
   Inv.like (Inv.turned (h' := s4.heap) (t' := s4.toks) I2 (fun b o hb e => kb.2.2 b o hb e) hnu fit.2.1 fit.2.2.2.1 fit.2.2.2.2.1 fit.2.2.2.2.2) kb.1 (by rw [kb.2.1]; exact allBare_setGen I2.bare rfl)
  refine wpAny_passesOwn hp (wpAny_gsz (n := g + 1) hgl (P0 hr.hd I2.nolimit hdep hg2 hgs2 hgo' fun e s4 hF => ?_))
  by_cases hjn : j < its.size
  ·have er : its.size - j = (its.size - (j + 1)) + 1 := by omega
   have e1 : its.size - (its.size - (j + 1) + 1) = j := by omega
   have e2 : its.size - (its.size - (j + 1)) = j + 1 := by omega
   rw [er] at hF;cases e with
   | ret r => exact hF.elim
   | susp v g0 l0 k0 c0 p0 fs0 =>
    obtain ⟨hq, hv, kb, hget, hrest⟩ := hF;rw [e1] at hv;rw [e2] at hget hrest;refine ⟨hq, fun hsz' => ?_⟩
    have hsz1 : g < s4.gens.size := by
     have q : (s4.setGen g (End.susp v g0 l0 k0 c0 p0 fs0).genState).gens.size = s4.gens.size := setGen_size _ _ _;omega
    have I3 := (turned s4 kb).setG (g := g) (End.bare_of_quiet hq);obtain ⟨og, nm, qn, eg, rg⟩ := hg2;obtain ⟨ol, el, rl⟩ := hl2;have hait : a ≠ it := fun z => by have := fit.1; rw [<- z, ha] at this; cases this
    refine G7 (j := j) (gs := (End.susp v g0 l0 k0 c0 p0 fs0).genState) T hjn rv hS ha hHS hne hsz fit fga hig hD I3 ⟨og, nm, qn, kb.2.2 ga og (Ne.symm hig) eg, rg⟩ hget ⟨ol, kb.2.2 a ol hait el, rl⟩ hv (setGen_at hsz1) hrest fun s' hJ => ⟨_, ?_, .inr ⟨?_, hJ⟩⟩
    ·omega
    ·omega
  ·have ej : j = its.size := by omega
   subst ej;rw [Nat.sub_self] at hF;obtain ⟨rfl, kb⟩ := hF;have hw : ws.take its.size = ws := yI (by rw [rv.length]; simp)
   refine .inl ⟨.inl rfl, fun h' hk _ => ?_⟩
   have I3 := ((turned s4 kb).setG (g := g) (x := .finished) rfl).kept (t' := s4.toks) hk;rw [hw] at I3;exact wpAny_execs_nil ⟨_, _, I3, hD⟩
end
end L2
namespace PH
open PySem PySem.Spec PyProof.Rows L2
section
variable {X : Cx} {W : WX} {e a : Expr} {es : List Expr} {rest iM : List Stmt} {st : Stmt} {pos p yp : Pos} {x kw : Str} {K : aD} {ma me : FE} {mas : FA} {B : Addr -> Prop} {φ φ' : List Addr} {S S' : aO} {H H' : Hp} {σ : L2.St} {Q : TQ} {m : FS} {n : L5} {D : Ends} {EX : XK}
def FinY (K : aD) (W : WX) (Q : TQ) (B : Addr -> Prop) (φ : List Addr) (S : aO) (H : Hp) (r : Res (List PH.D)) : Prop := match r with
 | .ok zs S' => ∀ φ' a ws H', GInv K B φ' S' H' -> Ext φ S H φ' S' H' -> H' a = some (.lst ws) -> ¬ kA B φ' S' a -> RepL K (kA B φ' S') H' zs ws -> Q a ws H'
 | .err e S' => ∀ φ' σ' c x H', GInv K B φ' S' H' -> Ext φ S H φ' S' H' -> RepX K B φ' S' H' e c x -> W c x σ' H'
 | .stuck => False
theorem FinY.ext {r : Res (List PH.D)} (f : FinY K W Q B φ S H r) (e : Ext φ S H φ' S' H') : FinY K W Q B φ' S' H' r := by
 cases r with
 | ok d S1 => exact fun φ1 a v H1 I1 X h nb r => f φ1 a v H1 I1 (e.trans X) h nb r
 | err x S1 => exact fun φ1 σ1 c x H1 I1 X r => f φ1 σ1 c x H1 I1 (e.trans X) r
 | stuck => exact f
def rdY (K : aD) (W : WX) (m : L5) : TY := fun Q σ H => ∃ B φ S ρ, GInv K B φ S H /\ RepE K B φ S H ρ σ /\ FinY K W Q B φ S H (m ρ S)
def Ls (n : L5) (o : Out) : Res (List PH.D) := match o with
 | .next ρ' S' => n ρ' S'
 | .err e _ S' => .err e S'
 | _ => .stuck
def Ft (m : FS) (n : L5) : L5 := fun ρ S => Ls n (m ρ S)
theorem HM (a : PS X st (lG X.K (fun c x _ H => EX c x H) m)) (b : YSs X rest (rdY X.K (fun c x _ H => EX c x H) n)) : YSs X (st :: rest) (rdY X.K (fun c x _ H => EX c x H) (Ft m n)) := MN (RG a b) fun Q σ H h => by
 obtain ⟨B, φ, S, ρ, I, E, f⟩ := h;refine ⟨B, φ, S, ρ, I, E, ?_⟩
 unfold Ft at f;cases q : m ρ S with
 | next ρ' S' => rw [q] at f; exact fun φ' σ' H' I' X' E' => ⟨B, φ', S', ρ', I', E', FinY.ext f X'⟩
 | ret d S' => rw [q] at f; exact f.elim
 | brk ρ' S' => rw [q] at f; exact f.elim
 | cnt ρ' S' => rw [q] at f; exact f.elim
 | err e' ρ' S' => rw [q] at f; exact fun φ' σ' c x H' I' X' E' r => f φ' σ' c x H' I' X' r
 | stuck => rw [q] at f; exact f.elim
theorem fy_yf (he : PE X e (dC X.K (fun c x _ H => EX c x H) me)) (hc : X.A.handled = none) (hi : interactive X.env = false := by rfl) : YSs X [.Expr (.YieldFrom e yp) pos] (rdY X.K (fun c x _ H => EX c x H) (mYf me)) := MN (ys_yf he hc hi) fun Q σ H h => by
 obtain ⟨B, φ, S, ρ, I, E, f⟩ := h;refine ⟨B, φ, S, ρ, I, E, ?_⟩
 unfold mYf at f;cases q : me ρ S with
 | stuck => rw [q] at f; exact f.elim
 | err x' S' => rw [q] at f; exact fun φ' c x H' I' X' r => f φ' σ c x H' I' X' r
 | ok x' S' =>
  rw [q] at f;intro φ' v H' I' X' r;have f : FinY X.K (fun c x _ H => EX c x H) Q B φ S H (kYf x' S') := f
  unfold kYf at f;split at f
  ·rename_i zs
   split at f
   ·rename_i hz
    obtain ⟨b, ws, rfl, nb, hb, rl⟩ := r;exact ⟨b, ws, rfl, hb, f φ' b ws H' I' X' hb nb rl⟩
   ·exact f.elim
  ·exact f.elim
def Mn (K : aD) (md : Ny) : SpT := fun vs H Q E => ∃ B φ S ds, GInv K B φ S H /\ RepVs K B φ S H ds vs /\ FinY K (fun c x _ H => E c x H) Q B φ S H (md ds S)
def Tx (P : Program) (w : World) (K : aD) (mg : Str -> Option Value) (base : Heap) (k : Nat) (x : Str) (ps : List Str) (n : Nat) (kw : Str) (sp : SpT) : Prop :=
 ∃ fd, GFnT P w K mg base k (He.ga K x) fd ps sp /\ mg x = some (.ref (He.ga K x)) /\ iN K (.ref (He.ga K x)) = true /\ KBn K fd ps n [kw] (fun us ws => us ++ ws) (fun vs zs => vs ++ zs)
def Tz (K : aD) (cs : List Str) : Prop := ∀ c ∈ cs, pP K (.ref (He.ga K c)) (.type "StopIteration") = some false
theorem VB {K : aD} {cs : List Str} (h : nsB K cs = true) : Tz K cs := fun c hc => of_decide_eq_true (bV.mp h c hc)
def wNS (K : aD) (W : WX) : WX := fun c d σ H => W c d σ H /\ pP K c (.type "StopIteration") = some false
def tGKT (K : aD) (W : WX) (n : Nat) (md : Ny) (mas : FA) (ma : FE) : L2.St -> Hp -> TQ -> Prop := fun σ H Q => F8 K W mas σ H fun vs H1 => tCons (dC K W ma) tNil σ H1 fun zs H2 => vs.length = n /\ zs.length = 1 /\ Mn K md (vs ++ zs) H2 Q (WE (wNS K W) σ)
theorem Ro {j k nn : Nat} {ps : List Str} {md : Ny} {kpos : Pos} (F : Tx X.prog X.w X.K X.mg X.base j x ps nn kw (Mn X.K md)) (hr : Room k X.A) (ha : PA X (e :: es) (F8 X.K W mas)) (hv : PE X a (dC X.K W ma)) (hjk : j <= k) (hg : Gl X x) (hdb : (x == ("__debug__" : Str)) = false)
  (hall : (backToKw pos (keywordEach [⟨some kw, a, kpos⟩] X.env)).all (·.1.isSome) = true) (hks : (backToKw pos (keywordEach [⟨some kw, a, kpos⟩] X.env)).filterMap (·.1) = [kw])
  (he : starEach (e :: es) X.env = (false, eval e X.env) :: starEach es X.env) (hpl : ((backTo pos (starEach (e :: es) X.env)).any (·.1) || (backToKw pos (keywordEach [⟨some kw, a, kpos⟩] X.env)).any (·.1.isNone)) = false) :
  PGenT X j (.Call (.Name x p) (e :: es) [⟨some kw, a, kpos⟩] pos) (tGKT X.K W nn md mas ma) (wNS X.K W) := by
 obtain ⟨fd, F, hm, hk, hb⟩ := F;refine ⟨fun pins s σ H Q I h => ?_⟩
 refine wpAny_Call_Name_kw (ld_glob I hg hm ?_ hdb)
 refine LA (h₀ := X.base) I.ok.mod.kin hk hall (thn (ha.run pos pins s σ H _ I h) fun us s1 ⟨vs, H1, I1, r, q⟩ => ?_) hpl he
 refine thn ((pk_cons hv pk_nil : PK X [⟨some kw, a, kpos⟩] _).run pos pins s1 σ H1 _ I1 q) fun ws s2 ⟨zs, H2, I2, rz, l1, l2, q2⟩ => ⟨I2.kIn, ?_⟩
 rw [hks];have r2 := hb.rel r rz;refine wpAny_call (codeAny_mono (F.run X.A X.stack s2 H2 ⟨us, [kw].zip ws⟩ (us ++ ws) (vs ++ zs) Q _ (hr.mono hjk) I2.env0 (hb.to s2 us ws I2.kIn (r.length.symm.trans l1) (rz.length.symm.trans l2)) r2 q2) fun r s' hq => ?_)
 cases r with
 | error e => exact False.elim hq
 | ok fl =>
  cases fl with
  | ret u => exact ⟨H2, s2, I2, hq⟩
  | next => exact False.elim hq
  | brk => exact False.elim hq
  | cont => exact False.elim hq
def GD (ρ : Ev) (ix : Nat) (zs : List PH.D) : Ev := match zs.getLast? with
 | none => ρ
 | some z => ρ.set ix (some (.dat z))
theorem Fg {Bk : Addr -> Prop} : ∀ {zs : List PH.D} {ws : List L2.V}, RepL K Bk H zs ws -> (zs.getLast? = none /\ ws.getLast? = none) \/ ∃ d v, zs.getLast? = some d /\ ws.getLast? = some v /\ Rep K Bk H d v
 | [], _, h => by
  cases h; exact .inl ⟨rfl, rfl⟩
 | d :: ds, _, ⟨v, ws, rfl, h1, h2⟩ => by
  refine .inr ?_
  rcases Fg h2 with ⟨q1, q2⟩ | ⟨d', v', q1, q2, r⟩
  ·exact ⟨d, v, by rw [uA, q1]; rfl, by rw [uA, q2]; rfl, h1⟩
  ·exact ⟨d', v', by rw [uA, q1]; rfl, by rw [uA, q2]; rfl, r⟩
theorem RepE.last {ρ : Ev} {ix : Nat} {zs : List PH.D} {ws : List L2.V} (E : RepE K B φ S H ρ σ) (r : RepL K (kA B φ S) H zs ws) : RepE K B φ S H (GD ρ ix zs) (sR σ ix ws) := by
 unfold GD sR;rcases Fg r with ⟨q1, q2⟩ | ⟨d', v', q1, q2, r⟩
 ·rw [q1, q2]; exact E
 ·rw [q1, q2]; exact E.set (d := .dat d') r ix
def EH (cs : List Str) (ix il : Nat) (ρ : Ev) (r : Res (List PH.D)) : Out := match r with
 | .ok zs S3 => (match ρ[il]? with
  | some (some (.cel c)) => (match S3[c]? with
   | some (.lst xs) => if xs.length + zs.length <= sizeLine then .next (GD ρ ix zs) (S3.set c (.lst (xs ++ zs))) else .stuck
   | _ => .stuck)
  | _ => .stuck)
 | .err e S3 => if e.cls ∈ cs then .err e ρ S3 else .stuck
 | .stuck => .stuck
def HB (cs : List Str) (ix il : Nat) (md : Ny) (ρ : Ev) (ds : List Vl) (d : Vl) (S2 : aO) : Out := EH cs ix il ρ (md (ds ++ [d]) S2)
def HC (cs : List Str) (ix il n : Nat) (md : Ny) (ma : FE) (ρ : Ev) (ds : List Vl) (S1 : aO) : Out := if ds.length = n then (ma ρ S1).toS ρ (HB cs ix il md ρ ds) else .stuck
def Lh (cs : List Str) (ix il n : Nat) (md : Ny) (mas : FA) (ma : FE) : FS := fun ρ S => (mas ρ S).toS ρ (HC cs ix il n md ma ρ)
theorem OT {cs : List Str} {ix il nn : Nat} {md : Ny} (N : Tz K cs) (h : lG K W (Lh cs ix il nn md mas ma) D σ H) : U6 ix il (tGKT K W nn md mas ma) D σ H := by
 obtain ⟨B, φ, S, ρ, I, E, f⟩ := h;refine cM I E f fun φ' S' ds vs H1 I1 X1 E1 r1 f1 => ?_
 unfold HC at f1;split at f1
 case isFalse => exact f1.elim
 rename_i hl;refine cM I1 E1 f1 fun φ2 S2 d v H2 I2 X2 E2 r2 f2 => ?_
 refine ⟨by rw [r1.len]; exact hl, rfl, B, φ2, S2, ds ++ [d], I2, RepVs.snoc (r1.ext X2 I1) r2, ?_⟩
 unfold HB EH at f2;cases q : md (ds ++ [d]) S2 with
 | stuck => rw [q] at f2; exact f2.elim
 | err e S3 =>
  rw [q] at f2;dsimp only at f2;split at f2
  ·rename_i hc
   exact fun φ3 σ' c x H3 I3 X3 rx => ⟨f2 φ3 σ c x H3 I3 X3 (E2.ext X3 I2) rx, by rw [rx.1]; exact N _ hc⟩
  ·exact f2.elim
 | ok zs S3 =>
  rw [q] at f2;dsimp only at f2;intro φ3 a ws H3 I3 X3 ha nb rl;cases q1 : ρ[il]? with
  | none => rw [q1] at f2; exact f2.elim
  | some o =>
   rw [q1] at f2;cases o with
   | none => exact f2.elim
   | some vl =>
    cases vl with
    | dat _ => exact f2.elim
    | cels _ => exact f2.elim
    | scr _ => exact f2.elim
    | tc _ => exact f2.elim
    | cel c =>
     dsimp only at f2;obtain ⟨v2, hv2, ad, rfl, hφ⟩ := E2.2 il _ q1;have hφ3 := X3.ids _ _ hφ;cases q2 : S3[c]? with
     | none => rw [q2] at f2; exact f2.elim
     | some cl =>
      rw [q2] at f2;cases cl with
      | lst xs =>
       dsimp only at f2;split at f2
       ·rename_i hz
        obtain ⟨vs2, h2, l⟩ := I3.ok c _ ad q2 hφ3;have hne : a ≠ ad := fun e => nb (.inr ⟨c, _, q2, by simp, by rw [e]; exact hφ3⟩)
        have X4 := Ext.put (H := H3) (o := .lst (vs2 ++ ws)) (x := .lst (xs ++ zs)) q2 (by simp) hφ3 (by simp)
        have I4 : GInv K B φ3 (S3.set c (.lst (xs ++ zs))) (upd H3 ad (.lst (vs2 ++ ws))) := I3.put q2 (by simp) hφ3 (by simp) ⟨_, upd_same, X4.repL I3 (l.append rl)⟩
        exact ⟨ad, vs2, hv2, h2, hne, by rw [l.len, rl.len]; exact hz, f2 φ3 _ _ I4 (X3.trans X4) (RepE.last ((E2.ext X3 I2).ext X4 I3) (X4.repL I3 rl))⟩
       ·exact f2.elim
      | dead => exact f2.elim
      | ins _ _ => exact f2.elim
      | dct _ => exact f2.elim
      | lv _ => exact f2.elim
      | dki _ _ => exact f2.elim
      | dkt _ _ => exact f2.elim
theorem TH {j k nn ix il : Nat} {ps cs : List Str} {md : Ny} {kpos px pl px2 : Pos} {pa pc pe spos : Pos} {z l : Str} (T : ForGT X z l ix il pl px2 pa pc pe) (N : Tz X.K cs) (tk : Takes X W) (hp : PassesOwn (model X.prog X.w) X.A X.env X.xe)
  (F : Tx X.prog X.w X.K X.mg X.base j x ps nn kw (Mn X.K md)) (hr : Room k X.A) (ha : PA X (e :: es) (F8 X.K W mas)) (hv : PE X a (dC X.K W ma)) (hjk : j + 2 <= k := by decide) (hg : Gl X x := by rfl) (hdb : (x == ("__debug__" : Str)) = false := by decide)
  (hall : (backToKw pos (keywordEach [⟨some kw, a, kpos⟩] X.env)).all (·.1.isSome) = true := by rfl) (hks : (backToKw pos (keywordEach [⟨some kw, a, kpos⟩] X.env)).filterMap (·.1) = [kw] := by rfl)
  (he : starEach (e :: es) X.env = (false, eval e X.env) :: starEach es X.env := by rfl) (hpl : ((backTo pos (starEach (e :: es) X.env)).any (·.1) || (backToKw pos (keywordEach [⟨some kw, a, kpos⟩] X.env)).any (·.1.isNone)) = false := by rfl)
  (hs : ∀ v, foldedSetIterable (.Call (.Name x p) (e :: es) [⟨some kw, a, kpos⟩] pos) X.env v = pure v := by intro _; rfl) :
  PS X (.For (.Name z px) (.Call (.Name x p) (e :: es) [⟨some kw, a, kpos⟩] pos) [.Expr (.Call (.Attribute (.Name l pl) "append" pa) [.Name z px2] [] pc) pe] [] spos) (lG X.K W (Lh cs ix il nn md mas ma)) :=
 gH (Rm T hp (hr.mono hjk) (tk.imp fun _ _ _ _ h => h.1) (fun σ c d H h => h.2) (Ro F hr ha hv (by omega) hg hdb hall hks he hpl) hs) fun D σ H h => OT N h
end
section
variable {P : Program} {w : World} {K : aD} {mg : Str -> Option Value} {base : Heap}
theorem okGT {x kw : Str} {dv : L2.V} {st : Stmt} {N ps : List Str} {k n : Nat} {mb : L5} (F : FnK K x st kw dv) (g : mg x = some (.ref (He.ga K x))) (S : GScope N ps (defScope st)) (hn : n + 1 = ps.length)
  (b1 : ∀ (kV doc pm : Value) (an : Option Addr) (cdv ct : Value) (us ws : List Value), us.length = n -> ws.length = 1 -> bindArgs (dH x x (defArgs st) (defBody st) (defScope st) .none kV doc pm an cdv ct) ⟨us, [kw].zip ws⟩ = pure (ps.zip (us ++ ws)))
  (hbody : ∀ (cdv : Value) (A : Around) (outer : List Env) (s : Shared) (H : Hp) (E : XK) (pn : List (Addr × Obj)), Room k (A.deeper (envOfC x (defScope st) s.heap.objs.size (He.ga K x) cdv)) -> YSs (gcxOf P w K mg base N x (defScope st) (He.ga K x) cdv A outer s H E pn) (defBody st) (rdY K (fun c x _ H => E c x H) mb)) : Tx P w K mg base (k + 1) x ps n kw (Mn K (Oi N.length ps.length mb)) := by
 obtain ⟨fd, F⟩ := F;have kp := F.kp;obtain ⟨oc, od, dV, kV, doc, pm, an, cdv, ct, osl, rfl, lk, hcd, hD, hK⟩ := F.ex;have hlen : ∀ vs H Q E, Mn K (Oi N.length ps.length mb) vs H Q E -> vs.length = ps.length := fun vs H Q E ⟨B, φ, S, ds, I, r, f⟩ => by
  rw [r.len]
  by_cases h : ds.length = ps.length
  ·exact h
  ·unfold Oi at f
   rw [if_neg h] at f;exact f.elim
 refine ⟨_, SY lk hcd S hlen fun A outer s H vs Q E pn hr hsp => ⟨_, hbody cdv A outer s H E pn hr, ?_⟩, g, kp, ⟨fun s us ws _ l1 l2 => ?_, fun r1 r2 => r1.append r2⟩⟩
 ·have hv := hlen _ _ _ _ hsp
  obtain ⟨B, φ, S, ds, I, r, f⟩ := hsp;refine ⟨B, φ, S, envOf N.length ds, I, JW r, ?_⟩
  unfold Oi at f;rw [if_pos (by rw [<- r.len]; exact hv)] at f
  exact f
 ·rcases hD with ⟨_, rfl⟩ | ⟨e, _⟩
  ·exact .of_eq (b1 kV doc pm an cdv ct us ws l1 l2)
  ·exact absurd rfl e
end
section
variable {ρ : Ev} {S : aO} {m : FS} {n : L5} {me ma : FE} {mas : FA} {md : Ny} {cs : List Str} {ix il nn : Nat}
theorem Kk : Ft m n ρ S = Ls n (m ρ S) := rfl
theorem QJ : Lh cs ix il nn md mas ma ρ S = (mas ρ S).toS ρ (HC cs ix il nn md ma ρ) := rfl
theorem M3 {x y z : Vl} : HC cs ix il 3 md ma ρ [x, y, z] S = (ma ρ S).toS ρ (HB cs ix il md ρ [x, y, z]) := rfl
theorem M0 {x y z d : Vl} : HB cs ix il md ρ [x, y, z] d S = EH cs ix il ρ (md [x, y, z, d] S) := rfl
end
end PH
namespace L2
open PySem PySem.Spec PyProof.Rows
abbrev Jt := Value × Option Nat × (Addr -> Value -> Option Addr -> TS)
def Ends.gone (D : Ends) (i : Nat) : Ends := { nx := fun σ H => D.nx (σ.set i none) H, rt := D.rt, bk := fun σ H => D.bk (σ.set i none) H, ct := fun σ H => D.ct (σ.set i none) H }
def wishA (ts : Addr -> Value -> Option Addr -> TS) (o : Option Nat) (D : Ends) (a : Addr) (cls : Value) (d : Option Addr) (σ : St) (H : Hp) : Prop := match o with
 | none => ts a cls d D σ H
 | some i => ts a cls d (D.gone i) (σ.set i (some (.ref a))) H
def Bc (K : aD) (Wout : WX) (D : Ends) : List Jt -> WX
 | [] => Wout
 | z :: r => fun cls d σ H => ∃ b, Eu K cls z.1 = some b /\ (b = true -> ∀ a, H a = none -> wishA z.2.2 z.2.1 D a cls d σ H) /\ (b = false -> Bc K Wout D r cls d σ H)
inductive HdsA (X : Cx) : List ExceptHandler -> List Jt -> Prop
 | nil : HdsA X [] []
 | cons {x : Str} {c : Value} {ts : Addr -> Value -> Option Addr -> TS} {b₀ : Stmt} {suite : List Stmt} {np pos' : Pos} {hds : List ExceptHandler} {l : List Jt} (hc : Names X x c)
   (hsu : ∀ (a : Addr) (oe : Obj) (cls : Value) (d : Option Addr) (pn : List (Addr × Obj)), Zc cls d oe -> (∃ vs, oe.data = .fields vs) -> PSs (X.suite a ((a, oe) :: pn)) (b₀ :: suite) (ts a cls d)) (r : HdsA X hds l) :
   HdsA X (.ExceptHandler (some (.Name x np)) none (b₀ :: suite) pos' :: hds) ((c, none, ts) :: l)
 | consA {x n : Str} {i : Nat} {c : Value} {ts : Addr -> Value -> Option Addr -> TS} {b₀ : Stmt} {suite : List Stmt} {np pos' : Pos} {hds : List ExceptHandler} {l : List Jt} (hc : Names X x c) (hN : X.N.Nodup) (hi : X.N[i]? = some n) (hln : X.env.kindOf n = some .local)
   (hsu : ∀ (a : Addr) (oe : Obj) (cls : Value) (d : Option Addr) (pn : List (Addr × Obj)), Zc cls d oe -> (∃ vs, oe.data = .fields vs) -> PSs (X.suite a ((a, oe) :: pn)) (b₀ :: suite) (ts a cls d)) (r : HdsA X hds l) :
   HdsA X (.ExceptHandler (some (.Name x np)) (some n) (b₀ :: suite) pos' :: hds) ((c, some i, ts) :: l)
section
variable {X : Cx} {body : List Stmt} {h₀ : ExceptHandler} {hds : List ExceptHandler} {l : List Jt} {pos : Pos} {tb : WX -> TS} {Wout : WX}
theorem Gr (hs : X.stack = X.env :: X.outer) (hf : X.env.frame = some X.env.locals) (tk : Takes X Wout)
  (hb : ∀ (W : WX) (pn : List (Addr × Obj)) (xe : Value -> Shared -> Prop), Takes (X.tr pn xe) W -> PassesOwn (model X.prog X.w) X.A X.env xe -> PSs (X.tr pn xe) body (tb W))
  (hh : HdsA X (h₀ :: hds) l) : PS X (.Try body (h₀ :: hds) [] [] pos) (fun D σ H => tb (Bc X.K Wout D l) D σ H) := by
 refine ⟨fun pins s σ H D I hq => ?_⟩
 have okX := I.ok;have frm : X.A.frames = some (X.env :: X.outer) := by rw [okX.frames, hs]
 refine wpAny_Try_except ?_
 refine wpAny_mono ((hb (Bc X.K Wout D l) (X.pn ++ pins) (fun x s₁ => wpAny (model X.prog X.w) X.A (noteFrame x X.env) (fun _ s₂ => wpAny (model X.prog X.w) X.A (setFlight x none) (fun _ s₃ =>
  wpAny (model X.prog X.w) X.A (handleBy x X.env (h₀ :: hds)) (SP X pins D) X.xe s₃) X.xe s₂) X.xe s₁) (fun u s' xx => ?_) PassesOwn.looking).run [] s σ H D (I.toTry _) hq) (fun fl s1 hsp => ?_) (fun _ _ z => z)
 ·obtain ⟨ea, G, sI, pinT, σT, HT, cls, ed, rfl, JT, keepG, upT, skyT, noneA, osT, bareT, wish⟩ := xx
  have JI : Inv X pins σT HT sI := JT.ofTry okX;have skyE : Sky G (X.env :: X.outer) ea (Zc cls ed) X.env.locals s'.heap := by rw [<- hs]; exact skyT
  show wpAny (model X.prog X.w) X.A (noteFrame (.ref ea) X.env) _ _ _
  refine Sky.land Zc.steady frm hf skyE fun hA flA upA => ?_
  have JA : Inv X pins σT HT { s' with heap := hA } := JI.landed keepG flA.1 (upT.trans upA) osT bareT
  obtain ⟨oA, vA, atA, zA, dA⟩ := flA.there;have ea_fr : ea ∉ frs (X.env :: X.outer) := fun hm => by
   obtain ⟨_, o', e', hnf⟩ := flA.2.2.1.mem hm;rw [atA] at e'; cases e';exact hnf _ dA
  have ea_L : ea ≠ X.env.locals := fun z => ea_fr (CM.mpr ⟨X.env, aV, by rw [hf, z]⟩)
  have ea_F : ea ∉ X.fs := fun hm => by
   obtain ⟨e1, he1, q1⟩ := CM.mp hm;exact ea_fr (CM.mpr ⟨e1, aM _ he1, q1⟩)
  have SA := JA.suite atA dA noneA ea_L ea_F;have tested : ∀ {x : Str} {c : Value} {np : Pos} (hc : Names X x c) {Q : Value -> Shared -> Prop} {E : Value -> Shared -> Prop}, Q c { s' with heap := hA } -> wpAny (model X.prog X.w) (X.A.mark (some (.ref ea))) (eval (.Name x np) X.env) Q E { s' with heap := hA } := fun {x c np} hc {Q E} q => by
   obtain ⟨hg, hdbg, hm | ⟨hm, hv, hnn⟩⟩ := hc
   ·exact ld_glob (X := X.suite ea ((ea, oA) :: (X.pn ++ pins))) SA hg hm q hdbg
   ·exact ld_blt (X := X.suite ea ((ea, oA) :: (X.pn ++ pins))) SA hg hm hv q hnn hdbg
  have lookA : PySem.W.Looks (model X.prog X.w) hA (typeOf (.ref ea)) cls := fun A Q E s k q => wpAny_typeOf_ref (k _ _ atA) (by rw [zA.1]; exact q)
  have clauses : ∀ {hds' : List ExceptHandler} {l' : List Jt}, HdsA X hds' l' -> Bc X.K Wout D l' cls ed σT HT -> wpAny (model X.prog X.w) X.A (handleBy (.ref ea) X.env hds') (SP X pins D) X.xe { s' with heap := hA } := by
   intro hds' l' hk
   induction hk with
   | nil =>
    intro w;refine wpAny_handleBy_nil ?_
    obtain ⟨_, _, _, oB, vB, T, oT, tB, atB, zB, dB, h1B, _⟩ := id flA;unfold PySem.passOn;refine wpAny_bind (wpAny_field atB dB h1B ?_)
    rw [if_neg (show ¬ ((Value.ref T == Value.none) = true) from by simp)]
    have on : wpAny (model X.prog X.w) X.A (setFlight (.ref ea) X.env.frame) (fun _ sB => wpAny (model X.prog X.w) X.A (throw (.ref ea) : Sem Flow) (SP X pins D) X.xe sB) X.xe { s' with heap := hA } := by
     rw [hf];refine HandSPX.setFlight_upZ flA fun hB landB upB => wpAny_throw (tk _ _ ?_)
     exact ⟨ea, G, sI, pins, σT, HT, cls, ed, rfl, JI, keepG, (upT.trans upA).trans upB, .inr (.inr (by rw [hs]; exact landB)), noneA, osT, bareT, w⟩
    first
     | exact wpAny_bind (wpAny_pure (wpAny_bind on))
     | exact wpAny_bind on
   | @cons x c ts b₀ suite np pos' hds2 l2 hc hsu r ih =>
    intro w;obtain ⟨b, hb1, hyes, hno⟩ := w;refine wpAny_handleBy_cons (codeAny_handlers_test (tested hc ((PySem.W.exm_one (M := model X.prog X.w) JA.kIn lookA hb1).here ?_))) (by intro q; cases q)
    cases b with
    | true =>
     refine codeAny_handlers_suite (HandSPX.lands_againZ flA fun hB flB upB => ?_)
     obtain ⟨oB, vB, atB, zB, dB⟩ := flB.there;have JB : Inv X pins σT HT { s' with heap := hB } := JI.landed keepG flB.1 ((upT.trans upA).trans upB) osT bareT
     have SB := JB.suite atB dB noneA ea_L ea_F;refine wpAny_mono ((hsu ea oB cls ed (X.pn ++ pins) zB ⟨_, dB⟩).run [] _ _ HT _ SB (hyes rfl ea noneA)) (fun fl s6 hsp => ?_) (fun _ _ z => False.elim z)
     cases fl with
     | next => obtain ⟨σ6, H6, S6, q6⟩ := hsp; exact ⟨_, _, S6.unsuite okX, q6⟩
     | brk => obtain ⟨σ6, H6, S6, q6⟩ := hsp; exact ⟨_, _, S6.unsuite okX, q6⟩
     | cont => obtain ⟨σ6, H6, S6, q6⟩ := hsp; exact ⟨_, _, S6.unsuite okX, q6⟩
     | ret u => obtain ⟨v6, σ6, H6, S6, r6, q6⟩ := hsp; exact ⟨_, _, _, S6.unsuite okX, r6, q6⟩
    | false => exact ih (hno rfl)
   | @consA x n i c ts b₀ suite np pos' hds2 l2 hc hN hi hln hsu r ih =>
    intro w;obtain ⟨b, hb1, hyes, hno⟩ := w;refine wpAny_handleBy_cons (codeAny_handlers_test (tested hc ((PySem.W.exm_one (M := model X.prog X.w) JA.kIn lookA hb1).here ?_))) (by intro q; cases q)
    cases b with
    | true =>
     refine codeAny_handlers_suite_as (HandSPX.lands_againZ flA fun hB flB upB => ?_)
     obtain ⟨oB, vB, atB, zB, dB⟩ := flB.there;have JB : Inv X pins σT HT { s' with heap := hB } := JI.landed keepG flB.1 ((upT.trans upA).trans upB) osT bareT
     have SB := JB.suite atB dB noneA ea_L ea_F;refine store_ok (X := X.suite ea ((ea, oB) :: (X.pn ++ pins))) (v := .ref ea) SB hN hi (.inl hln) rfl (fun s5 S5 => ?_) (.inr hln)
     refine wpAny_mono ((hsu ea oB cls ed (X.pn ++ pins) zB ⟨_, dB⟩).run [] s5 _ HT _ S5 (hyes rfl ea noneA)) (fun fl s6 hsp => ?_) (fun _ _ z => False.elim z)
     have unbound : ∀ {σ6 : St} {H6 : Hp} {Q : Shared -> Prop}, Inv (X.suite ea ((ea, oB) :: (X.pn ++ pins))) [] σ6 H6 s6 -> (∀ s7, Inv X pins (σ6.set i none) H6 s7 -> Q s7) ->
       wpAny (model X.prog X.w) X.A (do bindName X.env n .none; unbindBehindTheSuite X.env n pos') (fun _ s7 => Q s7) X.xe s6 := fun {σ6 H6 Q} S6 hq => gone_ok (S6.unsuite okX) hN hi hln hq
     cases fl with
     | next => obtain ⟨σ6, H6, S6, q6⟩ := hsp; exact unbound S6 fun s7 J7 => ⟨_, _, J7, q6⟩
     | brk => obtain ⟨σ6, H6, S6, q6⟩ := hsp; exact unbound S6 fun s7 J7 => ⟨_, _, J7, q6⟩
     | cont => obtain ⟨σ6, H6, S6, q6⟩ := hsp; exact unbound S6 fun s7 J7 => ⟨_, _, J7, q6⟩
     | ret u => obtain ⟨v6, σ6, H6, S6, r6, q6⟩ := hsp; exact unbound S6 fun s7 J7 => ⟨_, _, _, J7, r6, q6⟩
    | false => exact ih (hno rfl)
  exact clauses hh wish
 ·cases fl with
  | next => obtain ⟨σ1, H1, J1, q1⟩ := hsp; exact wpAny_execs_nil ⟨σ1, H1, J1.ofTry okX, q1⟩
  | brk => obtain ⟨σ1, H1, J1, q1⟩ := hsp; exact ⟨σ1, H1, J1.ofTry okX, q1⟩
  | cont => obtain ⟨σ1, H1, J1, q1⟩ := hsp; exact ⟨σ1, H1, J1.ofTry okX, q1⟩
  | ret u => obtain ⟨v1, σ1, H1, J1, r1, q1⟩ := hsp; exact ⟨v1, σ1, H1, J1.ofTry okX, r1, q1⟩
end
end L2
namespace PH
open PySem PySem.Spec PyProof.Rows L2
inductive XJ where
 | c (v : L2.V) (d : PH.D) | f (n : Str) | v (i : Nat) | fl (n : Str) (i : Nat)
def jR (K : aD) (a : Addr) (cls : Value) (d : Option Addr) (C : Addr) (k : Nat) : List XJ -> TA
 | [] => tNil
 | .c v _ :: r => tCons (tC v) (jR K a cls d C k r)
 | .f n :: r => tCons (tXf a cls d C n (uO k)) (jR K a cls d C k r)
 | .v i :: r => tCons (uO i) (jR K a cls d C k r)
 | .fl n i :: r => tCons (fun σ H Q => tXf a cls d C n (uO k) σ H fun x H1 => tCB (c1 (Ti K)) (tCons (uO i) tNil) σ H1 fun y H2 => Tn K x y H2 Q) (jR K a cls d C k r)
def jF (e : Er) (ρ : Ev) (S : aO) : List XJ -> Option (List PH.D × aO)
 | [] => some ([], S)
 | .c _ d :: r => (match jF e ρ S r with
  | some (ds, S') => some (d :: ds, S')
  | none => none)
 | .f n :: r => (match (e.ns.zip e.xs).lookup n, jF e ρ S r with
  | some d, some (ds, S') => some (d :: ds, S')
  | _, _ => none)
 | .v i :: r => (match ρ[i]? with
  | some (some (.cel m)) => (match S[m]? with
   | some (.lst xs) => (match jF e ρ (S.set m .dead) r with
    | some (ds, S') => some (.lst xs :: ds, S')
    | none => none)
   | _ => none)
  | _ => none)
 | .fl n i :: r => (match (e.ns.zip e.xs).lookup n, ρ[i]? with
  | some (.int z), some (some (.cel m)) => (match S[m]? with
   | some (.lst xs) => (match jF e ρ S r with
    | some (ds, S') => some (.int (z + xs.length) :: ds, S')
    | none => none)
   | _ => none)
  | _, _ => none)
def jOk : List XJ -> Prop
 | [] => True
 | .c v d :: r => (∀ (K : aD) (Bk : Addr -> Prop) (H : Hp), Rep K Bk H d v) /\ jOk r
 | _ :: r => jOk r
section
variable {X : Cx} {W : WX} {e : Expr} {es : List Expr} {pos : Pos} {K : aD} {B : Addr -> Prop} {φ φ' : List Addr} {S S' : aO} {H H' : Hp} {σ : L2.St} {m : FS} {D : Ends} {cs : List Str} {x : Str}
theorem U9 {er : Er} {cl : Value} {xd : Option Addr} {C : Str} {k : Nat} {a : Addr} {n : Str} {z : PH.D} {Q : L2.VK} (rx : RepX K B φ S H er cl xd) (hC : er.cls = C) (hσ : sl σ k = some (.ref a)) (q0 : (er.ns.zip er.xs).lookup n = some z)
  (q : ∀ v, Rep K (kA B φ S) H z v -> Q v H) : tXf a cl xd (He.ga K C) n (uO k) σ H Q := by
 obtain ⟨ec, rest⟩ := rx;subst hC;rcases rest with ⟨e1, _⟩ | ⟨dd, us, e1, e2, l⟩
 ·rw [e1] at q0; simp at q0
 ·obtain ⟨v, h2, h3⟩ := DJ l q0
  show (match sl σ k with | some v => _ | none => False)
  rw [hσ];exact ⟨rfl, ec, dd, _, v, e1, e2, h2, q v h3⟩
theorem RepX.kill {er : Er} {cl : Value} {xd : Option Addr} {n : Nat} (rx : RepX K B φ S H er cl xd) (I : GInv K B φ S H) : RepX K B φ (S.set n .dead) H er cl xd := by
 obtain ⟨h1, h2⟩ := rx;refine ⟨h1, ?_⟩
 rcases h2 with h2 | ⟨dd, us, e1, e2, l⟩
 ·exact .inl h2
 ·exact .inr ⟨dd, us, e1, e2, Ext.kill.repL I l⟩
theorem J2 {er : Er} {cl : Value} {xd : Option Addr} {C : Str} {k : Nat} {a : Addr} {ρ : Ev} (hC : er.cls = C) (hσ : sl σ k = some (.ref a)) : ∀ {its : List XJ} {S : aO} {ds : List PH.D} {S' : aO} {Q : List L2.V -> Hp -> Prop}, jOk its -> RepX K B φ S H er cl xd -> GInv K B φ S H -> RepE K B φ S H ρ σ -> jF er ρ S its = some (ds, S') ->
  (∀ vs, GInv K B φ S' H -> Ext φ S H φ S' H -> RepL K (kA B φ S') H ds vs -> Q vs H) -> jR K a cl xd (He.ga K C) k its σ H Q
 | [], S, ds, S', Q, ok, rx, I, E, h, q => by
  cases h; exact q [] I Ext.refl rfl
 | .c v d :: r, S, ds, S', Q, ok, rx, I, E, h, q => by
  unfold jF at h;cases q1 : jF er ρ S r with
  | none => rw [q1] at h; cases h
  | some o =>
   obtain ⟨es, T⟩ := o;rw [q1] at h;cases h
   show jR K a cl xd (He.ga K C) k r σ H fun vs H' => Q (v :: vs) H'
   exact J2 (Q := fun vs H' => Q (v :: vs) H') hC hσ ok.2 rx I E q1 fun vs I' X' l => q (v :: vs) I' X' ⟨v, vs, rfl, ok.1 _ _ _, l⟩
 | .f n :: r, S, ds, S', Q, ok, rx, I, E, h, q => by
  unfold jF at h;cases q0 : (er.ns.zip er.xs).lookup n with
  | none => rw [q0] at h; cases h
  | some z =>
   cases q1 : jF er ρ S r with
   | none => rw [q0, q1] at h; cases h
   | some o =>
    obtain ⟨es, T⟩ := o;rw [q0, q1] at h;cases h
    show tXf a cl xd (He.ga K C) n (uO k) σ H fun v H3 => jR K a cl xd (He.ga K C) k r σ H3 fun vs H' => Q (v :: vs) H'
    refine U9 rx hC hσ q0 fun v rv => ?_
    show jR K a cl xd (He.ga K C) k r σ H fun vs H' => Q (v :: vs) H'
    exact J2 (Q := fun vs H' => Q (v :: vs) H') hC hσ ok rx I E q1 fun vs I' X' l => q (v :: vs) I' X' ⟨v, vs, rfl, Rep.kp (X'.kp I) _ _ rv, l⟩
 | .v i :: r, S, ds, S', Q, ok, rx, I, E, h, q => by
  unfold jF at h;split at h
  ·rename_i mm q0
   split at h
   ·rename_i xs q2
    split at h
    ·rename_i es T q1
     cases h;obtain ⟨v, hv, ad, rfl, hφ⟩ := E.2 i _ q0;obtain ⟨ws, h2, l2⟩ := I.ok mm _ ad q2 hφ;have X1 := Ext.kill (φ := φ) (S := S) (H := H) (n := mm);have I1 := I.kill (n := mm);have nb := I.killed q2 (by simp) hφ
     show (match sl σ i with | some v => _ | none => False)
     rw [LQ hv];exact J2 (Q := fun vs H' => Q (.ref ad :: vs) H') hC hσ ok (rx.kill I) I1 (E.ext X1 I) q1 fun vs I' X' l => q (.ref ad :: vs) I' (X1.trans X') ⟨.ref ad, vs, rfl, ⟨ad, ws, rfl, ((X'.kp I1).old _ _ h2 nb).2, h2, X'.repL I1 (X1.repL I l2)⟩, l⟩
    ·cases h
   ·cases h
  ·cases h
 | .fl n i :: r, S, ds, S', Q, ok, rx, I, E, h, q => by
  unfold jF at h;split at h
  ·rename_i z mm q0 q3
   split at h
   ·rename_i xs q2
    split at h
    ·rename_i es T q1
     cases h;obtain ⟨v, hv, ad, rfl, hφ⟩ := E.2 i _ q3;obtain ⟨ws, h2, l2⟩ := I.ok mm _ ad q2 hφ
     show tXf a cl xd (He.ga K C) n (uO k) σ H fun x H1 => tCB (c1 (Ti K)) (tCons (uO i) tNil) σ H1 fun y H2 => Tn K x y H2 fun v H3 => jR K a cl xd (He.ga K C) k r σ H3 fun vs H' => Q (v :: vs) H'
     refine U9 rx hC hσ q0 fun v rv => ?_
     cases rv
     show (match sl σ i with | some v => _ | none => False)
     rw [LQ hv];refine ⟨ws, .inl (SqL.of h2), ?_⟩
     show jR K a cl xd (He.ga K C) k r σ H fun vs H' => Q (.int (z + ws.length) :: vs) H'
     rw [l2.len];exact J2 (Q := fun vs H' => Q (.int (z + xs.length) :: vs) H') hC hσ ok rx I E q1 fun vs I' X' l => q (.int (z + xs.length) :: vs) I' X' ⟨.int (z + xs.length), vs, rfl, rfl, l⟩
    ·cases h
   ·cases h
  ·cases h
theorem KW {a : Addr} {cls : Value} {d : Option Addr} {C : Addr} {k : Nat} : PA X [] (jR X.K a cls d C k []) := pa_nil
theorem VZ {a : Addr} {cls : Value} {d : Option Addr} {C : Addr} {k : Nat} {v : L2.V} {dd : PH.D} {its : List XJ} (h : PE X e (tC v)) (r : PA X es (jR X.K a cls d C k its)) (hs : starEach (e :: es) X.env = (false, eval e X.env) :: starEach es X.env := by rfl) : PA X (e :: es) (jR X.K a cls d C k (.c v dd :: its)) := pa_cons h r hs
theorem jx_f {a : Addr} {oe : Obj} {cls : Value} {d : Option Addr} {C : Addr} {k : Nat} {pn : List (Addr × Obj)} {nm : Str} {its : List XJ} (T : XfC X.K C) (hno : iO X.K (.ref C) nm = some none) (hz : Zc cls d oe) (hf : ∃ vs, oe.data = .fields vs) (he : PE (X.suite a ((a, oe) :: pn)) e (uO k)) (r : PA (X.suite a ((a, oe) :: pn)) es (jR X.K a cls d C k its))
  (hb : attributeBase e nm X.env (eval e X.env) = eval e X.env := by rfl) (hs : starEach (.Attribute e nm pos :: es) X.env = (false, eval (.Attribute e nm pos) X.env) :: starEach es X.env := by rfl) : PA (X.suite a ((a, oe) :: pn)) (.Attribute e nm pos :: es) (jR X.K a cls d C k (.f nm :: its)) := pa_cons (pe_xf T hno hz hf he hb) r hs
theorem jx_fl {a : Addr} {oe : Obj} {cls : Value} {d : Option Addr} {C : Addr} {k i : Nat} {pn : List (Addr × Obj)} {nm : Str} {its : List XJ} {l : Expr} {p p1 p2 : Pos} (T : XfC X.K C) (hno : iO X.K (.ref C) nm = some none) (hz : Zc cls d oe) (hf : ∃ vs, oe.data = .fields vs) (hm : X.mg "len" = none) (he : PE (X.suite a ((a, oe) :: pn)) e (uO k)) (hl : PE (X.suite a ((a, oe) :: pn)) l (uO i)) (r : PA (X.suite a ((a, oe) :: pn)) es (jR X.K a cls d C k its))
  (hb : attributeBase e nm X.env (eval e X.env) = eval e X.env := by rfl) (hg : Gl X "len" := by rfl) (hsl : starEach [l] X.env = [(false, eval l X.env)] := by rfl) (hs : starEach (.BinOp (.Attribute e nm pos) .Add (.Call (.Name "len" p) [l] [] p1) p2 :: es) X.env = (false, eval (.BinOp (.Attribute e nm pos) .Add (.Call (.Name "len" p) [l] [] p1) p2) X.env) :: starEach es X.env := by rfl) :
  PA (X.suite a ((a, oe) :: pn)) (.BinOp (.Attribute e nm pos) .Add (.Call (.Name "len" p) [l] [] p1) p2 :: es) (jR X.K a cls d C k (.fl nm i :: its)) := pa_cons (pe_op cA (pe_xf T hno hz hf he hb) (Uc (X := X.suite a ((a, oe) :: pn)) hm hl hg hsl)) r hs
inductive HJ where
 | m (f : FS) | j (k : Nat) (its : List XJ)
def vO (cs : List Str) : List (Str × HJ) -> Er -> Ev -> aO -> Out
 | [], e, ρ, S => .err e ρ S
 | (c, .m m) :: r, e, ρ, S => if e.cls = c then (match m ρ S with
   | .err _ _ _ => .stuck
   | o => o) else vO cs r e ρ S
 | (c, .j k its) :: r, e, ρ, S => if e.cls = c then (if k < ρ.length then (match jF e (ρ.set k none) S its with
   | some (ds, S') => if ds.length <= sizeLine then .ret (.dat (.tup ds)) S' else .stuck
   | none => .stuck) else .stuck) else vO cs r e ρ S
def Pn : List (Str × HJ) -> Prop
 | [] => True
 | (_, .m _) :: r => Pn r
 | (_, .j _ its) :: r => jOk its /\ Pn r
def CQ (cs : List Str) (m : FS) (hs : List (Str × HJ)) : FS := fun ρ S => match m ρ S with
 | .err e ρ' S' => if e.cls ∈ cs /\ ∀ h ∈ hs, h.1 ∈ cs then vO cs hs e ρ' S' else .stuck
 | o => o
def hjR (K : aD) : Str × HJ -> Jt
 | (c, .m m) => (.ref (He.ga K c), none, fun _ _ _ => lG K wNo m)
 | (c, .j k its) => (.ref (He.ga K c), some k, fun a cls d => tRet (tTup (jR K a cls d (He.ga K c) k its)))
def UT (K : aD) (hs : List (Str × HJ)) : List Jt := hs.map (hjR K)
theorem RepE.wipe1 {ρ : Ev} {v : L2.V} (E : RepE K B φ S H ρ σ) (k : Nat) : RepE K B φ S H (ρ.set k none) (σ.set k (some v)) := by
 refine ⟨by simp [E.1], fun i d h => ?_⟩
 by_cases e : k = i
 ·subst e
  rw [aT, if_pos rfl] at h;split at h
  ·cases h
  ·cases h
 ·rw [aT, if_neg e] at h ⊢
  exact E.2 i d h
theorem A2 {e : Er} {c : Value} {d : Option Addr} {Wout : WX} (M : XMs K cs) (he : e.cls ∈ cs) (rx : RepX K B φ S H e c d) (I : GInv K B φ S H) {ρ : Ev} (E : RepE K B φ S H ρ σ) : ∀ {hs : List (Str × HJ)}, Pn hs -> (∀ h ∈ hs, h.1 ∈ cs) -> FinS K Wout D B φ S H (vO cs hs e ρ S) -> Bc K Wout D (UT K hs) c d σ H
 | [], _, _, f => f φ σ c d H I Ext.refl E rx
 | (c', .m m) :: r, ok, hc, f => by
  unfold vO at f;have q := M e.cls he c' (hc _ (aV ..));have ec : c = .ref (He.ga K e.cls) := rx.1;refine ⟨decide (e.cls = c'), by rw [ec]; exact q, fun h a na => ?_, fun h => ?_⟩
  ·rw [if_pos (of_decide_eq_true h)] at f
   exact ⟨B, φ, S, ρ, I, E, f.wNo⟩
  ·rw [if_neg (of_decide_eq_false h)] at f
   exact A2 M he rx I E (hs := r) ok (fun h hh => hc h (aM _ hh)) f
 | (c', .j k its) :: r, ok, hc, f => by
  unfold vO at f;have q := M e.cls he c' (hc _ (aV ..));have ec : c = .ref (He.ga K e.cls) := rx.1;refine ⟨decide (e.cls = c'), by rw [ec]; exact q, fun h a na => ?_, fun h => ?_⟩
  ·have ecl := of_decide_eq_true h
   rw [if_pos ecl] at f;split at f
   ·rename_i hk
    split at f
    ·rename_i ds T qd
     split at f
     ·rename_i hsz
      have hl : k < σ.length := by rw [<- E.1]; exact hk
      refine J2 (σ := σ.set k (some (.ref a))) ecl (LQ (by rw [aT, if_pos rfl, if_pos hl])) ok.1 rx I (E.wipe1 k) qd fun vs I' X' l => ⟨by rw [l.len]; exact hsz, fun p hp => ?_⟩
      have X2 := Ext.new (o := .tup vs) I' hp;exact f φ _ _ (I'.new hp) (X'.trans X2) ⟨p, vs, rfl, .inl (.inl upd_same), X2.repL I' l⟩
     ·exact f.elim
    ·exact f.elim
   ·exact f.elim
  ·rw [if_neg (of_decide_eq_false h)] at f
   exact A2 M he rx I E (hs := r) ok.2 (fun h hh => hc h (aM _ hh)) f
theorem OR {hs : List (Str × HJ)} (M : XMs K cs) (ok : Pn hs) (h : lG K W (CQ cs m hs) D σ H) : lG K (Bc K W D (UT K hs)) m D σ H := by
 obtain ⟨B, φ, S, ρ, I, E, f⟩ := h;refine ⟨B, φ, S, ρ, I, E, ?_⟩
 unfold CQ at f;cases q : m ρ S with
 | err e ρ' S' =>
  rw [q] at f;dsimp only at f;split at f
  ·rename_i hh
   exact fun φ' σ' c x H' I' X' E' r => A2 M hh.1 r I' E' ok hh.2 (FinS.ext f X')
  ·exact f.elim
 | next ρ S' => rw [q] at f; exact f
 | ret d S' => rw [q] at f; exact f
 | brk ρ S' => rw [q] at f; exact f
 | cnt ρ S' => rw [q] at f; exact f
 | stuck => rw [q] at f; exact f
theorem HN {body : List Stmt} {h₀ : ExceptHandler} {hds : List ExceptHandler} {hs' : List (Str × HJ)} (M : XMs X.K cs) (ok : Pn hs') (hs : X.stack = X.env :: X.outer) (hf : X.env.frame = some X.env.locals) (tk : Takes X W)
  (hb : ∀ (W : WX) (pn : List (Addr × Obj)) (xe : Value -> Shared -> Prop), Takes (X.tr pn xe) W -> PassesOwn (model X.prog X.w) X.A X.env xe -> PSs (X.tr pn xe) body (lG X.K W m))
  (hh : HdsA X (h₀ :: hds) (UT X.K hs')) : PS X (.Try body (h₀ :: hds) [] [] pos) (lG X.K W (CQ cs m hs')) := gH (Gr (tb := fun W => lG X.K W m) hs hf tk hb hh) fun D σ H h => OR M ok h
theorem Kh : HdsA X [] (UT X.K []) := .nil
theorem Ar {b₀ : Stmt} {suite : List Stmt} {hds : List ExceptHandler} {m : FS} {hs' : List (Str × HJ)} {np pos' : Pos} (g : X.mg x = some (.ref (He.ga X.K x)))
  (hsu : ∀ (a : Addr) (oe : Obj) (cls : Value) (d : Option Addr) (pn : List (Addr × Obj)), PSs (X.suite a ((a, oe) :: pn)) (b₀ :: suite) (lG X.K wNo m)) (r : HdsA X hds (UT X.K hs')) (hg : Gl X x := by rfl) (hd : (x == ("__debug__" : Str)) = false := by decide) :
  HdsA X (.ExceptHandler (some (.Name x np)) none (b₀ :: suite) pos' :: hds) (UT X.K ((x, .m m) :: hs')) := .cons ⟨hg, hd, .inl g⟩ (fun a oe cls d pn _ _ => hsu a oe cls d pn) r
theorem Pm {b₀ : Stmt} {suite : List Stmt} {hds : List ExceptHandler} {k : Nat} {its : List XJ} {n : Str} {hs' : List (Str × HJ)} {np pos' : Pos} (g : X.mg x = some (.ref (He.ga X.K x))) (hN : X.N.Nodup) (hi : X.N[k]? = some n) (hln : X.env.kindOf n = some .local)
  (hsu : ∀ (a : Addr) (oe : Obj) (cls : Value) (d : Option Addr) (pn : List (Addr × Obj)), Zc cls d oe -> (∃ vs, oe.data = .fields vs) -> PSs (X.suite a ((a, oe) :: pn)) (b₀ :: suite) (tRet (tTup (jR X.K a cls d (He.ga X.K x) k its)))) (r : HdsA X hds (UT X.K hs')) (hg : Gl X x := by rfl) (hd : (x == ("__debug__" : Str)) = false := by decide) :
  HdsA X (.ExceptHandler (some (.Name x np)) (some n) (b₀ :: suite) pos' :: hds) (UT X.K ((x, .j k its) :: hs')) := .consA ⟨hg, hd, .inl g⟩ hN hi hln hsu r
end
section
variable {ρ : Ev} {S : aO} {m : FS} {cs : List Str} {hs : List (Str × HJ)} {e : Er}
def rQ (cs : List Str) (hs : List (Str × HJ)) (o : Out) : Out := match o with
 | .err e ρ' S' => if e.cls ∈ cs /\ ∀ h ∈ hs, h.1 ∈ cs then vO cs hs e ρ' S' else .stuck
 | o => o
theorem EL : CQ cs m hs ρ S = rQ cs hs (m ρ S) := by
 unfold CQ rQ;cases m ρ S <;> rfl
end
end PH
namespace PH
open PySem PySem.Spec PyProof PyProof.Rows L2
theorem Ry {n : Nat} {fa : List He.Fa} {fn : List He.DefD} {ts : List He.Tab} {ex : aD -> Bool} {g : Addr -> Option Obj} {s : Shared} (h : ∀ a, g a = s.heap.get? a) : VA n fa fn ts ex g = (UU n fa fn ts ex).obs s := by
 have e : g = s.heap.get? := funext h;rw [e] <;> rfl
section
variable {X : Cx} {W : WX}
theorem fI {i j pos} : PE X (.Constant (.int i) j pos) (dC X.K W (mC (.int i))) := QT pe_int fun _ _ => rfl
theorem fS {x j pos} : PE X (.Constant (.str x) j pos) (dC X.K W (mC (.str x))) := QT pe_str fun _ _ => rfl
theorem fB {b j pos} : PE X (.Constant (.bool b) j pos) (dC X.K W (mC (.bl b))) := QT pe_bl fun _ _ => rfl
theorem fN {j pos} : PE X (.Constant .none j pos) (dC X.K W (mC .non)) := QT pe_non fun _ _ => rfl
end
section
variable {P : Program} {w : World} {K : aD} {mg : Str -> Option Value} {base : Heap}
theorem iH {x : Str} {st : Stmt} {N ps : List Str} {k : Nat} {md : FD} {mb : FS} (F : pQ K x st) (g : mg x = some (.ref (He.ga K x))) (S : FnScope N ps (defScope st)) (R : Runs md N.length ps.length mb)
  (bnd : ∀ (kV doc pm : Value) (an : Option Addr) (cdv ct : Value) (us : List Value), us.length = ps.length -> bindArgs (dH x x (defArgs st) (defBody st) (defScope st) .none kV doc pm an cdv ct) ⟨us, []⟩ = pure (ps.zip us))
  (hbody : ∀ (cdv : Value) (A : Around) (outer : List Env) (s : Shared) (H : Hp) (E : XK), Room k (A.deeper (envOfC x (defScope st) s.heap.objs.size (He.ga K x) cdv)) ->
   Takes (cxOf (L2.CX P w) P w K mg base N x (defScope st) (He.ga K x) cdv A outer s H E) (fun c x _ H => E c x H) -> N.Nodup ->
   PSs (cxOf (L2.CX P w) P w K mg base N x (defScope st) (He.ga K x) cdv A outer s H E) (defBody st) (lG K (fun c x _ H => E c x H) mb)) : qR P w K mg base (k + 1) x ps (spF K md) :=
 okF F g S R bnd fun cdv A outer s H E hr => hbody cdv A outer s H E hr (takes_of (X := cxOf (L2.CX P w) P w K mg base N x (defScope st) (He.ga K x) cdv A outer s H E) (E := E) rfl rfl rfl rfl) S.nd
theorem zI {C m q : Str} {st : Stmt} {N ps : List Str} {k : Nat} {md : FD} {mb : FS} (F : Jz K C m q st) (g : Meth K (He.ga K C) m (He.ma K (He.ga K C) m)) (S : FnScope N ps (defScope st)) (R : Runs md N.length ps.length mb)
  (bnd : ∀ (kV doc pm : Value) (an : Option Addr) (cdv ct : Value) (us : List Value), us.length = ps.length -> bindArgs (dH m q (defArgs st) (defBody st) (defScope st) .none kV doc pm an cdv ct) ⟨us, []⟩ = pure (ps.zip us))
  (hbody : ∀ (cdv : Value) (A : Around) (outer : List Env) (s : Shared) (H : Hp) (E : XK), Room k (A.deeper (envOfC q (defScope st) s.heap.objs.size (He.ma K (He.ga K C) m) cdv)) ->
   Takes (cxOf (L2.CX P w) P w K mg base N q (defScope st) (He.ma K (He.ga K C) m) cdv A outer s H E) (fun c x _ H => E c x H) -> N.Nodup ->
   PSs (cxOf (L2.CX P w) P w K mg base N q (defScope st) (He.ma K (He.ga K C) m) cdv A outer s H E) (defBody st) (lG K (fun c x _ H => E c x H) mb)) : OkMX P w K mg base (k + 1) C m ps (spF K md) :=
 okFM F g S R bnd fun cdv A outer s H E hr => hbody cdv A outer s H E hr (takes_of (X := cxOf (L2.CX P w) P w K mg base N q (defScope st) (He.ma K (He.ga K C) m) cdv A outer s H E) (E := E) rfl rfl rfl rfl) S.nd
end
end PH
namespace PH
open PySem PySem.Spec PyProof.Rows L2
def qP : FS :=
 (bQ (pJ (m1 (fIsi "int") (aC 0)) (P6 (m1 (fIsi "bool") (aC 0)))))
def eK : FD := run 1 1 qP
def uP : FS :=
 (bQ (pJ (bE eK (aB (aC 0) aL)) (tU Nx Nx (mC (.int 0)) (aC 0) (mC (.int 1)))))
def rL : FD := run 1 1 uP
def nN : FE :=
 (pJ (bE eK (aB (aC 4) aL)) (tU Nx Nx (aC 2) (aC 4) (aC 3)))
def kR : FS :=
 (aS (cF (Et (nA (fP (m1 (fIsi "tuple") (aC 0)))) (mB (aU fT (m1 eW (aC 0)) (mC (.int 0))))) (bQ (mC (.bl false))) bM)
 (aS (cF (Et (nA (fP (m1 (fIsi "str") (aU cH (aC 0) (mC (.int 0)))))) (mB (m1 (iA true) (aU cH (aC 0) (mC (.int 0)))))) (bQ (mC (.bl false))) bM)
 (aS (cN (m1 CD (aU cH (aC 0) (mC (.int 0)))) (.tp [1, 2, 3]))
 (aS (cF (mB (aU Jx (m1 eW (aC 0)) (aU (dY false) (aC 1) (mC (.int 1))))) (bQ (mC (.bl false))) bM)
 (bQ (m1 EU (BX false (jU (Bv false (aC 0) (gM (mC (.int 1))) qJ)) (.nm 4) gO nN [4])))))))
def gX : FD := run 5 1 kR
def tF : FS :=
 (aS (cN (aU cH (aC 0) (mC (.int 0))) (.nm 1))
 (aS (cF (Et (mB (aU fT (aC 1) (mC (.str "keep")))) (mB (aU fT (aC 1) (mC (.str "again"))))) (bQ (eB false (aB (aU cH (aC 0) (mC (.int 1))) aL))) bM)
 (aS (cF (mB (aU fT (aC 1) (mC (.str "either")))) (bQ (eB false (aB (aU cH (aC 0) (mC (.int 1))) (aB (aU cH (aC 0) (mC (.int 2))) aL)))) bM)
 (aS (cF (mB (aU fT (aC 1) (mC (.str "call")))) (bQ (aU cH (aC 0) (mC (.int 3)))) bM)
 (bQ (eB false aL))))))
def mJ : FD := run 2 1 tF
def oS : FS :=
 (aS (cN (aU cH (aC 0) (mC (.int 0))) (.nm 2))
 (aS (cF (Et (mB (aU fT (aC 2) (mC (.str "keep")))) (mB (aU fT (aC 2) (mC (.str "again"))))) (bQ (bX (aB (aC 2) (aB (aU cH (aC 1) (mC (.int 0))) aL)))) bM)
 (aS (cF (mB (aU fT (aC 2) (mC (.str "either")))) (bQ (bX (aB (aC 2) (aB (aU cH (aC 1) (mC (.int 0))) (aB (aU cH (aC 1) (mC (.int 1))) aL))))) bM)
 (aS (cF (mB (aU fT (aC 2) (mC (.str "call")))) (bQ (bX (aB (aC 2) (aB (aU cH (aC 0) (mC (.int 1))) (aB (aU cH (aC 0) (mC (.int 2))) (aB (aC 1) aL)))))) bM)
 (bQ (aC 0))))))
def oM : FD := run 3 2 oS
def jB (f_copied_block : FD) : FS :=
 (bQ (bE oM (aB (aC 0) (aB (BX false (jU (bE mJ (aB (aC 0) aL))) (.nm 1) gO (bE (f_copied_block) (aB (aC 1) aL)) [1]) aL))))
def nO (f_copied_statement : FD) : FS :=
 (bQ (BX false (jU (aC 0)) (.nm 1) gO (bE (f_copied_statement) (aB (aC 1) aL)) [1]))
def lX : Nat -> FD × FD
 | 0 => (wY, wY)
 | n + 1 => let r := lX n
  (run 2 1 (jB r.2), run 2 1 (nO r.1))
def iT (n : Nat) : FD := (lX n).1
def fC (n : Nat) : FD := (lX n).2
def oU : FS :=
 (aS (cF (fP (bE gX (aB (aC 0) aL))) (bQ (mC (.bl true))) bM)
 (aS (cF (Et (nA (fP (m1 (fIsi "tuple") (aC 0)))) (Et (mB (aU M7 (m1 eW (aC 0)) (mC (.int 2)))) (nA (fP (m1 (fIsi "str") (aU cH (aC 0) (mC (.int 0)))))))) (bQ (mC (.bl false))) bM)
 (aS (cN (aU cH (aC 0) (mC (.int 0))) (.nm 3))
 (aS (cF (mB (aU fT (aC 3) (mC (.str "end")))) (bQ (pJ (aU fT (m1 eW (aC 0)) (mC (.int 2))) (bE rL (aB (aU cH (aC 0) (mC (.int 1))) aL)))) bM)
 (aS (cF (mB (aU fT (aC 1) (mC (.int 3)))) (bQ (mC (.bl false))) bM)
 (aS (cF (Et (mB (aU fT (aC 3) (mC (.str "keep")))) (mB (aU fT (aC 3) (mC (.str "again"))))) (bQ (pJ (aU fT (m1 eW (aC 0)) (mC (.int 2))) (m1 (fIsi "list") (aU cH (aC 0) (mC (.int 1)))))) bM)
 (aS (cF (mB (aU fT (aC 3) (mC (.str "either")))) (bQ (pJ (aU fT (m1 eW (aC 0)) (mC (.int 3))) (pJ (m1 (fIsi "list") (aU cH (aC 0) (mC (.int 1)))) (m1 (fIsi "list") (aU cH (aC 0) (mC (.int 2))))))) bM)
 (aS (cF (Et (mB (aU Jx (aC 3) (mC (.str "call")))) (mB (aU Jx (m1 eW (aC 0)) (mC (.int 4))))) (bQ (mC (.bl false))) bM)
 (aS (cF (Et (nA (fP (bE eK (aB (aU cH (aC 0) (mC (.int 1))) aL)))) (nA (mB (tU Nx M7 (mC (.int 0)) (aU cH (aC 0) (mC (.int 1))) (aC 2))))) (bQ (mC (.bl false))) bM)
 (aS (cF (Et (nA (fP (m1 (fIsi "bool") (aU cH (aC 0) (mC (.int 2)))))) (Et (nA (fP (m1 (fIsi "list") (aU cH (aC 0) (mC (.int 3)))))) (mB (aU Jx (m1 eW (aU cH (aC 0) (mC (.int 3)))) (mC (.int 2)))))) (bQ (mC (.bl false))) bM)
 (bQ (pJ (m1 (fIsi "list") (aU cH (aU cH (aC 0) (mC (.int 3))) (mC (.int 0)))) (m1 (fIsi "list") (aU cH (aU cH (aC 0) (mC (.int 3))) (mC (.int 1))))))))))))))))
def lJ : FD := run 4 3 oU
def gQ (f_first_fault : FD) : FS :=
 (kW [8, 9, 10] (aS (cN (bE (f_first_fault) (aB (aC 9) (aB (aU (dY false) (aC 1) (mC (.int 1))) (aB (aC 2) (aB (aU (dY false) (aC 7) (bX (aB (aC 8) aL))) (aB (aC 4) aL)))))) (.tp [10, 4]))
 (cF (mB (aU (FF true) (aC 10) (mC .non))) (bQ (bX (aB (aC 10) (aB (aC 4) aL)))) bM)))
def lN (f_first_fault : FD) : FS :=
 (kW [5, 6, 7, 8, 9, 10] (aS (cN (aU (dY false) (aC 3) (bX (aB (aC 5) aL))) (.nm 7))
 (aS (cF (Et (mB (aU fT (aC 5) (mC (.int 8)))) (Et (mB (aU fT (aC 4) (mC (.int 12)))) (nA (fP (bE lJ (aB (aC 6) (aB (aC 1) (aB (aC 2) aL)))))))) (bQ (bX (aB (aC 7) (aB (aC 4) aL)))) bM)
 (aS (NJ (fun x y => x + y) 4 (mC (.int 1)))
 (tT (Fu (bE mJ (aB (aC 6) aL))) (.tp [8, 9]) (gQ (f_first_fault)))))))
def oX (f_first_fault : FD) : FS :=
 (aS (tT (Fu (aC 0)) (.tp [5, 6]) (lN (f_first_fault)))
 (bQ (bX (aB (mC .non) (aB (aC 4) aL)))))
def dQ : Nat -> FD
 | 0 => wY
 | n + 1 => run 11 5 (oX (dQ n))
def eJ : FS :=
 (kW [2, 3, 4, 5] (aS (cF (nA (fP (m1 (fIsi "list") (aC 3)))) (mY "NoBook" ["path", "procedure"] (aB (aC 2) (aB (bX aL) aL))) bM)
 (aS (cN (bE (dQ 10) (aB (aC 3) (aB (mC (.int 0)) (aB (m1 eW (aC 1)) (aB (bX aL) (aB (mC (.int 0)) aL)))))) (.tp [4, 5]))
 (cF (mB (aU (FF true) (aC 4) (mC .non))) (mY "NoBook" ["path", "procedure"] (aB (aC 2) (aB (aC 4) aL))) bM))))
def tI : FS :=
 (aS (cF (Et (nA (fP (m1 (fIsi "list") (aC 1)))) (nA (mB (tU Nx Nx (mC (.int 1)) (m1 eW (aC 1)) (mC (.int 3)))))) (mY "NoBook" ["path", "procedure"] (aB (m1 wR (mC (.int 1))) (aB (bX aL) aL))) bM)
 (aS (tT (Fu (aC 1)) (.tp [2, 3]) eJ)
 (xS "Book" "own" (aC 0) (BX false (jU (aC 1)) (.nm 3) gO (bE (fC 20) (aB (aC 3) aL)) [3]))))
def mK : FD := run 6 2 tI
def vZ : FS :=
 (bQ (m1 eW (gZ "Book" "own" (aC 0))))
def rN : FD := run 1 1 vZ
def oZ : FS :=
 (bQ (BX false (jU (gZ "Book" "own" (aC 0))) (.nm 1) gO (bE (fC 20) (aB (aC 1) aL)) [1]))
def oP : FD := run 2 1 oZ
def BJ : FS :=
 (bQ (aU (dY true) (eB false (aB (mC (.int 0)) aL)) (VH (BX false (jU (Bv false (aC 0) qJ (gM (mC (.int 63))))) (.nm 1) gO (m1 uK (aC 1)) [1]) (eB false (aB (mC (.int 0)) aL)))))
def Ae : FD := run 2 1 BJ
def BM : FS :=
 (aS (sU (fun x y => x + y) (aC 0) (mC (.int 0)) (mC (.int 1)))
 (aS (cN (aU (dY false) (mC (.int 1)) (aU CC (m1 uK (aU cH (aC 0) (mC (.int 0)))) (aU wQ (m1 eW (aC 0)) (mC (.int 1))))) (.nm 2))
 (aS (cN (m1 uK (aU cH (aC 0) (aC 2))) (.nm 3))
 (aS (cF (mB (aU fGe (aC 3) (aU JP (mC (.int 10)) (mC (.int 18))))) (aS (wG (aU CY (aC 3) (aC 1)) (aC 0) (aC 2))
 (bQ (aU CC (aC 3) (aC 1)))) bM)
 (aS (cN (aU CC (aU qN (m1 uK (aU (dY false) (aU (dY false) (aC 3) (aU qN (mC (.int 7919)) (aU cH (aC 0) (mC (.int 0))))) (mC (.int 1)))) (mC (.int 48271))) (mC (.int 2147483647))) (.nm 4))
 (aS (cN (aU CC (aU qN (aC 4) (aU (dY false) (aU CY (aC 4) (mC (.int 1009))) (mC (.int 69621)))) (mC (.int 2147483647))) (.nm 4))
 (aS (cN (aU CC (aU qN (aC 4) (aU (dY false) (aU CY (aC 4) (mC (.int 2003))) (mC (.int 40692)))) (mC (.int 2147483399))) (.nm 4))
 (bQ (aU CC (aU CY (aC 4) (mC (.int 11))) (aC 1))))))))))
def cS : FD := run 5 2 BM
def lP : FS :=
 (aS (cN (bE cS (aB (aC 0) (aB (mC (.int 9)) aL))) (.nm 1))
 (aS (cF (mB (aU fT (aC 1) (mC (.int 0)))) (bQ (bX (aB (mC (.str "go")) (aB (aU wQ (bE cS (aB (aC 0) (aB (mC (.int 19)) aL))) (mC (.int 9))) aL)))) bM)
 (aS (cF (mB (aU fT (aC 1) (mC (.int 1)))) (bQ (bX (aB (mC (.str "turn")) (aB (aU (dY false) (mC (.int 1)) (bE cS (aB (aC 0) (aB (mC (.int 3)) aL)))) aL)))) bM)
 (aS (cF (mB (aU fT (aC 1) (mC (.int 2)))) (bQ (bX (aB (mC (.str "scale")) (aB (aU wQ (bE cS (aB (aC 0) (aB (mC (.int 7)) aL))) (mC (.int 3))) aL)))) bM)
 (aS (cF (mB (aU M7 (aC 1) (mC (.int 5)))) (bQ (bX (aB (aU cH (bX (aB (mC (.str "aim")) (aB (mC (.str "place")) aL))) (aU wQ (aC 1) (mC (.int 3)))) (aB (aU wQ (bE cS (aB (aC 0) (aB (mC (.int 19)) aL))) (mC (.int 9))) (aB (aU wQ (bE cS (aB (aC 0) (aB (mC (.int 19)) aL))) (mC (.int 9))) aL))))) bM)
 (bQ (bX (aB (aU cH (bX (aB (mC (.str "mirror")) (aB (mC (.str "mark")) (aB (mC (.str "return")) (aB (mC (.str "exchange")) aL))))) (aU wQ (aC 1) (mC (.int 5)))) aL))))))))
def jI : FD := run 2 1 lP
def vY : FS :=
 (aS (cF (mB (aU fT (aU cH (aC 0) (mC (.int 0))) (mC (.str "call")))) (bQ (m1 (wI false) (aU cH (aC 0) (mC (.int 3))))) bM)
 (bQ (BX false (jU (Bv false (aC 0) (gM (mC (.int 1))) qJ)) (.nm 1) (fP (m1 (fIsi "list") (aC 1))) (aC 1) [1])))
def vH : FD := run 2 1 vY
def BH : FS :=
 (aS (cF (mB (aU fT (aU cH (aC 0) (mC (.int 0))) (mC (.str "call")))) (bQ (aU (dY false) (Bv false (aC 0) qJ (gM (mC (.int 3)))) (bX (aB (aC 1) aL)))) bM)
 (aS (cF (mB (aU fT (m1 eW (aC 1)) (mC (.int 0)))) (bQ (aC 0)) bM)
 (bQ (aU (dY false) (bX (aB (aU cH (aC 0) (mC (.int 0))) aL)) (m1 fTuple (aC 1))))))
def Ad : FD := run 2 2 BH
def A4 (f_L_copy : FD) : FE :=
 (bE Ad (aB (aC 1) (aB (BX false (jU (bE vH (aB (aC 1) aL))) (.nm 2) gO (bE (f_L_copy) (aB (aC 2) aL)) [2]) aL)))
def BN (f_L_copy : FD) : FS :=
 (bQ (BX false (jU (aC 0)) (.nm 1) gO (A4 (f_L_copy)) [1]))
def uF : Nat -> FD
 | 0 => wY
 | n + 1 => run 3 1 (BN (uF n))
def vX : FS :=
 (bQ (BX false (jU (aC 0)) (.nm 1) gO (bE (uF 10) (aB (aC 1) aL)) [1]))
def vG : FD := run 2 1 vX
def vR (f_L_same : FD) : FE :=
 (bE (f_L_same) (aB (aU cH (aC 0) (aC 2)) (aB (aU cH (aC 1) (aC 2)) aL)))
def lM (f_L_same : FD) : FS :=
 (aS (cF (fP (m1 (fIsi2 "list" "tuple") (aC 0))) (aS (cF (Et (mB (aU Jx (m1 (fIsi "list") (aC 0)) (m1 (fIsi "list") (aC 1)))) (mB (aU Jx (m1 (fIsi "tuple") (aC 0)) (m1 (fIsi "tuple") (aC 1))))) (bQ (mC (.bl false))) bM)
 (bQ (pJ (aU fT (m1 eW (aC 0)) (m1 eW (aC 1))) (m1 EU (BX false (kX (m1 eW (aC 0))) (.nm 2) gO (vR (f_L_same)) [2]))))) bM)
 (aS (cF (Et (fP (m1 (fIsi2 "list" "tuple") (aC 1))) (mB (aU Jx (m1 (fIsi "bool") (aC 0)) (m1 (fIsi "bool") (aC 1))))) (bQ (mC (.bl false))) bM)
 (bQ (pJ (aU fT (m1 (fIsi "int") (aC 0)) (m1 (fIsi "int") (aC 1))) (aU fT (aC 0) (aC 1))))))
def eL : Nat -> FD
 | 0 => wY
 | n + 1 => run 3 2 (lM (eL n))
def kH : FS :=
 (kW [4, 5] (aS (cF (Et (nA (fP (bE eK (aB (aC 5) aL)))) (nA (mB (tU Nx M7 (mC (.int 0)) (aC 5) (m1 eW (aC 3)))))) (bQ (mC .non)) bM)
 (cF (mB (aU fT (aU CC (aC 4) (mC (.int 2))) (mC (.int 0)))) (aS (cN (aU cH (aC 3) (aC 5)) (.nm 2))
 (cN (bE mJ (aB (aC 2) aL)) (.nm 3))) (cN (aU cH (aC 3) (aC 5)) (.nm 3)))))
def gT : FS :=
 (bQ (pJ (bE eK (aB (aC 1) aL)) (tU Nx M7 (mC (.int 0)) (aC 1) (m1 (G9 "Book" rN) (aC 0)))))
def gS : FD := run 2 2 gT
theorem Cq {x0 x1 : Vl} {S : aO} : gS [x0, x1] S = cC (gT [some x0, some x1] S) := (rfl)
def sL : FS :=
 (bQ (pJ (m1 (fIsi "tuple") (aC 0)) (pJ (aU fT (m1 eW (aC 0)) (mC (.int 6))) (m1 EU (BX false (jU (aC 0)) (.nm 1) gO (bE eK (aB (aC 1) aL)) [1])))))
def uE : FD := run 2 1 sL
def mQ : FS :=
 (kW [9] (mPar 4 5 (m1 wR (aC 5)) (aC 4)))
def vU : FS :=
 (aS (cN (aC 0) (.tp [2, 3, 4, 5, 6, 7]))
 (aS (cN (aU cH (aC 1) (mC (.int 0))) (.nm 8))
 (aS (cF (mB (aU fT (aC 8) (mC (.str "go")))) (bQ (bX (aB (aU (dY false) (aC 2) (aU qN (aU cH (aC 1) (mC (.int 1))) (aC 4))) (aB (aU (dY false) (aC 3) (aU qN (aU cH (aC 1) (mC (.int 1))) (aC 5))) (aB (aC 4) (aB (aC 5) (aB (aC 6) (aB (aC 7) aL)))))))) bM)
 (aS (cF (mB (aU fT (aC 8) (mC (.str "turn")))) (aS (tT (kX (aU cH (aC 1) (mC (.int 1)))) (.nm 9) mQ)
 (bQ (bX (aB (aC 2) (aB (aC 3) (aB (aC 4) (aB (aC 5) (aB (aC 6) (aB (aC 7) aL))))))))) bM)
 (aS (cF (mB (aU fT (aC 8) (mC (.str "mirror")))) (bQ (bX (aB (aC 2) (aB (aC 3) (aB (aC 4) (aB (m1 wR (aC 5)) (aB (aC 6) (aB (aC 7) aL)))))))) bM)
 (aS (cF (mB (aU fT (aC 8) (mC (.str "scale")))) (bQ (bX (aB (aC 2) (aB (aC 3) (aB (aU qN (aU cH (aC 1) (mC (.int 1))) (aC 4)) (aB (aU qN (aU cH (aC 1) (mC (.int 1))) (aC 5)) (aB (aC 6) (aB (aC 7) aL)))))))) bM)
 (aS (cF (mB (aU fT (aC 8) (mC (.str "aim")))) (bQ (bX (aB (aC 2) (aB (aC 3) (aB (aU cH (aC 1) (mC (.int 1))) (aB (aU cH (aC 1) (mC (.int 2))) (aB (aC 6) (aB (aC 7) aL)))))))) bM)
 (aS (cF (mB (aU fT (aC 8) (mC (.str "place")))) (bQ (bX (aB (aU cH (aC 1) (mC (.int 1))) (aB (aU cH (aC 1) (mC (.int 2))) (aB (aC 4) (aB (aC 5) (aB (aC 6) (aB (aC 7) aL)))))))) bM)
 (aS (cF (mB (aU fT (aC 8) (mC (.str "mark")))) (bQ (bX (aB (aC 2) (aB (aC 3) (aB (aC 4) (aB (aC 5) (aB (aC 2) (aB (aC 3) aL)))))))) bM)
 (aS (cF (mB (aU fT (aC 8) (mC (.str "return")))) (bQ (bX (aB (aC 6) (aB (aC 7) (aB (aC 4) (aB (aC 5) (aB (aC 6) (aB (aC 7) aL)))))))) bM)
 (bQ (bX (aB (aC 6) (aB (aC 7) (aB (aC 4) (aB (aC 5) (aB (aC 2) (aB (aC 3) aL))))))))))))))))))
def oD : FD := run 10 2 vU
def vQ : FE :=
 (m1 uK (aU fT (aU CC (aC 0) (mC (.int 8))) (mC (.int 0))))
def vT : FS :=
 (bQ (BX false (kX (mC (.int 49))) (.nm 0) gO vQ [0]))
def oC : FD := run 1 0 vT
def oR : FE :=
 (aU wQ (aU cH (aC 5) (aC 6)) (aU cH (aC 1) (aC 6)))
def lH : FS :=
 (kW [3, 4, 5] (aS (cN (m1 fTuple (BX false (kX (mC (.int 6))) (.nm 6) gO (m1 uK (aU fT (aC 6) (aC 3))) [6])) (.nm 4))
 (aS (cN (bE oD (aB (aC 4) (aB (aC 0) aL))) (.nm 5))
 (eA (lA (aC 2) (aU (dY false) (eB false (aB (mC (.int 0)) aL)) (BX false (kX (mC (.int 6))) (.nm 6) gO oR [6])))))))
def tE : FS :=
 (aS (cF (nA (fP (bE gX (aB (aC 0) aL)))) (Bw "NoCommand") bM)
 (aS (cN (bE oD (aB (bX (aB (mC (.int 0)) (aB (mC (.int 0)) (aB (mC (.int 0)) (aB (mC (.int 0)) (aB (mC (.int 0)) (aB (mC (.int 0)) aL))))))) (aB (aC 0) aL))) (.nm 1))
 (aS (cN (eB true (aB (eB false (aB (mC (.int 1)) (P5 (aC 1) aL))) aL)) (.nm 2))
 (aS (tT (kX (mC (.int 6))) (.nm 3) lH)
 (bQ (P7 false (kX (mC (.int 7))) (.nm 7) gO (kX (mC (.int 7))) (.nm 8) gO (aU cH (aU cH (aC 2) (aC 8)) (aC 7)) [7, 8] [8]))))))
def pH : FD := AW 9 1 tE
def kI : FS :=
 (kW [5, 6] (aS (cN (aU cH (aC 1) (aU (dY false) (aU qN (mC (.int 7)) (aC 3)) (aC 5))) (.nm 6))
 (cF (mB (aU Jx (aC 6) (mC (.int 0)))) (cN (BX false (P4 (aC 4) (Bv false (aC 0) (gM (aU qN (mC (.int 7)) (aC 5))) (gM (aU (dY false) (aU qN (mC (.int 7)) (aC 5)) (mC (.int 7)))))) (.tp [7, 8]) gO (aU (dY false) (aC 7) (aU qN (aC 6) (aC 8))) [7, 8]) (.nm 4)) bM)))
def mR : FS :=
 (kW [3, 4, 5, 6] (aS (cN (eB false (aB (mC (.int 0)) (aB (mC (.int 0)) (aB (mC (.int 0)) (aB (mC (.int 0)) (aB (mC (.int 0)) (aB (mC (.int 0)) (aB (mC (.int 0)) aL)))))))) (.nm 4))
 (aS (tT (kX (mC (.int 7))) (.nm 5) kI)
 (cN (aU (dY false) (aC 2) (aC 4)) (.nm 2)))))
def vV : FS :=
 (aS (cN (eB false aL) (.nm 2))
 (aS (tT (kX (mC (.int 7))) (.nm 3) mR)
 (bQ (aC 2))))
def rM : FD := run 9 2 vV
def oW : FS :=
 (aS (cN (aU cH (aC 0) (mC (.int 0))) (.nm 1))
 (aS (cN (BX false (jU (Bv false (bE oC aL) (gM (mC (.int 7))) (gM (mC (.int 35))))) (.nm 3) gO (aU qN (aC 1) (aC 3)) [3]) (.nm 2))
 (bQ (aU (dY false) (aU (dY false) (Bv false (aC 0) qJ (gM (mC (.int 7)))) (aC 2)) (Bv false (aC 0) (gM (mC (.int 35))) qJ)))))
def oN : FD := run 4 1 oW
def kT : FS :=
 (aS (xS "Execution" "own" (aC 0) (aC 1))
 (aS (xS "Execution" "bits" (aC 0) (aC 2))
 (aS (xS "Execution" "taken" (aC 0) (mC (.int 0)))
 (aS (xS "Execution" "deeds" (aC 0) (eB true aL))
 (aS (xS "Execution" "stack" (aC 0) (eB true aL))
 (aS (xS "Execution" "active" (aC 0) (SE (jU (aC 1)) (.nm 3) [3]))
 (xS "Execution" "ended" (aC 0) (mC (.int 0)))))))))
def iI : FD := run 4 3 kT
def iL : FS :=
 (aS (cF (mB (aU fT (gZ "Execution" "taken" (aC 0)) (m1 eW (gZ "Execution" "bits" (aC 0))))) (mY "NoRun" ["index"] (aB (gZ "Execution" "taken" (aC 0)) aL)) bM)
 (aS (Fv (fun x y => x + y) "Execution" "taken" (aC 0) (mC (.int 1)))
 (bQ (aU cH (gZ "Execution" "bits" (aC 0)) (aU wQ (gZ "Execution" "taken" (aC 0)) (mC (.int 1)))))))
def eG : FD := run 1 1 iL
def hX : FS :=
 (aS (cN (aU cH (gZ "Execution" "active" (aC 0)) (aC 1)) (.nm 3))
 (aS (cF (Il (mB (aU M8 (m1 eW (aC 3)) (mC (.int 0)))) (mB (aU fT (aU cH (aC 3) (m1 wR (mC (.int 1)))) (gZ "Execution" "taken" (aC 0))))) (mY "NoRun" ["index"] (aB (m1 wR (mC (.int 2))) aL)) bM)
 (aS (eA (lA (aU cH (gZ "Execution" "active" (aC 0)) (aC 1)) (gZ "Execution" "taken" (aC 0))))
 (aS (eA (lA (gZ "Execution" "stack" (aC 0)) (bX (aB (mC (.str "call")) (aB (aC 1) (aB (aC 2) aL))))))
 (eA (lA (gZ "Execution" "stack" (aC 0)) (bX (aB (mC (.str "list")) (aB (aU cH (gZ "Execution" "own" (aC 0)) (aC 1)) (aB (mC (.int 0)) aL))))))))))
def eM : FD := run 4 3 hX
def jX : FS :=
 (aS (eA (m1 sD (aU cH (gZ "Execution" "active" (aC 0)) (aC 1))))
 (aS (cF (mB (aU (FF false) (aC 2) (mC .non))) (aS (xS "Execution" "ended" (aC 0) (aC 3))
 (bQ (mC .non))) bM)
 (aS (cF (fP (aU cH (aC 2) (mC (.int 2)))) (eA (lA (gZ "Execution" "deeds" (aC 0)) (bX (aB (mC (.str "close")) aL)))) bM)
 (eA (lA (gZ "Execution" "stack" (aC 0)) (bX (aB (mC (.str "list")) (aB (aU cH (aU cH (aC 2) (mC (.int 3))) (aC 3)) (aB (mC (.int 0)) aL)))))))))
def gY : FD := run 4 4 jX
def eF : FS :=
 (aS (cF (mB (aU fT (aU cH (aC 2) (mC (.int 0))) (mC (.str "close")))) (eA (lA (gZ "Execution" "deeds" (aC 0)) (aC 2))) bM)
 (cN (m1 sD (gZ "Execution" "stack" (aC 0))) (.nm 2)))
def jC : FS :=
 (aS (cN (m1 sD (gZ "Execution" "stack" (aC 0))) (.nm 2))
 (aS (Bu 1000000 (mB (aU Jx (aU cH (aC 2) (mC (.int 0))) (mC (.str "call")))) eF)
 (eA (rO "Execution" "leave" gY (aC 0) (aB (aU cH (aC 2) (mC (.int 1))) (aB (aU cH (aC 2) (mC (.int 2))) (aB (aC 1) aL)))))))
def iV : FD := run 3 2 jC
def jY : FS :=
 (aS (cN (aU cH (aC 1) (mC (.int 0))) (.nm 2))
 (cF (fP (bE gX (aB (aC 1) aL))) (eA (lA (gZ "Execution" "deeds" (aC 0)) (aC 1))) (cF (mB (aU fT (aC 2) (mC (.str "keep")))) (aS (eA (lA (gZ "Execution" "deeds" (aC 0)) (bX (aB (mC (.str "open")) aL))))
 (aS (eA (lA (gZ "Execution" "stack" (aC 0)) (bX (aB (mC (.str "close")) aL))))
 (eA (lA (gZ "Execution" "stack" (aC 0)) (bX (aB (mC (.str "list")) (aB (aU cH (aC 1) (mC (.int 1))) (aB (mC (.int 0)) aL)))))))) (cF (mB (aU fT (aC 2) (mC (.str "either")))) (eA (lA (gZ "Execution" "stack" (aC 0)) (bX (aB (mC (.str "list")) (aB (aU cH (aC 1) (aU (dY false) (mC (.int 1)) (rO "Execution" "take" eG (aC 0) aL))) (aB (mC (.int 0)) aL)))))) (cF (mB (aU fT (aC 2) (mC (.str "again")))) (eA (lA (gZ "Execution" "stack" (aC 0)) (bX (aB (mC (.str "again")) (aB (aU cH (aC 1) (mC (.int 1))) aL))))) (cF (mB (aU fT (aC 2) (mC (.str "call")))) (aS (cF (fP (aU cH (aC 1) (mC (.int 2)))) (eA (lA (gZ "Execution" "deeds" (aC 0)) (bX (aB (mC (.str "open")) aL)))) bM)
 (eA (rO "Execution" "enter" eM (aC 0) (aB (aU cH (aC 1) (mC (.int 1))) (aB (aC 1) aL))))) (eA (rO "Execution" "unwind" iV (aC 0) (aB (aU cH (aC 1) (mC (.int 1))) aL)))))))))
def jT : FD := run 3 2 jY
def kS : FS :=
 (aS (cN (m1 sD (gZ "Execution" "stack" (aC 0))) (.nm 1))
 (cF (mB (aU fT (aU cH (aC 1) (mC (.int 0))) (mC (.str "list")))) (cF (mB (aU M7 (aU cH (aC 1) (mC (.int 2))) (m1 eW (aU cH (aC 1) (mC (.int 1)))))) (aS (eA (lA (gZ "Execution" "stack" (aC 0)) (bX (aB (mC (.str "list")) (aB (aU cH (aC 1) (mC (.int 1))) (aB (aU (dY false) (aU cH (aC 1) (mC (.int 2))) (mC (.int 1))) aL))))))
 (eA (rO "Execution" "begin" jT (aC 0) (aB (aU cH (aU cH (aC 1) (mC (.int 1))) (aU cH (aC 1) (mC (.int 2)))) aL)))) bM) (cF (mB (aU fT (aU cH (aC 1) (mC (.int 0))) (mC (.str "close")))) (eA (lA (gZ "Execution" "deeds" (aC 0)) (aC 1))) (cF (mB (aU fT (aU cH (aC 1) (mC (.int 0))) (mC (.str "again")))) (cF (mB (aU fT (rO "Execution" "take" eG (aC 0) aL) (mC (.int 1)))) (aS (eA (lA (gZ "Execution" "stack" (aC 0)) (aC 1)))
 (eA (lA (gZ "Execution" "stack" (aC 0)) (bX (aB (mC (.str "list")) (aB (aU cH (aC 1) (mC (.int 1))) (aB (mC (.int 0)) aL))))))) bM) (eA (rO "Execution" "leave" gY (aC 0) (aB (aU cH (aC 1) (mC (.int 1))) (aB (aU cH (aC 1) (mC (.int 2))) (aB (mC (.int 0)) aL)))))))))
def kK : FD := run 2 1 kS
def dU : FS :=
 (kW [3, 4] (cF (nA (fP (bE rL (aB (aC 4) aL)))) (mY "NoRun" ["index"] (aB (aC 3) aL)) bM))
def eX : FS :=
 (eA (rO "Execution" "step" kK (aC 5) aL))
def gG : FS :=
 (aS (cF (nA (fP (bE gS (aB (aC 0) (aB (aC 1) aL))))) (Bw "NoProcedure") bM)
 (aS (cF (nA (fP (m1 (fIsi "list") (aC 2)))) (mY "NoRun" ["index"] (aB (m1 wR (mC (.int 1))) aL)) bM)
 (aS (tT (Fu (aC 2)) (.tp [3, 4]) dU)
 (aS (cN (Lg true "Execution" iI (aB (rO "Book" "bodies" oP (aC 0) aL) (aB (aC 2) aL))) (.nm 5))
 (aS (eA (rO "Execution" "enter" eM (aC 5) (aB (aC 1) (aB (mC .non) aL))))
 (aS (Bu 1000000 (mB (aU M8 (m1 eW (gZ "Execution" "stack" (aC 5))) (mC (.int 0)))) eX)
 (aS (cF (mB (aU M7 (gZ "Execution" "taken" (aC 5)) (m1 eW (aC 2)))) (mY "NoRun" ["index"] (aB (gZ "Execution" "taken" (aC 5)) aL)) bM)
 (bQ (bX (aB (gZ "Execution" "ended" (aC 5)) (aB (uG (gZ "Execution" "deeds" (aC 5))) aL)))))))))))
def bU : FD := AW 6 3 gG
def fK : FS :=
 (kW [4] (cF (mB (aU fT (aU cH (aC 4) (mC (.int 0))) (mC (.str "open")))) (eA (lA (aC 3) (Bv false (aC 1) qJ (gM (mC (.int 4)))))) (cF (mB (aU fT (aU cH (aC 4) (mC (.int 0))) (mC (.str "close")))) (cN (aU (dY false) (m1 sD (aC 3)) (Bv false (aC 1) (gM (mC (.int 4))) qJ)) (.nm 1)) (aS (cN (bE oD (aB (aC 1) (aB (aC 4) aL))) (.nm 1))
 (eA (lA (aC 2) (aC 1)))))))
def oV : FS :=
 (aS (cN (eB true aL) (.nm 2))
 (aS (cN (eB true aL) (.nm 3))
 (aS (tT (jU (aC 0)) (.nm 4) fK)
 (bQ (bX (aB (uG (aC 2)) (aB (aC 1) aL)))))))
def lK : FD := AW 5 2 oV
def Ci : FS :=
 (aS (cN (bE bU (aB (aC 0) (aB (aC 1) (aB (aC 2) aL)))) (.tp [4, 5]))
 (aS (cF (nA (fP (bE uE (aB (aC 3) aL)))) (Bw "NoPen") bM)
 (aS (cN (bE lK (aB (aC 5) (aB (aC 3) aL))) (.tp [6, 7]))
 (bQ (bX (aB (aC 4) (aB (aC 7) (aB (m1 eW (aC 6)) aL))))))))
def xQ : FD := run 8 4 Ci
def gD : FS :=
 (kW [8] (cF (mB (aU fT (aU cH (aC 8) (mC (.int 0))) (mC (.str "open")))) (aS (eA (lA (aC 6) (aC 5)))
 (cN (bE oC aL) (.nm 5))) (cF (mB (aU fT (aU cH (aC 8) (mC (.int 0))) (mC (.str "close")))) (cN (bE rM (aB (m1 sD (aC 6)) (aB (bE oN (aB (aC 5) aL)) aL))) (.nm 5)) (aS (cN (bE rM (aB (aC 5) (aB (bE pH (aB (aC 8) aL)) aL))) (.nm 5))
 (NJ (fun x y => x + y) 7 (mC (.int 1)))))))
def qO : FS :=
 (aS (cN (bE bU (aB (aC 0) (aB (aC 1) (aB (aC 2) aL)))) (.tp [3, 4]))
 (aS (cN (bE oC aL) (.nm 5))
 (aS (cN (eB true aL) (.nm 6))
 (aS (cN (mC (.int 0)) (.nm 7))
 (aS (tT (jU (aC 4)) (.nm 8) gD)
 (bQ (bX (aB (aC 3) (aB (aC 5) (aB (aC 7) aL))))))))))
def mW : FD := AW 9 3 qO
def vW : FS :=
 (aS (cN (bE cS (aB (aC 0) (aB (mC (.int 3)) aL))) (.nm 1))
 (aS (cF (mB (aU fT (aC 1) (mC (.int 0)))) (bQ (aU wQ (bE cS (aB (aC 0) (aB (mC (.int 9)) aL))) (mC (.int 4)))) bM)
 (aS (sU (fun x y => x + y) (aC 0) (mC (.int 0)) (mC (.int 1)))
 (aS (cN (aU (dY false) (mC (.int 1)) (aU CC (m1 uK (aU cH (aC 0) (mC (.int 0)))) (aU wQ (m1 eW (aC 0)) (mC (.int 1))))) (.nm 2))
 (aS (cN (aU CC (m1 uK (aU (dY false) (aU qN (aU cH (aC 0) (aC 2)) (mC (.int 48271))) (aU qN (aU cH (aC 0) (mC (.int 0))) (mC (.int 69621))))) (aU JP (mC (.int 10)) (mC (.int 40)))) (.nm 3))
 (aS (cF (mB (aU fT (bE cS (aB (aC 0) (aB (mC (.int 2)) aL))) (mC (.int 0)))) (bQ (aC 3)) bM)
 (bQ (aU wQ (mC (.int 5)) (aC 3)))))))))
def iU : FD := run 4 1 vW
def DD : FS :=
 (aS (cN (BX false (kX (mC (.int 6))) (.nm 2) gO (bE iU (aB (aC 0) aL)) [2]) (.nm 1))
 (bQ (bX (aB (aU cH (aC 1) (mC (.int 0))) (aB (aU cH (aC 1) (mC (.int 1))) (aB (aU cH (aC 1) (mC (.int 2))) (aB (aU cH (aC 1) (mC (.int 3))) (aB (aU cH (aC 1) (mC (.int 4))) (aB (aU cH (aC 1) (mC (.int 5))) aL)))))))))
def D0 : FD := run 3 1 DD
def BL : FS :=
 (aS (cN (aC 0) (.tp [2, 3, 4, 5, 6, 7]))
 (aS (cN (aU cH (aC 1) (mC (.int 0))) (.nm 8))
 (aS (cN (aU cH (aU (dY false) (aC 1) (bX (aB (mC (.int 0)) aL))) (mC (.int 1))) (.nm 9))
 (aS (cF (mB (aU fT (aC 8) (mC (.str "go")))) (bQ (bX (aB (aU (dY false) (aC 2) (aU qN (aC 9) (aC 4))) (aB (aU (dY false) (aC 3) (aU qN (aC 9) (aC 5))) (aB (aC 4) (aB (aC 5) (aB (aC 6) (aB (aC 7) aL)))))))) bM)
 (aS (cF (mB (aU fT (aC 8) (mC (.str "turn")))) (aS (cN (aU cH (eB false (aB (bX (aB (m1 wR (aC 5)) (aB (aC 4) aL))) (aB (bX (aB (m1 wR (aC 4)) (aB (m1 wR (aC 5)) aL))) (aB (bX (aB (aC 5) (aB (m1 wR (aC 4)) aL))) aL)))) (aU wQ (aC 9) (mC (.int 1)))) (.nm 10))
 (bQ (bX (aB (aC 2) (aB (aC 3) (aB (aU cH (aC 10) (mC (.int 0))) (aB (aU cH (aC 10) (mC (.int 1))) (aB (aC 6) (aB (aC 7) aL))))))))) bM)
 (aS (cF (mB (aU fT (aC 8) (mC (.str "mirror")))) (bQ (bX (aB (aC 2) (aB (aC 3) (aB (aC 4) (aB (m1 wR (aC 5)) (aB (aC 6) (aB (aC 7) aL)))))))) bM)
 (aS (cF (mB (aU fT (aC 8) (mC (.str "scale")))) (bQ (bX (aB (aC 2) (aB (aC 3) (aB (aU qN (aC 4) (aC 9)) (aB (aU qN (aC 5) (aC 9)) (aB (aC 6) (aB (aC 7) aL)))))))) bM)
 (aS (cF (mB (aU fT (aC 8) (mC (.str "aim")))) (bQ (bX (aB (aC 2) (aB (aC 3) (aB (aC 9) (aB (aU cH (aC 1) (mC (.int 2))) (aB (aC 6) (aB (aC 7) aL)))))))) bM)
 (aS (cF (mB (aU fT (aC 8) (mC (.str "place")))) (bQ (bX (aB (aC 9) (aB (aU cH (aC 1) (mC (.int 2))) (aB (aC 4) (aB (aC 5) (aB (aC 6) (aB (aC 7) aL)))))))) bM)
 (aS (cF (mB (aU fT (aC 8) (mC (.str "mark")))) (bQ (bX (aB (aC 2) (aB (aC 3) (aB (aC 4) (aB (aC 5) (aB (aC 2) (aB (aC 3) aL)))))))) bM)
 (aS (cF (mB (aU fT (aC 8) (mC (.str "return")))) (bQ (bX (aB (aC 6) (aB (aC 7) (aB (aC 4) (aB (aC 5) (aB (aC 6) (aB (aC 7) aL)))))))) bM)
 (bQ (bX (aB (aC 6) (aB (aC 7) (aB (aC 4) (aB (aC 5) (aB (aC 2) (aB (aC 3) aL)))))))))))))))))))
def Af : FD := run 11 2 BL
def lU : FS :=
 (kW [4] (cF (mB (aU fT (aU cH (aC 4) (mC (.int 0))) (mC (.str "hold")))) (eA (lA (aC 3) (aC 1))) (cF (mB (aU fT (aU cH (aC 4) (mC (.int 0))) (mC (.str "shut")))) (cN (aU (dY false) (Bv false (m1 sD (aC 3)) qJ (gM (mC (.int 4)))) (Bv false (aC 1) (gM (mC (.int 4))) qJ)) (.nm 1)) (aS (cN (bE Af (aB (aC 1) (aB (aC 4) aL))) (.nm 1))
 (eA (lA (aC 2) (aC 1)))))))
def BK : FS :=
 (aS (cN (eB true aL) (.nm 2))
 (aS (cN (eB true aL) (.nm 3))
 (aS (tT (jU (aC 0)) (.nm 4) lU)
 (bQ (eB false (aB (uG (aC 2)) (aB (aC 1) aL)))))))
def xR : FD := AW 5 2 BK
theorem BR {x0 : Vl} {S : aO} : uE [x0] S = cC (sL [some x0, none] S) := (rfl)
theorem L7 {x0 x1 : Vl} {S : aO} : oD [x0, x1] S = cC (vU [some x0, some x1, none, none, none, none, none, none, none, none] S) := (rfl)
theorem L6 {S : aO} : oC [] S = cC (vT [none] S) := (rfl)
theorem Jq {x0 : Vl} {S : aO} : pH [x0] S = trunc S.length (cC (tE [some x0, none, none, none, none, none, none, none, none] S)) := (rfl)
theorem L8 {x0 x1 : Vl} {S : aO} : rM [x0, x1] S = cC (vV [some x0, some x1, none, none, none, none, none, none, none] S) := (rfl)
theorem FH {x0 : Vl} {S : aO} : oN [x0] S = cC (oW [some x0, none, none, none] S) := (rfl)
theorem CK {x0 x1 x2 : Vl} {S : aO} : iI [x0, x1, x2] S = cC (kT [some x0, some x1, some x2, none] S) := (rfl)
theorem uR {x0 : Vl} {S : aO} : eG [x0] S = cC (iL [some x0] S) := (rfl)
theorem tJ {x0 x1 x2 : Vl} {S : aO} : eM [x0, x1, x2] S = cC (hX [some x0, some x1, some x2, none] S) := (rfl)
theorem BV {x0 x1 x2 x3 : Vl} {S : aO} : gY [x0, x1, x2, x3] S = cC (jX [some x0, some x1, some x2, some x3] S) := (rfl)
theorem A8 {x0 x1 : Vl} {S : aO} : iV [x0, x1] S = cC (jC [some x0, some x1, none] S) := (rfl)
theorem BW {x0 x1 : Vl} {S : aO} : jT [x0, x1] S = cC (jY [some x0, some x1, none] S) := (rfl)
theorem CJ {x0 : Vl} {S : aO} : kK [x0] S = cC (kS [some x0, none] S) := (rfl)
theorem nR {x0 x1 x2 : Vl} {S : aO} : bU [x0, x1, x2] S = trunc S.length (cC (gG [some x0, some x1, some x2, none, none, none] S)) := (rfl)
theorem FG {x0 x1 : Vl} {S : aO} : lK [x0, x1] S = trunc S.length (cC (oV [some x0, some x1, none, none, none] S)) := (rfl)
theorem E_ran {x0 x1 x2 x3 : Vl} {S : aO} : xQ [x0, x1, x2, x3] S = cC (Ci [some x0, some x1, some x2, some x3, none, none, none, none] S) := (rfl)
theorem L9 {x0 : Vl} {S : aO} : iU [x0] S = cC (vW [some x0, none, none, none] S) := (rfl)
theorem U1 {x0 : Vl} {S : aO} : D0 [x0] S = cC (DD [some x0, none, none] S) := (rfl)
theorem RA {x0 x1 : Vl} {S : aO} : Af [x0, x1] S = cC (BL [some x0, some x1, none, none, none, none, none, none, none, none, none] S) := (rfl)
theorem R9 {x0 x1 : Vl} {S : aO} : xR [x0, x1] S = trunc S.length (cC (BK [some x0, some x1, none, none, none] S)) := (rfl)
def DF : FS :=
 (aS (cN (aU dJ (aC 0) (mC (.str "bits"))) (.nm 2))
 (aS (cF (mB (aU fT (aU dJ (aC 0) (mC (.str "taken"))) (m1 eW (aC 2)))) (aS (cF (mB (aU fT (aU dJ (aC 0) (mC (.str "extra"))) (mC (.int 0)))) (bQ (mC (.int 2))) bM)
 (aS (CS JO (aC 0) (mC (.str "extra")) (mC (.int 1)))
 (eA (lA (aC 2) (m1 uK (pJ (aU fT (aU cH (aC 1) (mC (.int 0))) (mC (.str "either"))) (aU QY (mC (.str "call")) (m1 FC (aU cH (aC 1) (mC (.int 1))))))))))) bM)
 (aS (CS JR (aC 0) (mC (.str "taken")) (mC (.int 1)))
 (bQ (aU cH (aC 2) (aU wQ (aU dJ (aC 0) (mC (.str "taken"))) (mC (.int 1))))))))
def D6 : FD := run 3 2 DF
def hW : FS :=
 (aS (cN (aU cH (aC 1) (mC (.int 0))) (.nm 2))
 (aS (cF (Et (mB (aU fT (aC 2) (mC (.str "either")))) (mB (aU fT (aC 2) (mC (.str "again"))))) (aS (cN (bE D6 (aB (aC 0) (aB (aC 1) aL))) (.nm 3))
 (aS (cF (mB (aU fT (aC 3) (mC (.int 2)))) (bQ (mC .non)) bM)
 (aS (cF (mB (aU fT (aC 2) (mC (.str "either")))) (bQ (aU cH (aC 1) (aU (dY false) (mC (.int 1)) (aC 3)))) bM)
 (bQ (aU cH (eB false (aB (eB false aL) (aB (aU (dY false) (aU cH (aC 1) (mC (.int 1))) (eB false (aB (aC 1) aL))) aL))) (aC 3)))))) bM)
 (aS (cF (mB (aU fT (aC 2) (mC (.str "keep")))) (aS (eA (lA (aU dJ (aC 0) (mC (.str "deeds"))) (bX (aB (mC (.str "hold")) aL))))
 (bQ (aU (dY false) (aU cH (aC 1) (mC (.int 1))) (eB false (aB (bX (aB (mC (.str "shut")) aL)) aL))))) bM)
 (aS (cF (mB (aU fT (aC 2) (mC (.str "call")))) (aS (cF (mB (aU (fIn false) (bX (aB (aU cH (aC 1) (mC (.int 1))) (aB (aU dJ (aC 0) (mC (.str "taken"))) aL))) (aU dJ (aC 0) (mC (.str "opens"))))) (bQ (mC .non)) bM)
 (aS (eA (lA (aU dJ (aC 0) (mC (.str "opens"))) (bX (aB (aU cH (aC 1) (mC (.int 1))) (aB (aU dJ (aC 0) (mC (.str "taken"))) aL)))))
 (aS (CS Kv (aC 0) (mC (.str "deeds")) (Bv false (eB false (aB (bX (aB (mC (.str "hold")) aL)) aL)) qJ (gM (m1 uK (aU cH (aC 1) (mC (.int 2)))))))
 (bQ (aU (dY false) (aU cH (aU dJ (aC 0) (mC (.str "bodies"))) (aU cH (aC 1) (mC (.int 1)))) (eB false (aB (bX (aB (mC (.str "out")) (aB (aC 1) (aB (mC (.int 0)) aL)))) aL))))))) bM)
 (aS (cF (mB (aU fT (aC 2) (mC (.str "end")))) (aS (cN (aU dJ (aC 0) (mC (.str "todo"))) (.nm 4))
 (aS (cN (VI (BX false (jU (aC 4)) (.nm 6) gO (aU cH (aC 6) (mC (.int 0))) [6]) (mC (.str "out"))) (.nm 5))
 (aS (CS Kv (aC 0) (mC (.str "deeds")) (BX false (jU (Bv false (aC 4) qJ (gM (aC 5)))) (.nm 6) (mB (aU fT (aU cH (aC 6) (mC (.int 0))) (mC (.str "shut")))) (aC 6) [6]))
 (aS (E9 (aC 0) (mC (.str "todo")) (Bv false (aC 4) (gM (aU (dY false) (aC 5) (mC (.int 1)))) qJ))
 (bQ (eB false (aB (bX (aB (mC (.str "out")) (aB (aU cH (aU cH (aC 4) (aC 5)) (mC (.int 1))) (aB (aU cH (aC 1) (mC (.int 1))) aL)))) aL))))))) bM)
 (aS (cF (mB (aU fT (aC 2) (mC (.str "out")))) (aS (eA (m1 sD (aU dJ (aC 0) (mC (.str "opens")))))
 (aS (E9 (aC 0) (mC (.str "way")) (aU cH (aC 1) (mC (.int 2))))
 (aS (CS Kv (aC 0) (mC (.str "deeds")) (Bv false (eB false (aB (bX (aB (mC (.str "shut")) aL)) aL)) qJ (gM (m1 uK (aU cH (aU cH (aC 1) (mC (.int 1))) (mC (.int 2)))))))
 (bQ (aU cH (aU cH (aU cH (aC 1) (mC (.int 1))) (mC (.int 3))) (aU cH (aC 1) (mC (.int 2)))))))) bM)
 (aS (eA (lA (aU dJ (aC 0) (mC (.str "deeds"))) (aC 1)))
 (bQ (eB false aL)))))))))
def kE : FD := run 7 2 hW
def eY : FS :=
 (kW [5, 6, 7] (cF (mB (aU M8 (m1 eW (aU dJ (aC 4) (mC (.str "todo")))) (mC (.int 0)))) (aS (cN (aU cH (aU dJ (aC 4) (mC (.str "todo"))) (mC (.int 0))) (.nm 6))
 (aS (E9 (aC 4) (mC (.str "todo")) (Bv false (aU dJ (aC 4) (mC (.str "todo"))) (gM (mC (.int 1))) qJ))
 (aS (cN (bE kE (aB (aC 4) (aB (aC 6) aL))) (.nm 7))
 (aS (cF (Il (mB (aU (FF false) (aC 7) (mC .non))) (mB (aU fT (aU cH (aC 6) (mC (.int 0))) (mC (.str "call"))))) (bQ (bX (aB (mC (.str "never")) (aB (m1 wR (mC (.int 2))) (aB (uG (aU dJ (aC 4) (mC (.str "deeds")))) (aB (uG (aU dJ (aC 4) (mC (.str "bits")))) aL)))))) bM)
 (aS (cF (mB (aU (FF false) (aC 7) (mC .non))) (bQ (bX (aB (mC (.str "short")) (aB (m1 eW (aU dJ (aC 4) (mC (.str "bits")))) (aB (uG (aU dJ (aC 4) (mC (.str "deeds")))) (aB (uG (aU dJ (aC 4) (mC (.str "bits")))) aL)))))) bM)
 (E9 (aC 4) (mC (.str "todo")) (aU (dY false) (aC 7) (aU dJ (aC 4) (mC (.str "todo")))))))))) bM))
def DC : FS :=
 (aS (cN (NI [("bodies", (aC 0)), ("bits", (m1 (wI true) (aC 2))), ("extra", (aC 3)), ("taken", (mC (.int 0))), ("way", (mC (.int 0))), ("deeds", (eB true aL)), ("opens", (eB true aL))]) (.nm 4))
 (aS (E9 (aC 4) (mC (.str "todo")) (eB false (aB (bX (aB (mC (.str "call")) (aB (aC 1) (aB (mC (.bl false)) (aB (eB false (aB (eB false aL) (aB (eB false aL) aL))) aL))))) aL)))
 (aS (tT (kX (mC (.int 3000))) (.nm 5) eY)
 (aS (cF (mB (aU M8 (m1 eW (aU dJ (aC 4) (mC (.str "todo")))) (mC (.int 0)))) (bQ (bX (aB (mC (.str "long")) (aB (mC (.int 0)) (aB (eB false aL) (aB (eB false aL) aL)))))) bM)
 (aS (cF (mB (aU M7 (aU dJ (aC 4) (mC (.str "taken"))) (m1 eW (aU dJ (aC 4) (mC (.str "bits")))))) (bQ (bX (aB (mC (.str "rest")) (aB (aU dJ (aC 4) (mC (.str "taken"))) (aB (uG (aU dJ (aC 4) (mC (.str "deeds")))) (aB (uG (aU dJ (aC 4) (mC (.str "bits")))) aL)))))) bM)
 (bQ (bX (aB (mC (.str "run")) (aB (aU dJ (aC 4) (mC (.str "way"))) (aB (uG (aU dJ (aC 4) (mC (.str "deeds")))) (aB (uG (aU dJ (aC 4) (mC (.str "bits")))) aL)))))))))))
def yT : FD := AW 8 4 DC
def BO : FS :=
 (bQ (BX false (kX (bE cS (aB (aC 0) (aB (aU (dY false) (aC 1) (mC (.int 1))) aL)))) (.nm 2) gO (bE cS (aB (aC 0) (aB (mC (.int 2)) aL))) [2]))
def Ag : FD := run 3 2 BO
def tG : FS :=
 (aS (cN (bE Ag (aB (aC 0) (aB (aC 3) aL))) (.nm 5))
 (aS (cN (bE yT (aB (aC 1) (aB (aC 2) (aB (aC 5) (aB (aC 4) aL))))) (.nm 6))
 (aS (cF (mB (aU fT (aU cH (aC 6) (mC (.int 0))) (mC (.str "rest")))) (aS (cN (Bv false (aC 5) qJ (gM (aU cH (aC 6) (mC (.int 1))))) (.nm 5))
 (cN (bE yT (aB (aC 1) (aB (aC 2) (aB (aC 5) (aB (aC 4) aL))))) (.nm 6))) bM)
 (bQ (aC 6)))))
def pI : FD := run 7 5 tG
theorem U3 {x0 x1 : Vl} {S : aO} : D6 [x0, x1] S = cC (DF [some x0, some x1, none] S) := (rfl)
theorem kG {x0 x1 : Vl} {S : aO} : kE [x0, x1] S = cC (hW [some x0, some x1, none, none, none, none, none] S) := (rfl)
theorem U0 {x0 x1 x2 x3 : Vl} {S : aO} : yT [x0, x1, x2, x3] S = trunc S.length (cC (DC [some x0, some x1, some x2, some x3, none, none, none, none] S)) := (rfl)
theorem RC {x0 x1 : Vl} {S : aO} : Ag [x0, x1] S = cC (BO [some x0, some x1, none] S) := (rfl)
theorem Jr {x0 x1 x2 x3 x4 : Vl} {S : aO} : pI [x0, x1, x2, x3, x4] S = cC (tG [some x0, some x1, some x2, some x3, some x4, none, none] S) := (rfl)
def qX : L5 :=
 (Ft (cN (bE bU (aB (aC 0) (aB (aC 1) (aB (aC 2) aL)))) (.tp [4, 5]))
 (Ft (cF (nA (fP (bE uE (aB (aC 3) aL)))) (Bw "NoPen") bM)
 (Ft (cN (bE lK (aB (aC 5) (aB (aC 3) aL))) (.tp [6, 7]))
 (mYf (aC 6)))))
def nZ : Ny := Oi 8 4 qX
theorem CI {x0 x1 x2 x3 : Vl} {S : aO} : nZ [x0, x1, x2, x3] S = qX [some x0, some x1, some x2, some x3, none, none, none, none] S := (rfl)
def DE : FS :=
 (bQ (aU cH (bX (aB (mC (.bl true)) (aB (mC .non) (aB (mC (.str "1")) (aB (bX (aB (mC (.int 1)) aL)) (aB (eB false (aB (mC (.int 1)) aL)) (aB (mC (.bl false)) (aB (mC (.str "")) aL)))))))) (bE cS (aB (aC 0) (aB (mC (.int 7)) aL)))))
def yU : FD := run 1 1 DE
def tH : FS :=
 (aS (cN (BX true (kX (mC (.int 6))) (.nm 4) gO (bE iU (aB (aC 0) aL)) [4]) (.nm 1))
 (aS (cN (bE cS (aB (aC 0) (aB (mC (.int 5)) aL))) (.nm 2))
 (aS (cF (mB (aU fT (aC 2) (mC (.int 0)))) (bQ (uG (aC 1))) bM)
 (aS (cF (mB (aU fT (aC 2) (mC (.int 1)))) (eA (lA (aC 1) (mC (.int 0)))) (cF (mB (aU fT (aC 2) (mC (.int 2)))) (eA (m1 sD (aC 1))) (aS (cN (bE cS (aB (aC 0) (aB (mC (.int 6)) aL))) (.nm 3))
 (wG (bE yU (aB (aC 0) aL)) (aC 1) (aC 3)))))
 (bQ (m1 fTuple (aC 1)))))))
def sT : FD := AW 5 1 tH
def BI (f_L_tiny_block : FD) : FS :=
 (aS (sU (fun x y => x - y) (aC 2) (mC (.int 0)) (mC (.int 1)))
 (aS (cN (bE cS (aB (aC 0) (aB (mC (.int 10)) aL))) (.nm 5))
 (aS (cN (aU fT (bE cS (aB (aC 0) (aB (mC (.int 3)) aL))) (mC (.int 0))) (.nm 6))
 (aS (cF (Et (mB (aU M7 (aC 5) (mC (.int 4)))) (mB (aU M8 (aC 1) (mC (.int 2))))) (bQ (bE jI (aB (aC 0) aL))) bM)
 (aS (cF (mB (aU fT (aC 5) (mC (.int 4)))) (bQ (bX (aB (mC (.str "end")) (aB (bE cS (aB (aC 0) (aB (mC (.int 2)) aL))) aL)))) bM)
 (aS (cN (bE (f_L_tiny_block) (aB (aC 0) (aB (aU (dY false) (aC 1) (mC (.int 1))) (aB (aC 2) (aB (aC 3) (aB (aC 4) aL)))))) (.nm 7))
 (aS (cF (mB (aU fT (aC 5) (mC (.int 5)))) (bQ (bX (aB (mC (.str "keep")) (aB (aC 7) aL)))) bM)
 (aS (cF (mB (aU fT (aC 5) (mC (.int 6)))) (bQ (bX (aB (mC (.str "again")) (aB (aC 7) aL)))) bM)
 (aS (cF (Il (mB (aU fT (aC 5) (mC (.int 7)))) (mB (aU M7 (aC 4) (aC 3)))) (aS (cN (aU (dY false) (aC 4) (bE cS (aB (aC 0) (aB (aU wQ (aC 3) (aC 4)) aL)))) (.nm 8))
 (bQ (bX (aB (mC (.str "call")) (aB (aC 8) (aB (aC 6) (aB (eB false (aB (aC 7) (aB (bE (f_L_tiny_block) (aB (aC 0) (aB (aU (dY false) (aC 1) (mC (.int 1))) (aB (aC 2) (aB (aC 3) (aB (aC 4) aL)))))) aL))) aL))))))) bM)
 (aS (cF (Il (mB (aU fT (aC 5) (mC (.int 8)))) (Il (mB (aU M7 (aC 1) (mC (.int 2)))) (mB (aU M8 (aU cH (aC 2) (mC (.int 0))) (mC (.int 0)))))) (aS (sU (fun x y => x - y) (aC 2) (mC (.int 0)) (mC (.int 1)))
 (bQ (bX (aB (mC (.str "either")) (aB (aC 7) (aB (eB false (aB (bX (aB (mC (.str "call")) (aB (bE cS (aB (aC 0) (aB (aC 3) aL))) (aB (aC 6) (aB (eB false (aB (eB false aL) (aB (eB false aL) aL))) aL))))) aL)) aL)))))) bM)
 (bQ (bX (aB (mC (.str "either")) (aB (aC 7) (aB (bE (f_L_tiny_block) (aB (aC 0) (aB (aU (dY false) (aC 1) (mC (.int 1))) (aB (aC 2) (aB (aC 3) (aB (aC 4) aL)))))) aL)))))))))))))))
def iE (f_L_tiny : FD) : FS :=
 (kW [6] (cF (mB (aU M8 (aU cH (aC 2) (mC (.int 0))) (mC (.int 0)))) (eA (lA (aC 5) (bE (f_L_tiny) (aB (aC 0) (aB (aC 1) (aB (aC 2) (aB (aC 3) (aB (aC 4) aL)))))))) bM))
def nQ (f_L_tiny : FD) : FS :=
 (aS (cN (eB true aL) (.nm 5))
 (aS (tT (kX (bE cS (aB (aC 0) (aB (mC (.int 3)) aL)))) (.nm 6) (iE (f_L_tiny)))
 (bQ (uG (aC 5)))))
def EO : Nat -> FD × FD
 | 0 => (wY, wY)
 | n + 1 => let r := EO n
  (run 9 5 (BI r.2), AW 7 5 (nQ r.1))
def kD (n : Nat) : FD := (EO n).1
def mX (n : Nat) : FD := (EO n).2
def jH : FS :=
 (kW [8] (cF (mB (aU M8 (aU cH (aC 6) (mC (.int 0))) (mC (.int 0)))) (eA (lA (aC 7) (bE (kD 20) (aB (aC 0) (aB (mC (.int 0)) (aB (aC 6) (aB (aC 3) (aB (aU (dY false) (aC 5) (mC (.int 1))) aL)))))))) bM))
def jG : FS :=
 (kW [5, 6, 7, 8] (aS (cN (eB true (aB (aC 2) aL)) (.nm 6))
 (aS (cN (eB true aL) (.nm 7))
 (aS (tT (kX (aU (dY false) (mC (.int 1)) (bE cS (aB (aC 0) (aB (mC (.int 4)) aL))))) (.nm 8) jH)
 (eA (lA (aC 4) (uG (aC 7))))))))
def oY : FS :=
 (aS (cN (aU (dY false) (mC (.int 1)) (bE cS (aB (aC 0) (aB (aC 1) aL)))) (.nm 3))
 (aS (cN (eB true aL) (.nm 4))
 (aS (tT (kX (aC 3)) (.nm 5) jG)
 (bQ (uG (aC 4))))))
def oO : FD := AW 9 3 oY
def uQ : FS :=
 (aS (CQ ["NoBook", "NoCommand", "NoPath", "NoPen", "NoProcedure", "NoRun"] (cN (KL 3 xQ (aB (aC 0) (aB (aC 1) (aB (aC 2) aL))) (aC 3)) (.nm 4)) [("NoProcedure", .m (bQ (bX (aB (mC (.str "NoProcedure")) (aB (mC (.int 0)) aL))))), ("NoRun", .j 5 [.c (.str "NoRun") (.str "NoRun"), .f "index"]), ("NoPen", .m (bQ (bX (aB (mC (.str "NoPen")) (aB (mC (.int 0)) aL)))))])
 (bQ (bX (aB (mC (.str "told")) (aB (aC 4) aL)))))
def qW : FD := run 6 4 uQ
def nP : FS :=
 (aS (cN (eB true aL) (.nm 4))
 (aS (CQ ["NoBook", "NoCommand", "NoPath", "NoPen", "NoProcedure", "NoRun"] (Lh ["NoBook", "NoCommand", "NoPath", "NoPen", "NoProcedure", "NoRun"] 5 4 3 nZ (aB (aC 0) (aB (aC 1) (aB (aC 2) aL))) (aC 3)) [("NoProcedure", .m (bQ (bX (aB (mC (.str "NoProcedure")) (aB (m1 eW (aC 4)) aL))))), ("NoRun", .j 6 [.c (.str "NoRun") (.str "NoRun"), .fl "index" 4]), ("NoPen", .m (bQ (bX (aB (mC (.str "NoPen")) (aB (m1 eW (aC 4)) aL)))))])
 (bQ (bX (aB (mC (.str "told")) (aB (uG (aC 4)) aL))))))
def kJ : FD := AW 7 4 nP
def jW : FS :=
 (aS (CQ ["NoBook", "NoCommand", "NoPath", "NoPen", "NoProcedure", "NoRun"] (cN (bE mW (aB (aC 0) (aB (aC 1) (aB (aC 2) aL)))) (.nm 3)) [("NoProcedure", .m (bQ (bX (aB (mC (.str "NoProcedure")) (aB (mC (.int 0)) aL))))), ("NoRun", .j 4 [.c (.str "NoRun") (.str "NoRun"), .f "index"])])
 (bQ (bX (aB (mC (.str "told")) (aB (aC 3) aL)))))
def jS : FD := run 5 3 jW
def pN : FS :=
 (aS (cF (nA (fP (bE (eL 20) (aB (bE qW (aB (aC 0) (aB (aC 1) (aB (aC 2) (aB (aC 3) aL))))) (aB (aC 4) aL))))) (bQ (mC (.bl false))) bM)
 (aS (cF (nA (fP (bE (eL 20) (aB (bE kJ (aB (aC 0) (aB (aC 1) (aB (aC 2) (aB (aC 3) aL))))) (aB (aC 4) aL))))) (bQ (mC (.bl false))) bM)
 (bQ (VG (aU fT (aU cH (aC 4) (mC (.int 0))) (mC (.str "NoPen"))) (bE (eL 20) (aB (bE jS (aB (aC 0) (aB (aC 1) (aB (aC 2) aL)))) (aB (aC 4) aL)))))))
def dP : FD := run 5 5 pN
def pC : FS :=
 (cF (nA (fP (bE dP (aB (aC 3) (aB (aC 4) (aB (aC 13) (aB (aC 14) (aB (bX (aB (mC (.str "NoProcedure")) (aB (mC (.int 0)) aL))) aL)))))))) (bQ (mC (.bl false))) bM)
def pB : FS :=
 (kW [13] (tT (jU (eB false (aB (aC 9) (aB (aC 10) aL)))) (.nm 14) pC))
def pA : FS :=
 (aS (cF (nA (fP (bE dP (aB (aC 3) (aB (aC 6) (aB (aC 12) (aB (aC 14) (aB (bX (aB (mC (.str "NoRun")) (aB (aC 11) aL))) aL)))))))) (bQ (mC (.bl false))) bM)
 (cF (nA (fP (bE dP (aB (aC 3) (aB (aC 6) (aB (mC (.str "0")) (aB (aC 14) (aB (bX (aB (mC (.str "NoRun")) (aB (m1 wR (mC (.int 1))) aL))) aL)))))))) (bQ (mC (.bl false))) bM))
def xI : FS :=
 (aS (cN (bE xR (aB (aU cH (aC 7) (mC (.int 2))) (aB (aC 9) aL))) (.nm 15))
 (aS (cF (nA (fP (bE (eL 20) (aB (bE qW (aB (aC 3) (aB (aC 6) (aB (aC 8) (aB (aC 9) aL))))) (aB (bX (aB (mC (.str "told")) (aB (bX (aB (aU cH (aC 7) (mC (.int 1))) (aB (aU cH (aC 15) (mC (.int 1))) (aB (m1 eW (aU cH (aC 15) (mC (.int 0)))) aL)))) aL))) aL))))) (bQ (mC (.bl false))) bM)
 (bQ (bE (eL 20) (aB (bE kJ (aB (aC 3) (aB (aC 6) (aB (aC 8) (aB (aC 9) aL))))) (aB (bX (aB (mC (.str "told")) (aB (aU cH (aC 15) (mC (.int 0))) aL))) aL))))))
def xH : FS :=
 (aS (cF (nA (fP (bE dP (aB (aC 3) (aB (aC 6) (aB (aC 8) (aB (aC 10) (aB (bX (aB (mC (.str "NoPen")) (aB (mC (.int 0)) aL))) aL)))))))) (bQ (mC (.bl false))) bM)
 xI)
def mH : FS :=
 (aS (cF (mB (aU Jx (aU cH (aC 7) (mC (.int 0))) (mC (.str "run")))) (bQ (mC (.bl true))) bM)
 xH)
def xG : FS :=
 (aS (tT (jU (eB false (aB (aC 9) (aB (aC 10) aL)))) (.nm 14) pA)
 mH)
def qY : FS :=
 (aS (cN (bE Ae (aB (aC 0) aL)) (.nm 1))
 (aS (cN (bE oO (aB (aC 1) (aB (mC (.int 3)) (aB (mC (.int 6)) aL)))) (.nm 2))
 (aS (cN (Lg false "Book" mK (aB (bE vG (aB (aC 2) aL)) aL)) (.nm 3))
 (aS (cN (aU cH (bX (aB (m1 eW (aC 2)) (aB (m1 wR (mC (.int 1))) (aB (mC (.bl true)) (aB (mC .non) (aB (mC (.str "0")) (aB (aU JP (mC (.int 10)) (mC (.int 20))) (aB (bX (aB (mC (.int 0)) aL)) aL)))))))) (bE cS (aB (aC 1) (aB (mC (.int 7)) aL)))) (.nm 4))
 (aS (cN (aU cH (bX (aB (mC (.int 2)) (aB (m1 wR (mC (.int 1))) (aB (mC (.bl true)) (aB (mC .non) (aB (mC (.str "1")) (aB (eB false (aB (mC (.int 0)) aL)) aL))))))) (bE cS (aB (aC 1) (aB (mC (.int 6)) aL)))) (.nm 5))
 (aS (cN (bE cS (aB (aC 1) (aB (m1 eW (aC 2)) aL))) (.nm 6))
 (aS (cN (bE pI (aB (aC 1) (aB (aC 2) (aB (aC 6) (aB (mC (.int 10)) (aB (mC (.int 14)) aL)))))) (.nm 7))
 (aS (cN (m1 (wI false) (aU cH (aC 7) (mC (.int 3)))) (.nm 8))
 (aS (cN (bE D0 (aB (aC 1) aL)) (.nm 9))
 (aS (cN (bE sT (aB (aC 1) aL)) (.nm 10))
 (aS (cN (bE cS (aB (aC 1) (aB (aU (dY false) (m1 eW (aC 8)) (mC (.int 1))) aL))) (.nm 11))
 (aS (cN (aU (dY false) (aU (dY false) (Bv false (aC 8) qJ (gM (aC 11))) (eB false (aB (aC 5) aL))) (Bv false (aC 8) (gM (aC 11)) qJ)) (.nm 12))
 (aS (tT (jU (eB false (aB (aC 8) (aB (aC 12) (aB (mC .non) aL))))) (.nm 13) pB)
 xG)))))))))))))
def m_law_k22 : FD := AW 16 1 qY
theorem U2 {x0 : Vl} {S : aO} : yU [x0] S = cC (DE [some x0] S) := (rfl)
theorem Js {x0 : Vl} {S : aO} : sT [x0] S = trunc S.length (cC (tH [some x0, none, none, none, none] S)) := (rfl)
theorem FJ {x0 x1 x2 : Vl} {S : aO} : oO [x0, x1, x2] S = trunc S.length (cC (oY [some x0, some x1, some x2, none, none, none, none, none, none] S)) := (rfl)
theorem GZ {x0 x1 x2 x3 : Vl} {S : aO} : qW [x0, x1, x2, x3] S = cC (uQ [some x0, some x1, some x2, some x3, none, none] S) := (rfl)
theorem BS {x0 x1 x2 x3 : Vl} {S : aO} : kJ [x0, x1, x2, x3] S = trunc S.length (cC (nP [some x0, some x1, some x2, some x3, none, none, none] S)) := (rfl)
theorem BU {x0 x1 x2 : Vl} {S : aO} : jS [x0, x1, x2] S = cC (jW [some x0, some x1, some x2, none, none] S) := (rfl)
theorem Cj {x0 x1 x2 x3 x4 : Vl} {S : aO} : dP [x0, x1, x2, x3, x4] S = cC (pN [some x0, some x1, some x2, some x3, some x4] S) := (rfl)
theorem Nu {x0 : Vl} {S : aO} : m_law_k22 [x0] S = trunc S.length (cC (qY [some x0, none, none, none, none, none, none, none, none, none, none, none, none, none, none, none] S)) := (rfl)
end PH
namespace PHZ
open PH PySem PySem.Spec PyProof.Rows L2
theorem F3 : FnScope ["value"] ["value"] (defScope uX) := ⟨rfl, rfl, rfl, by decide +kernel, rfl, by decide +kernel, by decide +kernel⟩
theorem Mu : FnScope ["value"] ["value"] (defScope De) := ⟨rfl, rfl, rfl, by decide +kernel, rfl, by decide +kernel, by decide +kernel⟩
theorem Mr : FnScope ["value", "number"] ["value"] (defScope AO) := ⟨rfl, rfl, rfl, by decide +kernel, rfl, by decide +kernel, by decide +kernel⟩
theorem F4 : FnScope ["value", "many", "low", "high", "number"] ["value"] (defScope qF) := ⟨rfl, rfl, rfl, by decide +kernel, rfl, by decide +kernel, by decide +kernel⟩
theorem IH : FnScope ["pen", "command", "x", "y", "u", "v", "p", "q", "word", "step"] ["pen", "command"] (defScope zX) := ⟨rfl, rfl, rfl, by decide +kernel, rfl, by decide +kernel, by decide +kernel⟩
theorem Gh : FnScope ["statement", "word"] ["statement"] (defScope xD) := ⟨rfl, rfl, rfl, by decide +kernel, rfl, by decide +kernel, by decide +kernel⟩
theorem DW : FnScope ["statement", "blocks", "word"] ["statement", "blocks"] (defScope tL) := ⟨rfl, rfl, rfl, by decide +kernel, rfl, by decide +kernel, by decide +kernel⟩
theorem wB : FnScope ["block", "statement"] ["block"] (defScope mU) := ⟨rfl, rfl, rfl, by decide +kernel, rfl, by decide +kernel, by decide +kernel⟩
theorem qB : FnScope ["statement", "block"] ["statement"] (defScope iR) := ⟨rfl, rfl, rfl, by decide +kernel, rfl, by decide +kernel, by decide +kernel⟩
theorem DX : FnScope ["value", "level", "many", "word"] ["value", "level", "many"] (defScope tM) := ⟨rfl, rfl, rfl, by decide +kernel, rfl, by decide +kernel, by decide +kernel⟩
theorem xC : FnScope ["block", "level", "many", "path", "met", "at", "statement", "here", "number", "inner", "fault"] ["block", "level", "many", "path", "met"] (defScope tO) := ⟨rfl, rfl, rfl, by decide +kernel, rfl, by decide +kernel, by decide +kernel⟩
theorem Gk : FnScope ["self", "bodies", "procedure", "body", "fault", "met"] ["self", "bodies"] (defScope mG) := ⟨rfl, rfl, rfl, by decide +kernel, rfl, by decide +kernel, by decide +kernel⟩
theorem IM : FnScope ["self"] ["self"] (defScope rF) := ⟨rfl, rfl, rfl, by decide +kernel, rfl, by decide +kernel, by decide +kernel⟩
theorem Dd : FnScope ["self", "body"] ["self"] (defScope jM) := ⟨rfl, rfl, rfl, by decide +kernel, rfl, by decide +kernel, by decide +kernel⟩
theorem Bj : FnScope ["book", "procedure"] ["book", "procedure"] (defScope pS) := ⟨rfl, rfl, rfl, by decide +kernel, rfl, by decide +kernel, by decide +kernel⟩
theorem IG : FnScope ["at"] [] (defScope uY) := ⟨rfl, rfl, rfl, by decide +kernel, rfl, by decide +kernel, by decide +kernel⟩
theorem Gg : FnScope ["command", "origin", "columns", "at", "unit", "image", "k", "i", "j"] ["command"] (defScope mF) := ⟨rfl, rfl, rfl, by decide +kernel, rfl, by decide +kernel, by decide +kernel⟩
theorem II : FnScope ["one", "other", "result", "i", "row", "k", "factor", "a", "b"] ["one", "other"] (defScope uZ) := ⟨rfl, rfl, rfl, by decide +kernel, rfl, by decide +kernel, by decide +kernel⟩
theorem DZ : FnScope ["matrix", "first", "middle", "number"] ["matrix"] (defScope oJ) := ⟨rfl, rfl, rfl, by decide +kernel, rfl, by decide +kernel, by decide +kernel⟩
theorem AM : FnScope ["self", "bodies", "bits", "body"] ["self", "bodies", "bits"] (defScope gB) := ⟨rfl, rfl, rfl, by decide +kernel, rfl, by decide +kernel, by decide +kernel⟩
theorem AK : FnScope ["self"] ["self"] (defScope iF) := ⟨rfl, rfl, rfl, by decide +kernel, rfl, by decide +kernel, by decide +kernel⟩
theorem zV : FnScope ["self", "procedure", "statement", "earlier"] ["self", "procedure", "statement"] (defScope gV) := ⟨rfl, rfl, rfl, by decide +kernel, rfl, by decide +kernel, by decide +kernel⟩
theorem zU : FnScope ["self", "procedure", "statement", "way"] ["self", "procedure", "statement", "way"] (defScope gU) := ⟨rfl, rfl, rfl, by decide +kernel, rfl, by decide +kernel, by decide +kernel⟩
theorem zE : FnScope ["self", "way", "task"] ["self", "way"] (defScope gE) := ⟨rfl, rfl, rfl, by decide +kernel, rfl, by decide +kernel, by decide +kernel⟩
theorem zW : FnScope ["self", "statement", "word"] ["self", "statement"] (defScope gW) := ⟨rfl, rfl, rfl, by decide +kernel, rfl, by decide +kernel, by decide +kernel⟩
theorem AL : FnScope ["self", "task"] ["self"] (defScope iG) := ⟨rfl, rfl, rfl, by decide +kernel, rfl, by decide +kernel, by decide +kernel⟩
theorem Cm : FnScope ["book", "procedure", "bits", "index", "bit", "execution"] ["book", "procedure", "bits"] (defScope rC) := ⟨rfl, rfl, rfl, by decide +kernel, rfl, by decide +kernel, by decide +kernel⟩
theorem DY : FnScope ["deeds", "pen", "pens", "held", "deed"] ["deeds", "pen"] (defScope tN) := ⟨rfl, rfl, rfl, by decide +kernel, rfl, by decide +kernel, by decide +kernel⟩
theorem sc_ran : FnScope ["book", "procedure", "bits", "pen", "way", "deeds", "pens", "last"] ["book", "procedure", "bits", "pen"] (defScope Fc) := ⟨rfl, rfl, rfl, by decide +kernel, rfl, by decide +kernel, by decide +kernel⟩
theorem F2 : FnScope ["book", "procedure", "bits", "way", "deeds", "matrix", "held", "length", "deed"] ["book", "procedure", "bits"] (defScope uW) := ⟨rfl, rfl, rfl, by decide +kernel, rfl, by decide +kernel, by decide +kernel⟩
theorem Mw : FnScope ["_law_script", "_law_cell"] ["_law_script"] (defScope AR) := ⟨rfl, rfl, rfl, by decide +kernel, rfl, by decide +kernel, by decide +kernel⟩
theorem Mz : FnScope ["_law_pool_here", "_law_many", "_law_at", "_law_cell", "_law_number_here"] ["_law_pool_here", "_law_many"] (defScope Dj) := ⟨rfl, rfl, rfl, by decide +kernel, rfl, by decide +kernel, by decide +kernel⟩
theorem IJ : FnScope ["_law_pool_here", "_law_small", "_law_at", "_law_number_here"] ["_law_pool_here"] (defScope zY) := ⟨rfl, rfl, rfl, by decide +kernel, rfl, by decide +kernel, by decide +kernel⟩
theorem OY : FnScope ["_law_pool_here", "_law_begin", "_law_k"] ["_law_pool_here"] (defScope Cv) := ⟨rfl, rfl, rfl, by decide +kernel, rfl, by decide +kernel, by decide +kernel⟩
theorem My : FnScope ["_law_begin", "_law_command", "_law_x", "_law_y", "_law_u", "_law_v", "_law_p", "_law_q", "_law_word", "_law_k", "_law_turned"] ["_law_begin", "_law_command"] (defScope Di) := ⟨rfl, rfl, rfl, by decide +kernel, rfl, by decide +kernel, by decide +kernel⟩
theorem sc_L_bit : FnScope ["_law_state", "_law_task_here", "_law_bits_here"] ["_law_state", "_law_task_here"] (defScope Cw) := ⟨rfl, rfl, rfl, by decide +kernel, rfl, by decide +kernel, by decide +kernel⟩
theorem sc_L_task : FnScope ["_law_state", "_law_task_here", "_law_word", "_law_bit_here", "_law_todo", "_law_at", "_law_waits"] ["_law_state", "_law_task_here"] (defScope uD) := ⟨rfl, rfl, rfl, by decide +kernel, rfl, by decide +kernel, by decide +kernel⟩
theorem sc_L_run : FnScope ["_law_bodies", "_law_procedure", "_law_bits_here", "_law_extra", "_law_state", "_law_turn", "_law_task_here", "_law_block"] ["_law_bodies", "_law_procedure", "_law_bits_here", "_law_extra"] (defScope Cu) := ⟨rfl, rfl, rfl, by decide +kernel, rfl, by decide +kernel, by decide +kernel⟩
theorem N0 : FnScope ["_law_pool_here", "_law_many", "_law_k"] ["_law_pool_here", "_law_many"] (defScope AU) := ⟨rfl, rfl, rfl, by decide +kernel, rfl, by decide +kernel, by decide +kernel⟩
theorem Mx : FnScope ["_law_deeds", "_law_begin", "_law_pens_here", "_law_held", "_law_deed"] ["_law_deeds", "_law_begin"] (defScope Dh) := ⟨rfl, rfl, rfl, by decide +kernel, rfl, by decide +kernel, by decide +kernel⟩
theorem Bl : FnScope ["_law_pool_here", "_law_kind"] ["_law_pool_here"] (defScope pT) := ⟨rfl, rfl, rfl, by decide +kernel, rfl, by decide +kernel, by decide +kernel⟩
theorem OZ : FnScope ["_law_pool_here"] ["_law_pool_here"] (defScope Gn) := ⟨rfl, rfl, rfl, by decide +kernel, rfl, by decide +kernel, by decide +kernel⟩
theorem Gj : FnScope ["_law_pool_here", "_law_begin", "_law_kind", "_law_at", "_law_k"] ["_law_pool_here"] (defScope sQ) := ⟨rfl, rfl, rfl, by decide +kernel, rfl, by decide +kernel, by decide +kernel⟩
theorem IL : FnScope ["_law_statement", "_law_item"] ["_law_statement"] (defScope vE) := ⟨rfl, rfl, rfl, by decide +kernel, rfl, by decide +kernel, by decide +kernel⟩
theorem Mv : FnScope ["_law_statement", "_law_blocks_here"] ["_law_statement", "_law_blocks_here"] (defScope Df) := ⟨rfl, rfl, rfl, by decide +kernel, rfl, by decide +kernel, by decide +kernel⟩
theorem FZ : FnScope ["_law_block", "_law_row", "_law_inner"] ["_law_block"] (defScope AS) := ⟨rfl, rfl, rfl, by decide +kernel, rfl, by decide +kernel, by decide +kernel⟩
theorem IK : FnScope ["_law_bodies", "_law_body"] ["_law_bodies"] (defScope vD) := ⟨rfl, rfl, rfl, by decide +kernel, rfl, by decide +kernel, by decide +kernel⟩
theorem FY : FnScope ["_law_one", "_law_other", "_law_k"] ["_law_one", "_law_other"] (defScope AQ) := ⟨rfl, rfl, rfl, by decide +kernel, rfl, by decide +kernel, by decide +kernel⟩
theorem sc_L_steered : FnScope ["_law_pool_here", "_law_bodies", "_law_procedure", "_law_many", "_law_extra", "_law_bits_here", "_law_found"] ["_law_pool_here", "_law_bodies", "_law_procedure", "_law_many", "_law_extra"] (defScope sP) := ⟨rfl, rfl, rfl, by decide +kernel, rfl, by decide +kernel, by decide +kernel⟩
theorem FX : FnScope ["_law_pool_here", "_law_level", "_law_room", "_law_many", "_law_low", "_law_kind", "_law_saved", "_law_one", "_law_goal"] ["_law_pool_here", "_law_level", "_law_room", "_law_many", "_law_low"] (defScope Dg) := ⟨rfl, rfl, rfl, by decide +kernel, rfl, by decide +kernel, by decide +kernel⟩
theorem wC : FnScope ["_law_pool_here", "_law_level", "_law_room", "_law_many", "_law_low", "_law_block", "_law_step"] ["_law_pool_here", "_law_level", "_law_room", "_law_many", "_law_low"] (defScope rD) := ⟨rfl, rfl, rfl, by decide +kernel, rfl, by decide +kernel, by decide +kernel⟩
theorem Dc : FnScope ["_law_pool_here", "_law_most", "_law_size", "_law_many", "_law_bodies", "_law_procedure", "_law_room", "_law_body", "_law_step"] ["_law_pool_here", "_law_most", "_law_size"] (defScope tP) := ⟨rfl, rfl, rfl, by decide +kernel, rfl, by decide +kernel, by decide +kernel⟩
theorem K7 : FnScope ["_law_book", "_law_procedure", "_law_bits_here", "_law_begin", "_law_answer", "e"] ["_law_book", "_law_procedure", "_law_bits_here", "_law_begin"] (defScope Bo) := ⟨rfl, rfl, rfl, by decide +kernel, rfl, by decide +kernel, by decide +kernel⟩
theorem sc_trace_T : GScope ["book", "procedure", "bits", "pen", "way", "deeds", "pens", "last"] ["book", "procedure", "bits", "pen"] (defScope qT) := ⟨rfl, rfl, rfl, by decide +kernel, rfl, by decide +kernel, by decide +kernel⟩
theorem F5 : FnScope ["_law_book", "_law_procedure", "_law_bits_here", "_law_begin", "_law_pens_here", "_law_behind", "e"] ["_law_book", "_law_procedure", "_law_bits_here", "_law_begin"] (defScope vC) := ⟨rfl, rfl, rfl, by decide +kernel, rfl, by decide +kernel, by decide +kernel⟩
theorem zT : FnScope ["_law_book", "_law_procedure", "_law_bits_here", "_law_answer", "e"] ["_law_book", "_law_procedure", "_law_bits_here"] (defScope mV) := ⟨rfl, rfl, rfl, by decide +kernel, rfl, by decide +kernel, by decide +kernel⟩
theorem Gi : FnScope ["_law_book", "_law_procedure", "_law_bits_here", "_law_begin", "_law_due"] ["_law_book", "_law_procedure", "_law_bits_here", "_law_begin", "_law_due"] (defScope xE) := ⟨rfl, rfl, rfl, by decide +kernel, rfl, by decide +kernel, by decide +kernel⟩
theorem sc_law_k22 : FnScope ["_law_script", "_law_pool_here", "_law_bodies", "_law_book", "_law_wrong", "_law_odd_here", "_law_procedure", "_law_found", "_law_good", "_law_begin", "_law_bad_pen_here", "_law_at", "_law_bad", "_law_bits_here", "_law_one", "_law_pens_here"] ["_law_script"] (defScope yR) := ⟨rfl, rfl, rfl, by decide +kernel, rfl, by decide +kernel, by decide +kernel⟩
theorem K6 : FnScope ["self", "procedure", "path"] ["self", "procedure", "path"] (defScope uB) := ⟨rfl, rfl, rfl, by decide +kernel, rfl, by decide +kernel, by decide +kernel⟩
theorem Mq : FnScope ["self", "index"] ["self", "index"] (defScope xB) := ⟨rfl, rfl, rfl, by decide +kernel, rfl, by decide +kernel, by decide +kernel⟩
structure Txt (w : World) (K : aD) (mg : Str -> Option Value) : Prop where
 n_isinstance : mg "isinstance" = none
 n_int : mg "int" = none
 n_bool : mg "bool" = none
 n_tuple : mg "tuple" = none
 n_len : mg "len" = none
 n_all : mg "all" = none
 n_str : mg "str" = none
 lim : Lim K
 k_LIMITS : ∃ es n, KDict K w (He.ga K "LIMITS") es n
 g_LIMITS : mg "LIMITS" = some (.ref (He.ga K "LIMITS"))
 n_range : mg "range" = none
 i_DEEPEST : ∃ t, mg "DEEPEST" = some (.int 3 t)
 n_list : mg "list" = none
 n_enumerate : mg "enumerate" = none
 i_MOST_IN_LIST : ∃ t, mg "MOST_IN_LIST" = some (.int 8 t)
 i_MOST_IN_PROCEDURE : ∃ t, mg "MOST_IN_PROCEDURE" = some (.int 12 t)
 i_MOST_PROCEDURES : ∃ t, mg "MOST_PROCEDURES" = some (.int 3 t)
 xa_NoBook : XaF K mg "NoBook" ["procedure", "path"]
 fx_NoBook : Jz K "NoBook" "__init__" "NoBook.__init__" uB
 c_Book : Cls K (He.ga K "Book")
 a_Book_own : NoAttr K (He.ga K "Book") "own"
 x_NoCommand : XcF K mg "NoCommand"
 n_zip : mg "zip" = none
 c_Execution : Cls K (He.ga K "Execution")
 a_Execution_own : NoAttr K (He.ga K "Execution") "own"
 a_Execution_bits : NoAttr K (He.ga K "Execution") "bits"
 a_Execution_taken : NoAttr K (He.ga K "Execution") "taken"
 a_Execution_deeds : NoAttr K (He.ga K "Execution") "deeds"
 a_Execution_stack : NoAttr K (He.ga K "Execution") "stack"
 a_Execution_active : NoAttr K (He.ga K "Execution") "active"
 a_Execution_ended : NoAttr K (He.ga K "Execution") "ended"
 xa_NoRun : XaF K mg "NoRun" ["index"]
 fx_NoRun : Jz K "NoRun" "__init__" "NoRun.__init__" xB
 x_NoProcedure : XcF K mg "NoProcedure"
 T_Execution : ClF K mg "Execution"
 x_NoPen : XcF K mg "NoPen"
 xm : XMs K ["NoBook", "NoCommand", "NoPath", "NoPen", "NoProcedure", "NoRun"]
 g_NoPen : mg "NoPen" = some (.ref (He.ga K "NoPen"))
 g_NoProcedure : mg "NoProcedure" = some (.ref (He.ga K "NoProcedure"))
 ns : Tz K ["NoBook", "NoCommand", "NoPath", "NoPen", "NoProcedure", "NoRun"]
 T_Book : ClF K mg "Book"
 G_is_integer : mg "is_integer" = some (.ref (He.ga K "is_integer"))
 f_is_integer : pQ K "is_integer" uX
 G_is_bit : mg "is_bit" = some (.ref (He.ga K "is_bit"))
 f_is_bit : pQ K "is_bit" De
 G_is_pen : mg "is_pen" = some (.ref (He.ga K "is_pen"))
 f_is_pen : pQ K "is_pen" AO
 G_is_command : mg "is_command" = some (.ref (He.ga K "is_command"))
 f_is_command : pQ K "is_command" qF
 G_executed : mg "executed" = some (.ref (He.ga K "executed"))
 f_executed : pQ K "executed" zX
 G_blocks_of : mg "blocks_of" = some (.ref (He.ga K "blocks_of"))
 f_blocks_of : pQ K "blocks_of" xD
 G_with_blocks : mg "with_blocks" = some (.ref (He.ga K "with_blocks"))
 f_with_blocks : pQ K "with_blocks" tL
 G_copied_block : mg "copied_block" = some (.ref (He.ga K "copied_block"))
 f_copied_block : pQ K "copied_block" mU
 G_copied_statement : mg "copied_statement" = some (.ref (He.ga K "copied_statement"))
 f_copied_statement : pQ K "copied_statement" iR
 G_well_formed : mg "well_formed" = some (.ref (He.ga K "well_formed"))
 f_well_formed : pQ K "well_formed" tM
 G_first_fault : mg "first_fault" = some (.ref (He.ga K "first_fault"))
 f_first_fault : pQ K "first_fault" tO
 M_Book_init : Meth K (He.ga K "Book") "__init__" (He.ma K (He.ga K "Book") "__init__")
 f_Book_init : Jz K "Book" "__init__" "Book.__init__" mG
 M_Book_len : Meth K (He.ga K "Book") "__len__" (He.ma K (He.ga K "Book") "__len__")
 f_Book_len : Jz K "Book" "__len__" "Book.__len__" rF
 M_Book_bodies : Meth K (He.ga K "Book") "bodies" (He.ma K (He.ga K "Book") "bodies")
 f_Book_bodies : Jz K "Book" "bodies" "Book.bodies" jM
 G_has_procedure : mg "has_procedure" = some (.ref (He.ga K "has_procedure"))
 f_has_procedure : pQ K "has_procedure" pS
 G_identity : mg "identity" = some (.ref (He.ga K "identity"))
 f_identity : pQ K "identity" uY
 G_matrix_of : mg "matrix_of" = some (.ref (He.ga K "matrix_of"))
 f_matrix_of : pQ K "matrix_of" mF
 G_composed : mg "composed" = some (.ref (He.ga K "composed"))
 f_composed : pQ K "composed" uZ
 G_kept_matrix : mg "kept_matrix" = some (.ref (He.ga K "kept_matrix"))
 f_kept_matrix : pQ K "kept_matrix" oJ
 M_Execution_init : Meth K (He.ga K "Execution") "__init__" (He.ma K (He.ga K "Execution") "__init__")
 f_Execution_init : Jz K "Execution" "__init__" "Execution.__init__" gB
 M_Execution_take : Meth K (He.ga K "Execution") "take" (He.ma K (He.ga K "Execution") "take")
 f_Execution_take : Jz K "Execution" "take" "Execution.take" iF
 M_Execution_enter : Meth K (He.ga K "Execution") "enter" (He.ma K (He.ga K "Execution") "enter")
 f_Execution_enter : Jz K "Execution" "enter" "Execution.enter" gV
 M_Execution_leave : Meth K (He.ga K "Execution") "leave" (He.ma K (He.ga K "Execution") "leave")
 f_Execution_leave : Jz K "Execution" "leave" "Execution.leave" gU
 M_Execution_unwind : Meth K (He.ga K "Execution") "unwind" (He.ma K (He.ga K "Execution") "unwind")
 f_Execution_unwind : Jz K "Execution" "unwind" "Execution.unwind" gE
 M_Execution_begin : Meth K (He.ga K "Execution") "begin" (He.ma K (He.ga K "Execution") "begin")
 f_Execution_begin : Jz K "Execution" "begin" "Execution.begin" gW
 M_Execution_step : Meth K (He.ga K "Execution") "step" (He.ma K (He.ga K "Execution") "step")
 f_Execution_step : Jz K "Execution" "step" "Execution.step" iG
 G_executed_run : mg "executed_run" = some (.ref (He.ga K "executed_run"))
 f_executed_run : pQ K "executed_run" rC
 G_pens_behind : mg "pens_behind" = some (.ref (He.ga K "pens_behind"))
 f_pens_behind : pQ K "pens_behind" tN
 G_ran : mg "ran" = some (.ref (He.ga K "ran"))
 f_ran : FnK K "ran" Fc "pen" (.ref (He.ga K "HOME"))
 G_run_matrix : mg "run_matrix" = some (.ref (He.ga K "run_matrix"))
 f_run_matrix : pQ K "run_matrix" uW
 G_L_pool : mg "_law_pool" = some (.ref (He.ga K "_law_pool"))
 f_L_pool : pQ K "_law_pool" AR
 G_L_draw : mg "_law_draw" = some (.ref (He.ga K "_law_draw"))
 f_L_draw : pQ K "_law_draw" Dj
 G_L_number : mg "_law_number" = some (.ref (He.ga K "_law_number"))
 f_L_number : pQ K "_law_number" zY
 G_L_pen : mg "_law_pen" = some (.ref (He.ga K "_law_pen"))
 f_L_pen : pQ K "_law_pen" Cv
 G_L_move : mg "_law_move" = some (.ref (He.ga K "_law_move"))
 f_L_move : pQ K "_law_move" Di
 G_L_bit : mg "_law_bit" = some (.ref (He.ga K "_law_bit"))
 f_L_bit : pQ K "_law_bit" Cw
 G_L_task : mg "_law_task" = some (.ref (He.ga K "_law_task"))
 f_L_task : pQ K "_law_task" uD
 G_L_run : mg "_law_run" = some (.ref (He.ga K "_law_run"))
 f_L_run : pQ K "_law_run" Cu
 G_L_bits : mg "_law_bits" = some (.ref (He.ga K "_law_bits"))
 f_L_bits : pQ K "_law_bits" AU
 G_L_pens : mg "_law_pens" = some (.ref (He.ga K "_law_pens"))
 f_L_pens : pQ K "_law_pens" Dh
 G_L_any_command : mg "_law_any_command" = some (.ref (He.ga K "_law_any_command"))
 f_L_any_command : pQ K "_law_any_command" pT
 G_L_odd : mg "_law_odd" = some (.ref (He.ga K "_law_odd"))
 f_L_odd : pQ K "_law_odd" Gn
 G_L_bad_pen : mg "_law_bad_pen" = some (.ref (He.ga K "_law_bad_pen"))
 f_L_bad_pen : pQ K "_law_bad_pen" sQ
 G_L_blocks : mg "_law_blocks" = some (.ref (He.ga K "_law_blocks"))
 f_L_blocks : pQ K "_law_blocks" vE
 G_L_with : mg "_law_with" = some (.ref (He.ga K "_law_with"))
 f_L_with : pQ K "_law_with" Df
 G_L_copy : mg "_law_copy" = some (.ref (He.ga K "_law_copy"))
 f_L_copy : pQ K "_law_copy" AS
 G_L_copies : mg "_law_copies" = some (.ref (He.ga K "_law_copies"))
 f_L_copies : pQ K "_law_copies" vD
 G_L_same : mg "_law_same" = some (.ref (He.ga K "_law_same"))
 f_L_same : pQ K "_law_same" AQ
 G_L_steered : mg "_law_steered" = some (.ref (He.ga K "_law_steered"))
 f_L_steered : pQ K "_law_steered" sP
 G_L_tiny : mg "_law_tiny" = some (.ref (He.ga K "_law_tiny"))
 f_L_tiny : pQ K "_law_tiny" Dg
 G_L_tiny_block : mg "_law_tiny_block" = some (.ref (He.ga K "_law_tiny_block"))
 f_L_tiny_block : pQ K "_law_tiny_block" rD
 G_L_tiny_book : mg "_law_tiny_book" = some (.ref (He.ga K "_law_tiny_book"))
 f_L_tiny_book : pQ K "_law_tiny_book" tP
 G_L_ran_3 : mg "_law_ran" = some (.ref (He.ga K "_law_ran"))
 f_L_ran_3 : pQ K "_law_ran" Bo
 G_trace_T : mg "trace" = some (.ref (He.ga K "trace"))
 f_trace_T : FnK K "trace" qT "pen" (.ref (He.ga K "HOME"))
 G_L_traced_2 : mg "_law_traced" = some (.ref (He.ga K "_law_traced"))
 f_L_traced_2 : pQ K "_law_traced" vC
 G_L_matrix_told_2 : mg "_law_matrix_told" = some (.ref (He.ga K "_law_matrix_told"))
 f_L_matrix_told_2 : pQ K "_law_matrix_told" mV
 G_L_right_4 : mg "_law_right" = some (.ref (He.ga K "_law_right"))
 f_L_right_4 : pQ K "_law_right" xE
 G_law_k22 : mg "law" = some (.ref (He.ga K "law"))
 f_law_k22 : pQ K "law" yR
section
variable {P : Program} {w : World} {K : aD} {mg : Str -> Option Value} {base : Heap}
theorem xa_NoBook (T : Txt w K mg) : XcA P w K mg base 1 "NoBook" ["self", "procedure", "path"] (Ut (He.ga K "NoBook") "procedure" "path") :=
 Oz (m := "__init__") T.xa_NoBook T.fx_NoBook K6 OO (fun _ _ _ _ _ _ us hl => match us, hl with | [_, _, _], _ => rfl) fun cdv A outer s H vs Q E hr hsp => by
  obtain ⟨a, y, z, e, ha, h⟩ := hsp;subst e;exact ⟨_, (pss_cons (ps_ost (cv 0) (cv 1)) (pss_one (ps_ost (cv 0) (cv 2)))), rd_X2 T.xa_NoBook (by simp) (by simp) ha (fun _ _ => rfl) h⟩
theorem xa_NoRun (T : Txt w K mg) : XcA P w K mg base 1 "NoRun" ["self", "index"] (Uu (He.ga K "NoRun") "index") :=
 Oz (m := "__init__") T.xa_NoRun T.fx_NoRun Mq OP (fun _ _ _ _ _ _ us hl => match us, hl with | [_, _], _ => rfl) fun cdv A outer s H vs Q E hr hsp => by
  obtain ⟨a, y, e, ha, h⟩ := hsp;subst e;exact ⟨_, (pss_one (ps_ost (cv 0) (cv 1))), rd_X1 T.xa_NoRun (by simp) ha (fun _ _ => rfl) h⟩
theorem lI (T : Txt w K mg) : qR P w K mg base 1 "is_integer" ["value"] (spF K eK) :=
 iH (k := 0) T.f_is_integer T.G_is_integer F3 (Runs.plain (n := 1) (np := 1)) (fun _ _ _ _ _ _ us hl => match us, hl with | [_], _ => rfl) fun _ _ _ _ _ _ hr tk nd => by
  unfold qP;exact (aI (aQ (nM (iP (T := "int") T.n_isinstance T.n_int (fv 0)) (pe_one (WO (iP (T := "bool") T.n_isinstance T.n_bool (fv 0)))))))
theorem Fm (T : Txt w K mg) : qR P w K mg base 2 "is_bit" ["value"] (spF K rL) :=
 iH (k := 1) T.f_is_bit T.G_is_bit Mu (Runs.plain (n := 1) (np := 1)) (fun _ _ _ _ _ _ us hl => match us, hl with | [_], _ => rfl) fun _ _ _ _ _ _ hr tk nd => by
  unfold uP;exact (aI (aQ (nM (aZ (lI T) hr tk (aA (fv 0) aG)) (pe_one (HS xJ IP xJ IP fI (fv 0) fI)))))
theorem Fl (T : Txt w K mg) : qR P w K mg base 2 "is_pen" ["value"] (spF K uE) :=
 iH (k := 1) T.f_is_pen T.G_is_pen Mr (Runs.plain (n := 2) (np := 1)) (fun _ _ _ _ _ _ us hl => match us, hl with | [_], _ => rfl) fun _ _ _ _ _ _ hr tk nd => by
  unfold sL;exact (aI (aQ (nM (iP (T := "tuple") T.n_isinstance T.n_tuple (fv 0)) (nM (uJ (bG hr.units) s_eq (fD T.n_len (fv 0)) fI) (pe_one (QX T.n_all (wO (own := [("number", 1)]) (t := (.nm 1)) rfl nd (hZ (fv 0)) (blkOk_by (own := [("number", 1)]) (N := ["value", "number"]) (sc := defScope AO) (by decide +kernel)) (fun _ _ _ _ _ => (pg_name (i := 1) nd rfl (.inl rfl))) (fun _ _ _ _ _ => eO) (fun _ _ _ _ _ => (aZ (lI T) hr takes0 (aA (fv 1) aG))))))))))
theorem tS (T : Txt w K mg) : qR P w K mg base 2 "is_command" ["value"] (spF K gX) :=
 iH (k := 1) T.f_is_command T.G_is_command F4 (Runs.plain (n := 5) (np := 1)) (fun _ _ _ _ _ _ us hl => match us, hl with | [_], _ => rfl) fun _ _ _ _ _ _ hr tk nd => by
  unfold kR nN;exact (aE (bH (PW.pt (nY (fM (eI (iP (T := "tuple") T.n_isinstance T.n_tuple (fv 0)))) (pw_or1 (aW (bG hr.units) s_eq (fD T.n_len (fv 0)) fI)))) (aI (aQ fB)) aR)
  (aE (bH (PW.pt (nY (fM (eI (iP (T := "str") T.n_isinstance T.n_str (bN (fv 0) fI)))) (pw_or1 (NZ T.lim T.k_LIMITS T.g_LIMITS (bN (fv 0) fI))))) (aI (aQ fB)) aR)
  (aE (tW (t := (.tp [1, 2, 3])) (f_lim T.lim T.k_LIMITS T.g_LIMITS (bN (fv 0) fI)) (pg_tup rfl (pgs_cons (pg_name (i := 1) nd rfl (.inl rfl)) (pgs_cons (pg_name (i := 2) nd rfl (.inr rfl)) (pgs_cons (pg_name (i := 3) nd rfl (.inr rfl)) pgs_nil)))))
  (aE (bH (aW (tQ hr.units) F6 (fD T.n_len (fv 0)) (cV cA dO (fv 1) fI)) (aI (aQ fB)) aR)
  (aI (aQ (QX T.n_all (wO (own := [("number", 4)]) (t := (.nm 4)) rfl nd (hZ (uI (fv 0) (eT fI) gK)) (blkOk_by (own := [("number", 4)]) (N := ["value", "many", "low", "high", "number"]) (sc := defScope qF) (by decide +kernel)) (fun _ _ _ _ _ => (pg_name (i := 4) nd rfl (.inl rfl))) (fun _ _ _ _ _ => eO) (fun _ _ _ _ _ => (nM (aZ (lI T) hr takes0 (aA (fv 4) aG)) (pe_one (HS xJ IP xJ IP (fv 2) (fv 4) (fv 3)))))))))))))
theorem xP (T : Txt w K mg) : qR P w K mg base 1 "executed" ["pen", "command"] (spF K oD) :=
 iH (k := 0) T.f_executed T.G_executed IH (Runs.plain (n := 10) (np := 2)) (fun _ _ _ _ _ _ us hl => match us, hl with | [_, _], _ => rfl) fun _ _ _ _ _ _ hr tk nd => by
  unfold vU mQ;exact (aE (tW (t := (.tp [2, 3, 4, 5, 6, 7])) (fv 0) (pg_tup rfl (pgs_cons (pg_name (i := 2) nd rfl (.inl rfl)) (pgs_cons (pg_name (i := 3) nd rfl (.inl rfl)) (pgs_cons (pg_name (i := 4) nd rfl (.inl rfl)) (pgs_cons (pg_name (i := 5) nd rfl (.inl rfl)) (pgs_cons (pg_name (i := 6) nd rfl (.inl rfl)) (pgs_cons (pg_name (i := 7) nd rfl (.inl rfl)) pgs_nil))))))))
  (aE (bJ (i := 8) nd rfl (.inl rfl) (bN (fv 1) fI))
  (aE (bH (aW (bG hr.units) s_eq (fv 8) fS) (aI (aQ (bO (aA (cV cA dO (fv 2) (cV fW mT (bN (fv 1) fI) (fv 4))) (aA (cV cA dO (fv 3) (cV fW mT (bN (fv 1) fI) (fv 5))) (aA (fv 4) (aA (fv 5) (aA (fv 6) (aA (fv 7) aG))))))))) aR)
  (aE (bH (aW (bG hr.units) s_eq (fv 8) fS) (aE (jN (t := (.nm 9)) (passes_of rfl) rfl (hR (by rfl) T.n_range (bN (fv 1) fI)) (pg_name (i := 9) nd rfl (.inl rfl)) (fQ [9] (aI (WK (i := 4) (j := 5) (by rfl) nd rfl rfl (by decide) rfl rfl (sA (fv 5)) (fv 4) (by rfl)))))
  (aI (aQ (bO (aA (fv 2) (aA (fv 3) (aA (fv 4) (aA (fv 5) (aA (fv 6) (aA (fv 7) aG)))))))))) aR)
  (aE (bH (aW (bG hr.units) s_eq (fv 8) fS) (aI (aQ (bO (aA (fv 2) (aA (fv 3) (aA (fv 4) (aA (sA (fv 5)) (aA (fv 6) (aA (fv 7) aG))))))))) aR)
  (aE (bH (aW (bG hr.units) s_eq (fv 8) fS) (aI (aQ (bO (aA (fv 2) (aA (fv 3) (aA (cV fW mT (bN (fv 1) fI) (fv 4)) (aA (cV fW mT (bN (fv 1) fI) (fv 5)) (aA (fv 6) (aA (fv 7) aG))))))))) aR)
  (aE (bH (aW (bG hr.units) s_eq (fv 8) fS) (aI (aQ (bO (aA (fv 2) (aA (fv 3) (aA (bN (fv 1) fI) (aA (bN (fv 1) fI) (aA (fv 6) (aA (fv 7) aG))))))))) aR)
  (aE (bH (aW (bG hr.units) s_eq (fv 8) fS) (aI (aQ (bO (aA (bN (fv 1) fI) (aA (bN (fv 1) fI) (aA (fv 4) (aA (fv 5) (aA (fv 6) (aA (fv 7) aG))))))))) aR)
  (aE (bH (aW (bG hr.units) s_eq (fv 8) fS) (aI (aQ (bO (aA (fv 2) (aA (fv 3) (aA (fv 4) (aA (fv 5) (aA (fv 2) (aA (fv 3) aG))))))))) aR)
  (aE (bH (aW (bG hr.units) s_eq (fv 8) fS) (aI (aQ (bO (aA (fv 6) (aA (fv 7) (aA (fv 4) (aA (fv 5) (aA (fv 6) (aA (fv 7) aG))))))))) aR)
  (aI (aQ (bO (aA (fv 6) (aA (fv 7) (aA (fv 4) (aA (fv 5) (aA (fv 2) (aA (fv 3) aG)))))))))))))))))))
theorem AZ (T : Txt w K mg) : qR P w K mg base 1 "blocks_of" ["statement"] (spF K mJ) :=
 iH (k := 0) T.f_blocks_of T.G_blocks_of Gh (Runs.plain (n := 2) (np := 1)) (fun _ _ _ _ _ _ us hl => match us, hl with | [_], _ => rfl) fun _ _ _ _ _ _ hr tk nd => by
  unfold tF;exact (aE (bJ (i := 1) nd rfl (.inl rfl) (bN (fv 0) fI))
  (aE (bH (PW.pt (nY (aW (bG hr.units) s_eq (fv 1) fS) (pw_or1 (aW (bG hr.units) s_eq (fv 1) fS)))) (aI (aQ (dF (aA (bN (fv 0) fI) aG)))) aR)
  (aE (bH (aW (bG hr.units) s_eq (fv 1) fS) (aI (aQ (dF (aA (bN (fv 0) fI) (aA (bN (fv 0) fI) aG))))) aR)
  (aE (bH (aW (bG hr.units) s_eq (fv 1) fS) (aI (aQ (bN (fv 0) fI))) aR)
  (aI (aQ (dF aG)))))))
theorem Dr (T : Txt w K mg) : qR P w K mg base 1 "with_blocks" ["statement", "blocks"] (spF K oM) :=
 iH (k := 0) T.f_with_blocks T.G_with_blocks DW (Runs.plain (n := 3) (np := 2)) (fun _ _ _ _ _ _ us hl => match us, hl with | [_, _], _ => rfl) fun _ _ _ _ _ _ hr tk nd => by
  unfold oS;exact (aE (bJ (i := 2) nd rfl (.inl rfl) (bN (fv 0) fI))
  (aE (bH (PW.pt (nY (aW (bG hr.units) s_eq (fv 2) fS) (pw_or1 (aW (bG hr.units) s_eq (fv 2) fS)))) (aI (aQ (bO (aA (fv 2) (aA (bN (fv 1) fI) aG))))) aR)
  (aE (bH (aW (bG hr.units) s_eq (fv 2) fS) (aI (aQ (bO (aA (fv 2) (aA (bN (fv 1) fI) (aA (bN (fv 1) fI) aG)))))) aR)
  (aE (bH (aW (bG hr.units) s_eq (fv 2) fS) (aI (aQ (bO (aA (fv 2) (aA (bN (fv 0) fI) (aA (bN (fv 0) fI) (aA (fv 1) aG))))))) aR)
  (aI (aQ (fv 0)))))))
theorem pF (T : Txt w K mg) : ∀ n, (qR P w K mg base (1 + n + 1) "copied_statement" ["statement"] (spF K (iT n))) /\ (qR P w K mg base (1 + n + 1) "copied_block" ["block"] (spF K (fC n)))
 | 0 => ⟨vF T.f_copied_statement T.G_copied_statement qB (fun _ _ _ _ _ _ us hl => match us, hl with | [_], _ => rfl), vF T.f_copied_block T.G_copied_block wB (fun _ _ _ _ _ _ us hl => match us, hl with | [_], _ => rfl)⟩
 | n + 1 => by
  have ih := pF T n;have ih_copied_statement := ih.1;have ih_copied_block := ih.2;refine ⟨?_, ?_⟩
  ·exact iH (k := 1 + n + 1) T.f_copied_statement T.G_copied_statement qB (Runs.plain (n := 2) (np := 1)) (fun _ _ _ _ _ _ us hl => match us, hl with | [_], _ => rfl) fun _ _ _ _ _ _ hr tk nd => by
    unfold jB;exact (aI (aQ (aZ (Dr T) hr tk (aA (fv 0) (aA (wO (own := [("block", 1)]) (t := (.nm 1)) rfl nd (hZ (aZ (AZ T) hr tk (aA (fv 0) aG) (by omega))) (blkOk_by (own := [("block", 1)]) (N := ["statement", "block"]) (sc := defScope iR) (by decide +kernel)) (fun _ _ _ _ _ => (pg_name (i := 1) nd rfl (.inl rfl))) (fun _ _ _ _ _ => eO) (fun _ _ _ _ _ => (aZ ih_copied_block hr takes0 (aA (fv 1) aG) (by omega)))) aG)) (by omega))))
  ·exact iH (k := 1 + n + 1) T.f_copied_block T.G_copied_block wB (Runs.plain (n := 2) (np := 1)) (fun _ _ _ _ _ _ us hl => match us, hl with | [_], _ => rfl) fun _ _ _ _ _ _ hr tk nd => by
    unfold nO;exact (aI (aQ (wO (own := [("statement", 1)]) (t := (.nm 1)) rfl nd (hZ (fv 0)) (blkOk_by (own := [("statement", 1)]) (N := ["block", "statement"]) (sc := defScope mU) (by decide +kernel)) (fun _ _ _ _ _ => (pg_name (i := 1) nd rfl (.inl rfl))) (fun _ _ _ _ _ => eO) (fun _ _ _ _ _ => (aZ ih_copied_statement hr takes0 (aA (fv 1) aG) (by omega))))))
theorem wF (T : Txt w K mg) (n : Nat) : qR P w K mg base (1 + n + 1) "copied_block" ["block"] (spF K (fC n)) := (pF T n).2
theorem Ds (T : Txt w K mg) : qR P w K mg base 3 "well_formed" ["value", "level", "many"] (spF K lJ) :=
 iH (k := 2) T.f_well_formed T.G_well_formed DX (Runs.plain (n := 4) (np := 3)) (fun _ _ _ _ _ _ us hl => match us, hl with | [_, _, _], _ => rfl) fun _ _ _ _ _ _ hr tk nd => by
  unfold oU;exact (aE (bH (eI (aZ (tS T) hr tk (aA (fv 0) aG))) (aI (aQ fB)) aR)
  (aE (bH (PW.pt (nY (fM (eI (iP (T := "tuple") T.n_isinstance T.n_tuple (fv 0)))) (nY (aW tR F7 (fD T.n_len (fv 0)) fI) (pw_or1 (fM (eI (iP (T := "str") T.n_isinstance T.n_str (bN (fv 0) fI)))))))) (aI (aQ fB)) aR)
  (aE (bJ (i := 3) nd rfl (.inl rfl) (bN (fv 0) fI))
  (aE (bH (aW (bG hr.units) s_eq (fv 3) fS) (aI (aQ (nM (uJ (bG hr.units) s_eq (fD T.n_len (fv 0)) fI) (pe_one (aZ (Fm T) hr tk (aA (bN (fv 0) fI) aG)))))) aR)
  (aE (bH (aW (bG hr.units) s_eq (fv 1) (HR T.i_DEEPEST)) (aI (aQ fB)) aR)
  (aE (bH (PW.pt (nY (aW (bG hr.units) s_eq (fv 3) fS) (pw_or1 (aW (bG hr.units) s_eq (fv 3) fS)))) (aI (aQ (nM (uJ (bG hr.units) s_eq (fD T.n_len (fv 0)) fI) (pe_one (iP (T := "list") T.n_isinstance T.n_list (bN (fv 0) fI)))))) aR)
  (aE (bH (aW (bG hr.units) s_eq (fv 3) fS) (aI (aQ (nM (uJ (bG hr.units) s_eq (fD T.n_len (fv 0)) fI) (nM (iP (T := "list") T.n_isinstance T.n_list (bN (fv 0) fI)) (pe_one (iP (T := "list") T.n_isinstance T.n_list (bN (fv 0) fI))))))) aR)
  (aE (bH (PW.pt (nY (aW (tQ hr.units) F6 (fv 3) fS) (pw_or1 (aW (tQ hr.units) F6 (fD T.n_len (fv 0)) fI)))) (aI (aQ fB)) aR)
  (aE (bH (PW.pt (nY (fM (eI (aZ (lI T) hr tk (aA (bN (fv 0) fI) aG)))) (pw_or1 (fM (JJ xJ IP tR F7 fI (bN (fv 0) fI) (fv 2)))))) (aI (aQ fB)) aR)
  (aE (bH (PW.pt (nY (fM (eI (iP (T := "bool") T.n_isinstance T.n_bool (bN (fv 0) fI)))) (nY (fM (eI (iP (T := "list") T.n_isinstance T.n_list (bN (fv 0) fI)))) (pw_or1 (aW (tQ hr.units) F6 (fD T.n_len (bN (fv 0) fI)) fI))))) (aI (aQ fB)) aR)
  (aI (aQ (nM (iP (T := "list") T.n_isinstance T.n_list (bN (bN (fv 0) fI) fI)) (pe_one (iP (T := "list") T.n_isinstance T.n_list (bN (bN (fv 0) fI) fI))))))))))))))))
theorem xO (T : Txt w K mg) : ∀ n, qR P w K mg base (3 + n + 1) "first_fault" ["block", "level", "many", "path", "met"] (spF K (dQ n))
 | 0 => vF T.f_first_fault T.G_first_fault xC (fun _ _ _ _ _ _ us hl => match us, hl with | [_, _, _, _, _], _ => rfl)
 | n + 1 => by
  have ih_first_fault := xO T n;exact iH (k := 3 + n + 1) T.f_first_fault T.G_first_fault xC (Runs.plain (n := 11) (np := 5)) (fun _ _ _ _ _ _ us hl => match us, hl with | [_, _, _, _, _], _ => rfl) fun _ _ _ _ _ _ hr tk nd => by
   unfold oX lN gQ;exact (aE (jN (t := (.tp [5, 6])) (passes_of rfl) rfl (D9 (by rfl) T.n_enumerate (fv 0)) (pg_tup rfl (pgs_cons (pg_name (i := 5) nd rfl (.inl rfl)) (pgs_cons (pg_name (i := 6) nd rfl (.inl rfl)) pgs_nil))) (fQ [5, 6, 7, 8, 9, 10] (aE (bJ (i := 7) nd rfl (.inl rfl) (cV cA dO (fv 3) (bO (aA (fv 5) aG))))
  (aE (bH (PW.pt (nY (aW (bG hr.units) s_eq (fv 5) (HR T.i_MOST_IN_LIST)) (nY (aW (bG hr.units) s_eq (fv 4) (HR T.i_MOST_IN_PROCEDURE)) (pw_or1 (fM (eI (aZ (Ds T) hr tk (aA (fv 6) (aA (fv 1) (aA (fv 2) aG))) (by omega)))))))) (aI (aQ (bO (aA (fv 7) (aA (fv 4) aG))))) aR)
  (aE (G6 (k := 4) nd rfl (.inl rfl) fI)
  (aI (jN (t := (.tp [8, 9])) (passes_of rfl) rfl (D9 (by rfl) T.n_enumerate (aZ (AZ T) hr tk (aA (fv 6) aG) (by omega))) (pg_tup rfl (pgs_cons (pg_name (i := 8) nd rfl (.inl rfl)) (pgs_cons (pg_name (i := 9) nd rfl (.inl rfl)) pgs_nil))) (fQ [8, 9, 10] (aE (tW (t := (.tp [10, 4])) (aZ ih_first_fault hr tk (aA (fv 9) (aA (cV cA dO (fv 1) fI) (aA (fv 2) (aA (cV cA dO (fv 7) (bO (aA (fv 8) aG))) (aA (fv 4) aG))))) (by omega)) (pg_tup rfl (pgs_cons (pg_name (i := 10) nd rfl (.inl rfl)) (pgs_cons (pg_name (i := 4) nd rfl (.inl rfl)) pgs_nil))))
  (aI (bH (aW Ia Oc (fv 10) fN) (aI (aQ (bO (aA (fv 10) (aA (fv 4) aG))))) aR)))))))))))
  (aI (aQ (bO (aA fN (aA (fv 4) aG))))))
theorem H7 (T : Txt w K mg) : OkMX P w K mg base 23 "Book" "__init__" ["self", "bodies"] (spF K mK) :=
 zI (k := 22) T.f_Book_init T.M_Book_init Gk (Runs.plain (n := 6) (np := 2)) (fun _ _ _ _ _ _ us hl => match us, hl with | [_, _], _ => rfl) fun _ _ _ _ _ _ hr tk nd => by
  unfold tI eJ;exact (aE (bH (PW.pt (nY (fM (eI (iP (T := "list") T.n_isinstance T.n_list (fv 1)))) (pw_or1 (fM (JJ xJ IP xJ IP fI (fD T.n_len (fv 1)) (HR T.i_MOST_PROCEDURES)))))) (aI (C9 (xa_NoBook T) hr tk (aA (sA fI) (aA (bO aG) aG)))) aR)
  (aE (jN (t := (.tp [2, 3])) (passes_of rfl) rfl (D9 (by rfl) T.n_enumerate (fv 1)) (pg_tup rfl (pgs_cons (pg_name (i := 2) nd rfl (.inl rfl)) (pgs_cons (pg_name (i := 3) nd rfl (.inl rfl)) pgs_nil))) (fQ [2, 3, 4, 5] (aE (bH (fM (eI (iP (T := "list") T.n_isinstance T.n_list (fv 3)))) (aI (C9 (xa_NoBook T) hr tk (aA (fv 2) (aA (bO aG) aG)))) aR)
  (aE (tW (t := (.tp [4, 5])) (aZ (xO T 10) hr tk (aA (fv 3) (aA fI (aA (fD T.n_len (fv 1)) (aA (bO aG) (aA fI aG)))))) (pg_tup rfl (pgs_cons (pg_name (i := 4) nd rfl (.inl rfl)) (pgs_cons (pg_name (i := 5) nd rfl (.inl rfl)) pgs_nil))))
  (aI (bH (aW Ia Oc (fv 4) fN) (aI (C9 (xa_NoBook T) hr tk (aA (fv 2) (aA (fv 4) aG)))) aR))))))
  (aI (qM T.c_Book T.a_Book_own (fv 0) (wO (own := [("body", 3)]) (t := (.nm 3)) rfl nd (hZ (fv 1)) (blkOk_by (own := [("body", 3)]) (N := ["self", "bodies", "procedure", "body", "fault", "met"]) (sc := defScope mG) (by decide +kernel)) (fun _ _ _ _ _ => (pg_name (i := 3) nd rfl (.inl rfl))) (fun _ _ _ _ _ => eO) (fun _ _ _ _ _ => (aZ (wF T 20) hr takes0 (aA (fv 3) aG))))))))
theorem Ii (T : Txt w K mg) : OkMX P w K mg base 1 "Book" "__len__" ["self"] (spF K rN) :=
 zI (k := 0) T.f_Book_len T.M_Book_len IM (Runs.plain (n := 1) (np := 1)) (fun _ _ _ _ _ _ us hl => match us, hl with | [_], _ => rfl) fun _ _ _ _ _ _ hr tk nd => by
  unfold vZ;exact (aI (aQ (fD T.n_len (eV T.c_Book T.a_Book_own (fv 0)))))
theorem Dy (T : Txt w K mg) : OkMX P w K mg base 23 "Book" "bodies" ["self"] (spF K oP) :=
 zI (k := 22) T.f_Book_bodies T.M_Book_bodies Dd (Runs.plain (n := 2) (np := 1)) (fun _ _ _ _ _ _ us hl => match us, hl with | [_], _ => rfl) fun _ _ _ _ _ _ hr tk nd => by
  unfold oZ;exact (aI (aQ (wO (own := [("body", 1)]) (t := (.nm 1)) rfl nd (hZ (eV T.c_Book T.a_Book_own (fv 0))) (blkOk_by (own := [("body", 1)]) (N := ["self", "body"]) (sc := defScope jM) (by decide +kernel)) (fun _ _ _ _ _ => (pg_name (i := 1) nd rfl (.inl rfl))) (fun _ _ _ _ _ => eO) (fun _ _ _ _ _ => (aZ (wF T 20) hr takes0 (aA (fv 1) aG))))))
theorem Br (T : Txt w K mg) : qR P w K mg base 3 "has_procedure" ["book", "procedure"] (spF K gS) :=
 iH (k := 2) T.f_has_procedure T.G_has_procedure Bj (Runs.plain (n := 2) (np := 2)) (fun _ _ _ _ _ _ us hl => match us, hl with | [_, _], _ => rfl) fun _ _ _ _ _ _ hr tk nd => by
  unfold gT;exact (aI (aQ (nM (aZ (lI T) hr tk (aA (fv 1) aG)) (pe_one (HS xJ IP tR F7 fI (fv 1) (WR T.n_len (Ii T) hr (fv 0)))))))
theorem xN (T : Txt w K mg) : qR P w K mg base 1 "identity" [] (spF K oC) :=
 iH (k := 0) T.f_identity T.G_identity IG (Runs.plain (n := 1) (np := 0)) (fun _ _ _ _ _ _ us hl => match us, hl with | [], _ => rfl) fun _ _ _ _ _ _ hr tk nd => by
  unfold vT vQ;exact (aI (aQ (wO (own := [("at", 0)]) (t := (.nm 0)) rfl nd (hR (by rfl) T.n_range fI) (blkOk_by (own := [("at", 0)]) (N := ["at"]) (sc := defScope uY) (by decide +kernel)) (fun _ _ _ _ _ => (pg_name (i := 0) nd rfl (.inl rfl))) (fun _ _ _ _ _ => eO) (fun _ _ _ _ _ => (sC T.n_int (uJ (bG hr.units) s_eq (cV qH AN (fv 0) fI) fI))))))
theorem Gx (T : Txt w K mg) : qR P w K mg base 3 "matrix_of" ["command"] (spF K pH) :=
 iH (k := 2) T.f_matrix_of T.G_matrix_of Gg (Runs.cut (n := 9) (np := 1)) (fun _ _ _ _ _ _ us hl => match us, hl with | [_], _ => rfl) fun _ _ _ _ _ _ hr tk nd => by
  unfold tE lH oR;exact (aE (bH (fM (eI (aZ (tS T) hr tk (aA (fv 0) aG)))) (aI (Ax T.x_NoCommand tk)) aR)
  (aE (bJ (i := 1) nd rfl (.inr rfl) (aZ (xP T) hr tk (aA (bO (aA fI (aA fI (aA fI (aA fI (aA fI (aA fI aG))))))) (aA (fv 0) aG))))
  (aE (bJ (i := 2) nd rfl (.inr rfl) (dF (aA (dF (aA fI (TL (fv 1) aG))) aG)))
  (aE (jN (t := (.nm 3)) (passes_of rfl) rfl (hR (by rfl) T.n_range fI) (pg_name (i := 3) nd rfl (.inr rfl)) (fQ [3, 4, 5] (aE (bJ (i := 4) nd rfl (.inl rfl) (HQ T.n_tuple (wO (own := [("k", 6)]) (t := (.nm 6)) rfl nd (hR (by rfl) T.n_range fI) (blkOk_by (own := [("k", 6)]) (N := ["command", "origin", "columns", "at", "unit", "image", "k", "i", "j"]) (sc := defScope mF) (by decide +kernel)) (fun _ _ _ _ _ => (pg_name (i := 6) nd rfl (.inl rfl))) (fun _ _ _ _ _ => eO) (fun _ _ _ _ _ => (sC T.n_int (uJ (bG hr.units) s_eq (fv 6) (fv 3)))))))
  (aE (bJ (i := 5) nd rfl (.inr rfl) (aZ (xP T) hr tk (aA (fv 4) (aA (fv 0) aG))))
  (aI (cP (gF (fv 2) (cV cA dO (dF (aA fI aG)) (wO (own := [("k", 6)]) (t := (.nm 6)) rfl nd (hR (by rfl) T.n_range fI) (blkOk_by (own := [("k", 6)]) (N := ["command", "origin", "columns", "at", "unit", "image", "k", "i", "j"]) (sc := defScope mF) (by decide +kernel)) (fun _ _ _ _ _ => (pg_name (i := 6) nd rfl (.inl rfl))) (fun _ _ _ _ _ => eO) (fun _ _ _ _ _ => (cV iS rB (bN (fv 5) (fv 6)) (bN (fv 1) (fv 6)))))))))))))
  (aI (aQ (f_lc2 (own := [("i", 7), ("j", 8)]) (vs1 := [8]) (t := (.nm 7)) (t1 := (.nm 8)) rfl nd (hR (by rfl) T.n_range fI) (blkOk_by (own := [("i", 7), ("j", 8)]) (N := ["command", "origin", "columns", "at", "unit", "image", "k", "i", "j"]) (sc := defScope mF) (by decide +kernel)) (by decide) (fun _ _ _ _ _ => (pg_name (i := 7) nd rfl (.inl rfl))) (fun _ _ _ _ _ => eO) (fun _ _ _ _ _ => (hR (by rfl) T.n_range fI)) (fun _ _ _ _ _ => (pg_name (i := 8) nd rfl (.inl rfl))) (fun _ _ _ _ _ => eO) (fun _ _ _ _ _ => (bN (bN (fv 2) (fv 8)) (fv 7))))))))))
theorem CO (T : Txt w K mg) : qR P w K mg base 1 "composed" ["one", "other"] (spF K rM) :=
 iH (k := 0) T.f_composed T.G_composed II (Runs.plain (n := 9) (np := 2)) (fun _ _ _ _ _ _ us hl => match us, hl with | [_, _], _ => rfl) fun _ _ _ _ _ _ hr tk nd => by
  unfold vV mR kI;exact (aE (bJ (i := 2) nd rfl (.inl rfl) (dF aG))
  (aE (jN (t := (.nm 3)) (passes_of rfl) rfl (hR (by rfl) T.n_range fI) (pg_name (i := 3) nd rfl (.inl rfl)) (fQ [3, 4, 5, 6] (aE (bJ (i := 4) nd rfl (.inl rfl) (dF (aA fI (aA fI (aA fI (aA fI (aA fI (aA fI (aA fI aG)))))))))
  (aE (jN (t := (.nm 5)) (passes_of rfl) rfl (hR (by rfl) T.n_range fI) (pg_name (i := 5) nd rfl (.inl rfl)) (fQ [5, 6] (aE (bJ (i := 6) nd rfl (.inr rfl) (bN (fv 1) (cV cA dO (cV fW mT fI (fv 3)) (fv 5))))
  (aI (bH (aW (tQ hr.units) F6 (fv 6) fI) (aI (Av (i := 4) (own := [("a", 7), ("b", 8)]) (t := (.tp [7, 8])) rfl nd rfl rfl (sw_true rfl rfl rfl (by decide +kernel)) (WM (by rfl) T.n_zip (fv 4) (uI (fv 0) (eT (cV fW mT fI (fv 5))) (eT (cV cA dO (cV fW mT fI (fv 5)) fI)))) (blkOk_by (own := [("a", 7), ("b", 8)]) (N := ["one", "other", "result", "i", "row", "k", "factor", "a", "b"]) (sc := defScope uZ) (by decide +kernel)) (fun _ _ _ _ _ => (pg_tup rfl (pgs_cons (pg_name (i := 7) nd rfl (.inl rfl)) (pgs_cons (pg_name (i := 8) nd rfl (.inl rfl)) pgs_nil)))) (fun _ _ _ _ _ => eO) (fun _ _ _ _ _ => (cV cA dO (fv 7) (cV fW mT (fv 6) (fv 8)))))) aR)))))
  (aI (bJ (i := 2) nd rfl (.inl rfl) (cV cA dO (fv 2) (fv 4))))))))
  (aI (aQ (fv 2)))))
theorem Du (T : Txt w K mg) : qR P w K mg base 2 "kept_matrix" ["matrix"] (spF K oN) :=
 iH (k := 1) T.f_kept_matrix T.G_kept_matrix DZ (Runs.plain (n := 4) (np := 1)) (fun _ _ _ _ _ _ us hl => match us, hl with | [_], _ => rfl) fun _ _ _ _ _ _ hr tk nd => by
  unfold oW;exact (aE (bJ (i := 1) nd rfl (.inr rfl) (bN (fv 0) fI))
  (aE (Av (i := 2) (own := [("number", 3)]) (t := (.nm 3)) rfl nd rfl rfl (sw_true rfl rfl rfl (by decide +kernel)) (hZ (uI (HU (xN T) hr tk) (eT fI) (eT fI))) (blkOk_by (own := [("number", 3)]) (N := ["matrix", "first", "middle", "number"]) (sc := defScope oJ) (by decide +kernel)) (fun _ _ _ _ _ => (pg_name (i := 3) nd rfl (.inl rfl))) (fun _ _ _ _ _ => eO) (fun _ _ _ _ _ => (cV fW mT (fv 1) (fv 3))))
  (aI (aQ (cV cA dO (cV cA dO (uI (fv 0) gK (eT fI)) (fv 2)) (uI (fv 0) (eT fI) gK))))))
theorem Ab (T : Txt w K mg) : OkMX P w K mg base 1 "Execution" "__init__" ["self", "bodies", "bits"] (spF K iI) :=
 zI (k := 0) T.f_Execution_init T.M_Execution_init AM (Runs.plain (n := 4) (np := 3)) (fun _ _ _ _ _ _ us hl => match us, hl with | [_, _, _], _ => rfl) fun _ _ _ _ _ _ hr tk nd => by
  unfold kT;exact (aE (qM T.c_Execution T.a_Execution_own (fv 0) (fv 1))
  (aE (qM T.c_Execution T.a_Execution_bits (fv 0) (fv 2))
  (aE (qM T.c_Execution T.a_Execution_taken (fv 0) fI)
  (aE (qM T.c_Execution T.a_Execution_deeds (fv 0) (dF aG))
  (aE (qM T.c_Execution T.a_Execution_stack (fv 0) (dF aG))
  (aE (qM T.c_Execution T.a_Execution_active (fv 0) (f_lcC (own := [("body", 3)]) (t := (.nm 3)) rfl nd (hZ (fv 1)) (blkOk_by (own := [("body", 3)]) (N := ["self", "bodies", "bits", "body"]) (sc := defScope gB) (by decide +kernel)) (fun _ _ _ _ _ => (pg_name (i := 3) nd rfl (.inl rfl)))))
  (aI (qM T.c_Execution T.a_Execution_ended (fv 0) fI))))))))
theorem sS (T : Txt w K mg) : OkMX P w K mg base 3 "Execution" "take" ["self"] (spF K eG) :=
 zI (k := 2) T.f_Execution_take T.M_Execution_take AK (Runs.plain (n := 1) (np := 1)) (fun _ _ _ _ _ _ us hl => match us, hl with | [_], _ => rfl) fun _ _ _ _ _ _ hr tk nd => by
  unfold iL;exact (aE (bH (aW (bG hr.units) s_eq (eV T.c_Execution T.a_Execution_taken (fv 0)) (fD T.n_len (eV T.c_Execution T.a_Execution_bits (fv 0)))) (aI (uH (xa_NoRun T) hr tk (aA (eV T.c_Execution T.a_Execution_taken (fv 0)) aG))) aR)
  (aE (Kt T.c_Execution T.a_Execution_taken (fv 0) fI)
  (aI (aQ (bN (eV T.c_Execution T.a_Execution_bits (fv 0)) (cV iS rB (eV T.c_Execution T.a_Execution_taken (fv 0)) fI))))))
theorem rK (T : Txt w K mg) : OkMX P w K mg base 3 "Execution" "enter" ["self", "procedure", "statement"] (spF K eM) :=
 zI (k := 2) T.f_Execution_enter T.M_Execution_enter zV (Runs.plain (n := 4) (np := 3)) (fun _ _ _ _ _ _ us hl => match us, hl with | [_, _, _], _ => rfl) fun _ _ _ _ _ _ hr tk nd => by
  unfold hX;exact (aE (bJ (i := 3) nd rfl (.inl rfl) (bN (eV T.c_Execution T.a_Execution_active (fv 0)) (fv 1)))
  (aE (bH (PW.pt (ER (aW xK IQ (fD T.n_len (fv 3)) fI) (pw_and1 (aW (bG hr.units) s_eq (bN (fv 3) (sA fI)) (eV T.c_Execution T.a_Execution_taken (fv 0)))))) (aI (uH (xa_NoRun T) hr tk (aA (sA fI) aG))) aR)
  (aE (cP (gF (bN (eV T.c_Execution T.a_Execution_active (fv 0)) (fv 1)) (eV T.c_Execution T.a_Execution_taken (fv 0))))
  (aE (cP (gF (eV T.c_Execution T.a_Execution_stack (fv 0)) (bO (aA fS (aA (fv 1) (aA (fv 2) aG))))))
  (aI (cP (gF (eV T.c_Execution T.a_Execution_stack (fv 0)) (bO (aA fS (aA (bN (eV T.c_Execution T.a_Execution_own (fv 0)) (fv 1)) (aA fI aG)))))))))))
theorem rH (T : Txt w K mg) : OkMX P w K mg base 1 "Execution" "leave" ["self", "procedure", "statement", "way"] (spF K gY) :=
 zI (k := 0) T.f_Execution_leave T.M_Execution_leave zU (Runs.plain (n := 4) (np := 4)) (fun _ _ _ _ _ _ us hl => match us, hl with | [_, _, _, _], _ => rfl) fun _ _ _ _ _ _ hr tk nd => by
  unfold jX;exact (aE (cP (Az (bN (eV T.c_Execution T.a_Execution_active (fv 0)) (fv 1))))
  (aE (bH (aW Gw Oe (fv 2) fN) (aE (qM T.c_Execution T.a_Execution_ended (fv 0) (fv 3))
  (aI TF)) aR)
  (aE (bH (eI (bN (fv 2) fI)) (aI (cP (gF (eV T.c_Execution T.a_Execution_deeds (fv 0)) (bO (aA fS aG))))) aR)
  (aI (cP (gF (eV T.c_Execution T.a_Execution_stack (fv 0)) (bO (aA fS (aA (bN (bN (fv 2) fI) (fv 3)) (aA fI aG))))))))))
theorem zF (T : Txt w K mg) : OkMX P w K mg base 2 "Execution" "unwind" ["self", "way"] (spF K iV) :=
 zI (k := 1) T.f_Execution_unwind T.M_Execution_unwind zE (Runs.plain (n := 3) (np := 2)) (fun _ _ _ _ _ _ us hl => match us, hl with | [_, _], _ => rfl) fun _ _ _ _ _ _ hr tk nd => by
  unfold jC eF;exact (aE (bJ (i := 2) nd rfl (.inl rfl) (Az (eV T.c_Execution T.a_Execution_stack (fv 0))))
  (aE (JK (k := 1000000) (passes_of rfl) (aW (tQ hr.units) F6 (bN (fv 2) fI) fS) (aE (bH (aW (bG hr.units) s_eq (bN (fv 2) fI) fS) (aI (cP (gF (eV T.c_Execution T.a_Execution_deeds (fv 0)) (fv 2)))) aR)
  (aI (bJ (i := 2) nd rfl (.inl rfl) (Az (eV T.c_Execution T.a_Execution_stack (fv 0)))))))
  (aI (cP (CB (rH T) hr tk T.c_Execution (fv 0) (aA (bN (fv 2) fI) (aA (bN (fv 2) fI) (aA (fv 1) aG))))))))
theorem A0 (T : Txt w K mg) : OkMX P w K mg base 4 "Execution" "begin" ["self", "statement"] (spF K jT) :=
 zI (k := 3) T.f_Execution_begin T.M_Execution_begin zW (Runs.plain (n := 3) (np := 2)) (fun _ _ _ _ _ _ us hl => match us, hl with | [_, _], _ => rfl) fun _ _ _ _ _ _ hr tk nd => by
  unfold jY;exact (aE (bJ (i := 2) nd rfl (.inl rfl) (bN (fv 1) fI))
  (aI (bH (eI (aZ (tS T) hr tk (aA (fv 1) aG))) (aI (cP (gF (eV T.c_Execution T.a_Execution_deeds (fv 0)) (fv 1)))) (aI (bH (aW (bG hr.units) s_eq (fv 2) fS) (aE (cP (gF (eV T.c_Execution T.a_Execution_deeds (fv 0)) (bO (aA fS aG))))
  (aE (cP (gF (eV T.c_Execution T.a_Execution_stack (fv 0)) (bO (aA fS aG))))
  (aI (cP (gF (eV T.c_Execution T.a_Execution_stack (fv 0)) (bO (aA fS (aA (bN (fv 1) fI) (aA fI aG))))))))) (aI (bH (aW (bG hr.units) s_eq (fv 2) fS) (aI (cP (gF (eV T.c_Execution T.a_Execution_stack (fv 0)) (bO (aA fS (aA (bN (fv 1) (cV cA dO fI (DA (sS T) hr tk T.c_Execution (fv 0)))) (aA fI aG))))))) (aI (bH (aW (bG hr.units) s_eq (fv 2) fS) (aI (cP (gF (eV T.c_Execution T.a_Execution_stack (fv 0)) (bO (aA fS (aA (bN (fv 1) fI) aG)))))) (aI (bH (aW (bG hr.units) s_eq (fv 2) fS) (aE (bH (eI (bN (fv 1) fI)) (aI (cP (gF (eV T.c_Execution T.a_Execution_deeds (fv 0)) (bO (aA fS aG))))) aR)
  (aI (cP (CB (rK T) hr tk T.c_Execution (fv 0) (aA (bN (fv 1) fI) (aA (fv 1) aG)))))) (aI (cP (CB (zF T) hr tk T.c_Execution (fv 0) (aA (bN (fv 1) fI) aG)))))))))))))))
theorem Aa (T : Txt w K mg) : OkMX P w K mg base 5 "Execution" "step" ["self"] (spF K kK) :=
 zI (k := 4) T.f_Execution_step T.M_Execution_step AL (Runs.plain (n := 2) (np := 1)) (fun _ _ _ _ _ _ us hl => match us, hl with | [_], _ => rfl) fun _ _ _ _ _ _ hr tk nd => by
  unfold kS;exact (aE (bJ (i := 1) nd rfl (.inl rfl) (Az (eV T.c_Execution T.a_Execution_stack (fv 0))))
  (aI (bH (aW (bG hr.units) s_eq (bN (fv 1) fI) fS) (aI (bH (aW tR F7 (bN (fv 1) fI) (fD T.n_len (bN (fv 1) fI))) (aE (cP (gF (eV T.c_Execution T.a_Execution_stack (fv 0)) (bO (aA fS (aA (bN (fv 1) fI) (aA (cV cA dO (bN (fv 1) fI) fI) aG))))))
  (aI (cP (CB (A0 T) hr tk T.c_Execution (fv 0) (aA (bN (bN (fv 1) fI) (bN (fv 1) fI)) aG))))) aR)) (aI (bH (aW (bG hr.units) s_eq (bN (fv 1) fI) fS) (aI (cP (gF (eV T.c_Execution T.a_Execution_deeds (fv 0)) (fv 1)))) (aI (bH (aW (bG hr.units) s_eq (bN (fv 1) fI) fS) (aI (bH (aW (bG hr.units) s_eq (DA (sS T) hr tk T.c_Execution (fv 0)) fI) (aE (cP (gF (eV T.c_Execution T.a_Execution_stack (fv 0)) (fv 1)))
  (aI (cP (gF (eV T.c_Execution T.a_Execution_stack (fv 0)) (bO (aA fS (aA (bN (fv 1) fI) (aA fI aG)))))))) aR)) (aI (cP (CB (rH T) hr tk T.c_Execution (fv 0) (aA (bN (fv 1) fI) (aA (bN (fv 1) fI) (aA fI aG)))))))))))))
theorem pU (T : Txt w K mg) : qR P w K mg base 24 "executed_run" ["book", "procedure", "bits"] (spF K bU) :=
 iH (k := 23) T.f_executed_run T.G_executed_run Cm (Runs.cut (n := 6) (np := 3)) (fun _ _ _ _ _ _ us hl => match us, hl with | [_, _, _], _ => rfl) fun _ _ _ _ _ _ hr tk nd => by
  unfold gG eX dU;exact (aE (bH (fM (eI (aZ (Br T) hr tk (aA (fv 0) (aA (fv 1) aG))))) (aI (Ax T.x_NoProcedure tk)) aR)
  (aE (bH (fM (eI (iP (T := "list") T.n_isinstance T.n_list (fv 2)))) (aI (uH (xa_NoRun T) hr tk (aA (sA fI) aG))) aR)
  (aE (jN (t := (.tp [3, 4])) (passes_of rfl) rfl (D9 (by rfl) T.n_enumerate (fv 2)) (pg_tup rfl (pgs_cons (pg_name (i := 3) nd rfl (.inl rfl)) (pgs_cons (pg_name (i := 4) nd rfl (.inl rfl)) pgs_nil))) (fQ [3, 4] (aI (bH (fM (eI (aZ (Fm T) hr tk (aA (fv 4) aG)))) (aI (uH (xa_NoRun T) hr tk (aA (fv 3) aG))) aR))))
  (aE (bJ (i := 5) nd rfl (.inl rfl) (QV T.T_Execution (Ab T) hr tk (aA (DA (Dy T) hr tk T.c_Book (fv 0)) (aA (fv 2) aG))))
  (aE (cP (CB (rK T) hr tk T.c_Execution (fv 5) (aA (fv 1) (aA fN aG))))
  (aE (JK (k := 1000000) (passes_of rfl) (aW xK IQ (fD T.n_len (eV T.c_Execution T.a_Execution_stack (fv 5))) fI) (aI (cP (DA (Aa T) hr tk T.c_Execution (fv 5)))))
  (aE (bH (aW tR F7 (eV T.c_Execution T.a_Execution_taken (fv 5)) (fD T.n_len (fv 2))) (aI (uH (xa_NoRun T) hr tk (aA (eV T.c_Execution T.a_Execution_taken (fv 5)) aG))) aR)
  (aI (aQ (bO (aA (eV T.c_Execution T.a_Execution_ended (fv 5)) (aA (qC (eV T.c_Execution T.a_Execution_deeds (fv 5))) aG))))))))))))
theorem xM (T : Txt w K mg) : qR P w K mg base 2 "pens_behind" ["deeds", "pen"] (spF K lK) :=
 iH (k := 1) T.f_pens_behind T.G_pens_behind DY (Runs.cut (n := 5) (np := 2)) (fun _ _ _ _ _ _ us hl => match us, hl with | [_, _], _ => rfl) fun _ _ _ _ _ _ hr tk nd => by
  unfold oV fK;exact (aE (bJ (i := 2) nd rfl (.inl rfl) (dF aG))
  (aE (bJ (i := 3) nd rfl (.inl rfl) (dF aG))
  (aE (jN (t := (.nm 4)) (passes_of rfl) rfl (hZ (fv 0)) (pg_name (i := 4) nd rfl (.inl rfl)) (fQ [4] (aI (bH (aW (bG hr.units) s_eq (bN (fv 4) fI) fS) (aI (cP (gF (fv 3) (uI (fv 1) gK (eT fI))))) (aI (bH (aW (bG hr.units) s_eq (bN (fv 4) fI) fS) (aI (bJ (i := 1) nd rfl (.inl rfl) (cV cA dO (Az (fv 3)) (uI (fv 1) (eT fI) gK)))) (aE (bJ (i := 1) nd rfl (.inl rfl) (aZ (xP T) hr tk (aA (fv 1) (aA (fv 4) aG))))
  (aI (cP (gF (fv 2) (fv 1)))))))))))
  (aI (aQ (bO (aA (qC (fv 2)) (aA (fv 1) aG))))))))
theorem V7 (T : Txt w K mg) : OkK P w K mg base 25 "ran" ["book", "procedure", "bits", "pen"] 3 "pen" (.ref (He.ga K "HOME")) (spF K xQ) :=
 okK (k := 24) (N := ["book", "procedure", "bits", "pen", "way", "deeds", "pens", "last"]) T.f_ran T.G_ran sc_ran (Runs.plain (n := 8) (np := 4)) rfl (fun _ _ _ _ _ _ us ks l1 l2 => match us, ks, l1, l2 with | [_, _, _], [_], _, _ => ⟨_, _, _, _, _, _, rfl, rfl, rfl⟩) (fun _ _ _ _ _ _ us ws l1 l2 => match us, ws, l1, l2 with | [_, _, _], [_], _, _ => rfl) fun cdv A outer s H E hr => by
  have nd : (["book", "procedure", "bits", "pen", "way", "deeds", "pens", "last"] : List Str).Nodup := sc_ran.nd;have tk := takes_of (X := cxOf (L2.CX P w) P w K mg base ["book", "procedure", "bits", "pen", "way", "deeds", "pens", "last"] "ran" (defScope Fc) (He.ga K "ran") cdv A outer s H E) (E := E) rfl rfl rfl rfl;unfold Ci;exact (aE (tW (t := (.tp [4, 5])) (aZ (pU T) hr tk (aA (fv 0) (aA (fv 1) (aA (fv 2) aG)))) (pg_tup rfl (pgs_cons (pg_name (i := 4) nd rfl (.inl rfl)) (pgs_cons (pg_name (i := 5) nd rfl (.inl rfl)) pgs_nil))))
  (aE (bH (fM (eI (aZ (Fl T) hr tk (aA (fv 3) aG)))) (aI (Ax T.x_NoPen tk)) aR)
  (aE (tW (t := (.tp [6, 7])) (aZ (xM T) hr tk (aA (fv 5) (aA (fv 3) aG))) (pg_tup rfl (pgs_cons (pg_name (i := 6) nd rfl (.inl rfl)) (pgs_cons (pg_name (i := 7) nd rfl (.inl rfl)) pgs_nil))))
  (aI (aQ (bO (aA (fv 4) (aA (fv 7) (aA (fD T.n_len (fv 6)) aG)))))))))
theorem F9 (T : Txt w K mg) : qR P w K mg base 25 "run_matrix" ["book", "procedure", "bits"] (spF K mW) :=
 iH (k := 24) T.f_run_matrix T.G_run_matrix F2 (Runs.cut (n := 9) (np := 3)) (fun _ _ _ _ _ _ us hl => match us, hl with | [_, _, _], _ => rfl) fun _ _ _ _ _ _ hr tk nd => by
  unfold qO gD;exact (aE (tW (t := (.tp [3, 4])) (aZ (pU T) hr tk (aA (fv 0) (aA (fv 1) (aA (fv 2) aG)))) (pg_tup rfl (pgs_cons (pg_name (i := 3) nd rfl (.inl rfl)) (pgs_cons (pg_name (i := 4) nd rfl (.inl rfl)) pgs_nil))))
  (aE (bJ (i := 5) nd rfl (.inl rfl) (HU (xN T) hr tk))
  (aE (bJ (i := 6) nd rfl (.inl rfl) (dF aG))
  (aE (bJ (i := 7) nd rfl (.inl rfl) fI)
  (aE (jN (t := (.nm 8)) (passes_of rfl) rfl (hZ (fv 4)) (pg_name (i := 8) nd rfl (.inl rfl)) (fQ [8] (aI (bH (aW (bG hr.units) s_eq (bN (fv 8) fI) fS) (aE (cP (gF (fv 6) (fv 5)))
  (aI (bJ (i := 5) nd rfl (.inl rfl) (HU (xN T) hr tk)))) (aI (bH (aW (bG hr.units) s_eq (bN (fv 8) fI) fS) (aI (bJ (i := 5) nd rfl (.inl rfl) (aZ (CO T) hr tk (aA (Az (fv 6)) (aA (aZ (Du T) hr tk (aA (fv 5) aG)) aG))))) (aE (bJ (i := 5) nd rfl (.inl rfl) (aZ (CO T) hr tk (aA (fv 5) (aA (aZ (Gx T) hr tk (aA (fv 8) aG)) aG))))
  (aI (G6 (k := 7) nd rfl (.inl rfl) fI)))))))))
  (aI (aQ (bO (aA (fv 3) (aA (fv 5) (aA (fv 7) aG)))))))))))
theorem N8 (T : Txt w K mg) : qR P w K mg base 1 "_law_pool" ["_law_script"] (spF K Ae) :=
 iH (k := 0) T.f_L_pool T.G_L_pool Mw (Runs.plain (n := 2) (np := 1)) (fun _ _ _ _ _ _ us hl => match us, hl with | [_], _ => rfl) fun _ _ _ _ _ _ hr tk nd => by
  unfold BJ;exact (aI (aQ (cV cA dO (dF (aA fI aG)) (WN (wO (own := [("_law_cell", 1)]) (t := (.nm 1)) rfl nd (hZ (uI (fv 0) gK (eT fI))) (blkOk_by (own := [("_law_cell", 1)]) (N := ["_law_script", "_law_cell"]) (sc := defScope AR) (by decide +kernel)) (fun _ _ _ _ _ => (pg_name (i := 1) nd rfl (.inl rfl))) (fun _ _ _ _ _ => eO) (fun _ _ _ _ _ => (sC T.n_int (fv 1)))) (pe_one (dF (aA fI aG)))))))
theorem cZ (T : Txt w K mg) : qR P w K mg base 1 "_law_draw" ["_law_pool_here", "_law_many"] (spF K cS) :=
 iH (k := 0) T.f_L_draw T.G_L_draw Mz (Runs.plain (n := 5) (np := 2)) (fun _ _ _ _ _ _ us hl => match us, hl with | [_, _], _ => rfl) fun _ _ _ _ _ _ hr tk nd => by
  unfold BM;exact (aE (ET (fv 0) fI fI)
  (aE (bJ (i := 2) nd rfl (.inl rfl) (cV cA dO fI (cV qH AN (sC T.n_int (bN (fv 0) fI)) (cV iS rB (fD T.n_len (fv 0)) fI))))
  (aE (bJ (i := 3) nd rfl (.inl rfl) (sC T.n_int (bN (fv 0) (fv 2))))
  (aE (bH (aW V6 s_ge (fv 3) (cV Gu Ob fI fI)) (aE (M5 (cV AY Gm (fv 3) (fv 1)) (fv 0) (fv 2))
  (aI (aQ (cV qH AN (fv 3) (fv 1))))) aR)
  (aE (bJ (i := 4) nd rfl (.inl rfl) (cV qH AN (cV fW mT (sC T.n_int (cV cA dO (cV cA dO (fv 3) (cV fW mT fI (bN (fv 0) fI))) fI)) fI) fI))
  (aE (bJ (i := 4) nd rfl (.inl rfl) (cV qH AN (cV fW mT (fv 4) (cV cA dO (cV AY Gm (fv 4) fI) fI)) fI))
  (aE (bJ (i := 4) nd rfl (.inl rfl) (cV qH AN (cV fW mT (fv 4) (cV cA dO (cV AY Gm (fv 4) fI) fI)) fI))
  (aI (aQ (cV qH AN (cV AY Gm (fv 4) fI) (fv 1)))))))))))
theorem CP (T : Txt w K mg) : qR P w K mg base 2 "_law_number" ["_law_pool_here"] (spF K iU) :=
 iH (k := 1) T.f_L_number T.G_L_number IJ (Runs.plain (n := 4) (np := 1)) (fun _ _ _ _ _ _ us hl => match us, hl with | [_], _ => rfl) fun _ _ _ _ _ _ hr tk nd => by
  unfold vW;exact (aE (bJ (i := 1) nd rfl (.inl rfl) (aZ (cZ T) hr tk (aA (fv 0) (aA fI aG))))
  (aE (bH (aW (bG hr.units) s_eq (fv 1) fI) (aI (aQ (cV iS rB (aZ (cZ T) hr tk (aA (fv 0) (aA fI aG))) fI))) aR)
  (aE (ET (fv 0) fI fI)
  (aE (bJ (i := 2) nd rfl (.inl rfl) (cV cA dO fI (cV qH AN (sC T.n_int (bN (fv 0) fI)) (cV iS rB (fD T.n_len (fv 0)) fI))))
  (aE (bJ (i := 3) nd rfl (.inl rfl) (cV qH AN (sC T.n_int (cV cA dO (cV fW mT (bN (fv 0) (fv 2)) fI) (cV fW mT (bN (fv 0) fI) fI))) (cV Gu Ob fI fI)))
  (aE (bH (aW (bG hr.units) s_eq (aZ (cZ T) hr tk (aA (fv 0) (aA fI aG))) fI) (aI (aQ (fv 3))) aR)
  (aI (aQ (cV iS rB fI (fv 3))))))))))
theorem Ov (T : Txt w K mg) : qR P w K mg base 3 "_law_pen" ["_law_pool_here"] (spF K D0) :=
 iH (k := 2) T.f_L_pen T.G_L_pen OY (Runs.plain (n := 3) (np := 1)) (fun _ _ _ _ _ _ us hl => match us, hl with | [_], _ => rfl) fun _ _ _ _ _ _ hr tk nd => by
  unfold DD;exact (aE (Av (i := 1) (own := [("_law_k", 2)]) (t := (.nm 2)) rfl nd rfl rfl (sw_true rfl rfl rfl (by decide +kernel)) (hR (by rfl) T.n_range fI) (blkOk_by (own := [("_law_k", 2)]) (N := ["_law_pool_here", "_law_begin", "_law_k"]) (sc := defScope Cv) (by decide +kernel)) (fun _ _ _ _ _ => (pg_name (i := 2) nd rfl (.inl rfl))) (fun _ _ _ _ _ => eO) (fun _ _ _ _ _ => (aZ (CP T) hr takes0 (aA (fv 0) aG))))
  (aI (aQ (bO (aA (bN (fv 1) fI) (aA (bN (fv 1) fI) (aA (bN (fv 1) fI) (aA (bN (fv 1) fI) (aA (bN (fv 1) fI) (aA (bN (fv 1) fI) aG))))))))))
theorem NA (T : Txt w K mg) : qR P w K mg base 1 "_law_move" ["_law_begin", "_law_command"] (spF K Af) :=
 iH (k := 0) T.f_L_move T.G_L_move My (Runs.plain (n := 11) (np := 2)) (fun _ _ _ _ _ _ us hl => match us, hl with | [_, _], _ => rfl) fun _ _ _ _ _ _ hr tk nd => by
  unfold BL;exact (aE (tW (t := (.tp [2, 3, 4, 5, 6, 7])) (fv 0) (pg_tup rfl (pgs_cons (pg_name (i := 2) nd rfl (.inl rfl)) (pgs_cons (pg_name (i := 3) nd rfl (.inl rfl)) (pgs_cons (pg_name (i := 4) nd rfl (.inl rfl)) (pgs_cons (pg_name (i := 5) nd rfl (.inl rfl)) (pgs_cons (pg_name (i := 6) nd rfl (.inl rfl)) (pgs_cons (pg_name (i := 7) nd rfl (.inl rfl)) pgs_nil))))))))
  (aE (bJ (i := 8) nd rfl (.inl rfl) (bN (fv 1) fI))
  (aE (bJ (i := 9) nd rfl (.inl rfl) (bN (cV cA dO (fv 1) (bO (aA fI aG))) fI))
  (aE (bH (aW (bG hr.units) s_eq (fv 8) fS) (aI (aQ (bO (aA (cV cA dO (fv 2) (cV fW mT (fv 9) (fv 4))) (aA (cV cA dO (fv 3) (cV fW mT (fv 9) (fv 5))) (aA (fv 4) (aA (fv 5) (aA (fv 6) (aA (fv 7) aG))))))))) aR)
  (aE (bH (aW (bG hr.units) s_eq (fv 8) fS) (aE (bJ (i := 10) nd rfl (.inl rfl) (bN (dF (aA (bO (aA (sA (fv 5)) (aA (fv 4) aG))) (aA (bO (aA (sA (fv 4)) (aA (sA (fv 5)) aG))) (aA (bO (aA (fv 5) (aA (sA (fv 4)) aG))) aG)))) (cV iS rB (fv 9) fI)))
  (aI (aQ (bO (aA (fv 2) (aA (fv 3) (aA (bN (fv 10) fI) (aA (bN (fv 10) fI) (aA (fv 6) (aA (fv 7) aG)))))))))) aR)
  (aE (bH (aW (bG hr.units) s_eq (fv 8) fS) (aI (aQ (bO (aA (fv 2) (aA (fv 3) (aA (fv 4) (aA (sA (fv 5)) (aA (fv 6) (aA (fv 7) aG))))))))) aR)
  (aE (bH (aW (bG hr.units) s_eq (fv 8) fS) (aI (aQ (bO (aA (fv 2) (aA (fv 3) (aA (cV fW mT (fv 4) (fv 9)) (aA (cV fW mT (fv 5) (fv 9)) (aA (fv 6) (aA (fv 7) aG))))))))) aR)
  (aE (bH (aW (bG hr.units) s_eq (fv 8) fS) (aI (aQ (bO (aA (fv 2) (aA (fv 3) (aA (fv 9) (aA (bN (fv 1) fI) (aA (fv 6) (aA (fv 7) aG))))))))) aR)
  (aE (bH (aW (bG hr.units) s_eq (fv 8) fS) (aI (aQ (bO (aA (fv 9) (aA (bN (fv 1) fI) (aA (fv 4) (aA (fv 5) (aA (fv 6) (aA (fv 7) aG))))))))) aR)
  (aE (bH (aW (bG hr.units) s_eq (fv 8) fS) (aI (aQ (bO (aA (fv 2) (aA (fv 3) (aA (fv 4) (aA (fv 5) (aA (fv 2) (aA (fv 3) aG))))))))) aR)
  (aE (bH (aW (bG hr.units) s_eq (fv 8) fS) (aI (aQ (bO (aA (fv 6) (aA (fv 7) (aA (fv 4) (aA (fv 5) (aA (fv 6) (aA (fv 7) aG))))))))) aR)
  (aI (aQ (bO (aA (fv 6) (aA (fv 7) (aA (fv 4) (aA (fv 5) (aA (fv 2) (aA (fv 3) aG))))))))))))))))))))
theorem Ox (T : Txt w K mg) : OkG P w K mg base 1 "_law_bit" ["_law_state", "_law_task_here"] (spF K D6) :=
 okG (k := 0) (N := ["_law_state", "_law_task_here", "_law_bits_here"]) T.f_L_bit T.G_L_bit sc_L_bit (Runs.plain (n := 3) (np := 2)) (fun _ _ _ _ _ _ us hl => match us, hl with | [_, _], _ => rfl) fun cdv A outer s H E hr hgd => by
  have nd : (["_law_state", "_law_task_here", "_law_bits_here"] : List Str).Nodup := sc_L_bit.nd;have tk := takes_of (X := cxOf (L2.CX P w) P w K mg base ["_law_state", "_law_task_here", "_law_bits_here"] "_law_bit" (defScope Cw) (He.ga K "_law_bit") cdv A outer s H E) (E := E) rfl rfl rfl rfl;unfold DF;exact (aE (bJ (i := 2) nd rfl (.inl rfl) (eD hr.units (fv 0) fS))
  (aE (bH (aW (bG hr.units) s_eq (eD hr.units (fv 0) fS) (fD T.n_len (fv 2))) (aE (bH (aW (bG hr.units) s_eq (eD hr.units (fv 0) fS) fI) (aI (aQ fI)) aR)
  (aE (xW in_sub Uw hr.units (fv 0) fS fI)
  (aI (cP (gF (fv 2) (sC T.n_int (nM (uJ (bG hr.units) s_eq (bN (fv 1) fI) fS) (pe_one (uJ op_in_str s_inT fS (WQ T.n_str (st_hu hr) hgd (bN (fv 1) fI))))))))))) aR)
  (aE (xW in_add V1 hr.units (fv 0) fS fI)
  (aI (aQ (bN (fv 2) (cV iS rB (eD hr.units (fv 0) fS) fI)))))))
theorem N7 (T : Txt w K mg) : OkG P w K mg base 2 "_law_task" ["_law_state", "_law_task_here"] (spF K kE) :=
 okG (k := 1) (N := ["_law_state", "_law_task_here", "_law_word", "_law_bit_here", "_law_todo", "_law_at", "_law_waits"]) T.f_L_task T.G_L_task sc_L_task (Runs.plain (n := 7) (np := 2)) (fun _ _ _ _ _ _ us hl => match us, hl with | [_, _], _ => rfl) fun cdv A outer s H E hr hgd => by
  have nd : (["_law_state", "_law_task_here", "_law_word", "_law_bit_here", "_law_todo", "_law_at", "_law_waits"] : List Str).Nodup := sc_L_task.nd;have tk := takes_of (X := cxOf (L2.CX P w) P w K mg base ["_law_state", "_law_task_here", "_law_word", "_law_bit_here", "_law_todo", "_law_at", "_law_waits"] "_law_task" (defScope uD) (He.ga K "_law_task") cdv A outer s H E) (E := E) rfl rfl rfl rfl;unfold hW;exact (aE (bJ (i := 2) nd rfl (.inl rfl) (bN (fv 1) fI))
  (aE (bH (PW.pt (nY (aW (bG hr.units) s_eq (fv 2) fS) (pw_or1 (aW (bG hr.units) s_eq (fv 2) fS)))) (aE (bJ (i := 3) nd rfl (.inl rfl) (B4 (Ox T) hr hgd tk (aA (fv 0) (aA (fv 1) aG))))
  (aE (bH (aW (bG hr.units) s_eq (fv 3) fI) (aI (aQ fN)) aR)
  (aE (bH (aW (bG hr.units) s_eq (fv 2) fS) (aI (aQ (bN (fv 1) (cV cA dO fI (fv 3))))) aR)
  (aI (aQ (bN (dF (aA (dF aG) (aA (cV cA dO (bN (fv 1) fI) (dF (aA (fv 1) aG))) aG))) (fv 3))))))) aR)
  (aE (bH (aW (bG hr.units) s_eq (fv 2) fS) (aE (cP (gF (eD hr.units (fv 0) fS) (bO (aA fS aG))))
  (aI (aQ (cV cA dO (bN (fv 1) fI) (dF (aA (bO (aA fS aG)) aG)))))) aR)
  (aE (bH (aW (bG hr.units) s_eq (fv 2) fS) (aE (bH (aW (op_inD (US hr)) s_in (bO (aA (bN (fv 1) fI) (aA (eD hr.units (fv 0) fS) aG))) (eD hr.units (fv 0) fS)) (aI (aQ fN)) aR)
  (aE (cP (gF (eD hr.units (fv 0) fS) (bO (aA (bN (fv 1) fI) (aA (eD hr.units (fv 0) fS) aG)))))
  (aE (xW Ke Of hr.units (fv 0) fS (uI (dF (aA (bO (aA fS aG)) aG)) gK (eT (sC T.n_int (bN (fv 1) fI)))))
  (aI (aQ (cV cA dO (bN (eD hr.units (fv 0) fS) (bN (fv 1) fI)) (dF (aA (bO (aA fS (aA (fv 1) (aA fI aG)))) aG)))))))) aR)
  (aE (bH (aW (bG hr.units) s_eq (fv 2) fS) (aE (bJ (i := 4) nd rfl (.inl rfl) (eD hr.units (fv 0) fS))
  (aE (bJ (i := 5) nd rfl (.inl rfl) (TM (US hr) (wO (own := [("_law_waits", 6)]) (t := (.nm 6)) rfl nd (hZ (fv 4)) (blkOk_by (own := [("_law_waits", 6)]) (N := ["_law_state", "_law_task_here", "_law_word", "_law_bit_here", "_law_todo", "_law_at", "_law_waits"]) (sc := defScope uD) (by decide +kernel)) (fun _ _ _ _ _ => (pg_name (i := 6) nd rfl (.inl rfl))) (fun _ _ _ _ _ => eO) (fun _ _ _ _ _ => (bN (fv 6) fI))) fS))
  (aE (xW Ke Of hr.units (fv 0) fS (wO (own := [("_law_waits", 6)]) (t := (.nm 6)) rfl nd (hZ (uI (fv 4) gK (eT (fv 5)))) (blkOk_by (own := [("_law_waits", 6)]) (N := ["_law_state", "_law_task_here", "_law_word", "_law_bit_here", "_law_todo", "_law_at", "_law_waits"]) (sc := defScope uD) (by decide +kernel)) (fun _ _ _ _ _ => (pg_name (i := 6) nd rfl (.inl rfl))) (fun _ _ _ _ _ => (M4 (aW (bG hr.units) s_eq (bN (fv 6) fI) fS))) (fun _ _ _ _ _ => (fv 6))))
  (aE (Ay hr.units (fv 0) fS (uI (fv 4) (eT (cV cA dO (fv 5) fI)) gK))
  (aI (aQ (dF (aA (bO (aA fS (aA (bN (bN (fv 4) (fv 5)) fI) (aA (bN (fv 1) fI) aG)))) aG)))))))) aR)
  (aE (bH (aW (bG hr.units) s_eq (fv 2) fS) (aE (cP (Az (eD hr.units (fv 0) fS)))
  (aE (Ay hr.units (fv 0) fS (bN (fv 1) fI))
  (aE (xW Ke Of hr.units (fv 0) fS (uI (dF (aA (bO (aA fS aG)) aG)) gK (eT (sC T.n_int (bN (bN (fv 1) fI) fI)))))
  (aI (aQ (bN (bN (bN (fv 1) fI) fI) (bN (fv 1) fI))))))) aR)
  (aE (cP (gF (eD hr.units (fv 0) fS) (fv 1)))
  (aI (aQ (dF aG))))))))))
theorem Ie (T : Txt w K mg) : OkG P w K mg base 3 "_law_run" ["_law_bodies", "_law_procedure", "_law_bits_here", "_law_extra"] (spF K yT) :=
 okG (k := 2) (N := ["_law_bodies", "_law_procedure", "_law_bits_here", "_law_extra", "_law_state", "_law_turn", "_law_task_here", "_law_block"]) T.f_L_run T.G_L_run sc_L_run (Runs.cut (n := 8) (np := 4)) (fun _ _ _ _ _ _ us hl => match us, hl with | [_, _, _, _], _ => rfl) fun cdv A outer s H E hr hgd => by
  have nd : (["_law_bodies", "_law_procedure", "_law_bits_here", "_law_extra", "_law_state", "_law_turn", "_law_task_here", "_law_block"] : List Str).Nodup := sc_L_run.nd;have tk := takes_of (X := cxOf (L2.CX P w) P w K mg base ["_law_bodies", "_law_procedure", "_law_bits_here", "_law_extra", "_law_state", "_law_turn", "_law_task_here", "_law_block"] "_law_run" (defScope Cu) (He.ga K "_law_run") cdv A outer s H E) (E := E) rfl rfl rfl rfl;unfold DC eY;exact (aE (bJ (i := 4) nd rfl (.inl rfl) (WS (rX fS (fv 0) (rX fS (Ku T.n_list (fv 2)) (rX fS (fv 3) (rX fS fI (rX fS fI (rX fS (dF aG) (rX fS (dF aG) TJ)))))))))
  (aE (Ay hr.units (fv 4) fS (dF (aA (bO (aA fS (aA (fv 1) (aA fB (aA (dF (aA (dF aG) (aA (dF aG) aG))) aG))))) aG)))
  (aE (jN (t := (.nm 5)) (passes_of rfl) rfl (hR (by rfl) T.n_range fI) (pg_name (i := 5) nd rfl (.inl rfl)) (fQ [5, 6, 7] (aI (bH (aW xK IQ (fD T.n_len (eD hr.units (fv 4) fS)) fI) (aE (bJ (i := 6) nd rfl (.inl rfl) (bN (eD hr.units (fv 4) fS) fI))
  (aE (Ay hr.units (fv 4) fS (uI (eD hr.units (fv 4) fS) (eT fI) gK))
  (aE (bJ (i := 7) nd rfl (.inl rfl) (B4 (N7 T) hr hgd tk (aA (fv 4) (aA (fv 6) aG))))
  (aE (bH (PW.pt (ER (aW Gw Oe (fv 7) fN) (pw_and1 (aW (bG hr.units) s_eq (bN (fv 6) fI) fS)))) (aI (aQ (bO (aA fS (aA (sA fI) (aA (qC (eD hr.units (fv 4) fS)) (aA (qC (eD hr.units (fv 4) fS)) aG))))))) aR)
  (aE (bH (aW Gw Oe (fv 7) fN) (aI (aQ (bO (aA fS (aA (fD T.n_len (eD hr.units (fv 4) fS)) (aA (qC (eD hr.units (fv 4) fS)) (aA (qC (eD hr.units (fv 4) fS)) aG))))))) aR)
  (aI (Ay hr.units (fv 4) fS (cV cA dO (fv 7) (eD hr.units (fv 4) fS))))))))) aR))))
  (aE (bH (aW xK IQ (fD T.n_len (eD hr.units (fv 4) fS)) fI) (aI (aQ (bO (aA fS (aA fI (aA (dF aG) (aA (dF aG) aG))))))) aR)
  (aE (bH (aW tR F7 (eD hr.units (fv 4) fS) (fD T.n_len (eD hr.units (fv 4) fS))) (aI (aQ (bO (aA fS (aA (eD hr.units (fv 4) fS) (aA (qC (eD hr.units (fv 4) fS)) (aA (qC (eD hr.units (fv 4) fS)) aG))))))) aR)
  (aI (aQ (bO (aA fS (aA (eD hr.units (fv 4) fS) (aA (qC (eD hr.units (fv 4) fS)) (aA (qC (eD hr.units (fv 4) fS)) aG))))))))))))
theorem NB (T : Txt w K mg) : qR P w K mg base 2 "_law_bits" ["_law_pool_here", "_law_many"] (spF K Ag) :=
 iH (k := 1) T.f_L_bits T.G_L_bits N0 (Runs.plain (n := 3) (np := 2)) (fun _ _ _ _ _ _ us hl => match us, hl with | [_, _], _ => rfl) fun _ _ _ _ _ _ hr tk nd => by
  unfold BO;exact (aI (aQ (wO (own := [("_law_k", 2)]) (t := (.nm 2)) rfl nd (hR (by rfl) T.n_range (aZ (cZ T) hr tk (aA (fv 0) (aA (cV cA dO (fv 1) fI) aG)))) (blkOk_by (own := [("_law_k", 2)]) (N := ["_law_pool_here", "_law_many", "_law_k"]) (sc := defScope AU) (by decide +kernel)) (fun _ _ _ _ _ => (pg_name (i := 2) nd rfl (.inl rfl))) (fun _ _ _ _ _ => eO) (fun _ _ _ _ _ => (aZ (cZ T) hr takes0 (aA (fv 0) (aA fI aG)))))))
theorem N9 (T : Txt w K mg) : qR P w K mg base 2 "_law_pens" ["_law_deeds", "_law_begin"] (spF K xR) :=
 iH (k := 1) T.f_L_pens T.G_L_pens Mx (Runs.cut (n := 5) (np := 2)) (fun _ _ _ _ _ _ us hl => match us, hl with | [_, _], _ => rfl) fun _ _ _ _ _ _ hr tk nd => by
  unfold BK lU;exact (aE (bJ (i := 2) nd rfl (.inl rfl) (dF aG))
  (aE (bJ (i := 3) nd rfl (.inl rfl) (dF aG))
  (aE (jN (t := (.nm 4)) (passes_of rfl) rfl (hZ (fv 0)) (pg_name (i := 4) nd rfl (.inl rfl)) (fQ [4] (aI (bH (aW (bG hr.units) s_eq (bN (fv 4) fI) fS) (aI (cP (gF (fv 3) (fv 1)))) (aI (bH (aW (bG hr.units) s_eq (bN (fv 4) fI) fS) (aI (bJ (i := 1) nd rfl (.inl rfl) (cV cA dO (uI (Az (fv 3)) gK (eT fI)) (uI (fv 1) (eT fI) gK)))) (aE (bJ (i := 1) nd rfl (.inl rfl) (aZ (NA T) hr tk (aA (fv 1) (aA (fv 4) aG))))
  (aI (cP (gF (fv 2) (fv 1)))))))))))
  (aI (aQ (dF (aA (qC (fv 2)) (aA (fv 1) aG))))))))
theorem Bs (T : Txt w K mg) : qR P w K mg base 2 "_law_any_command" ["_law_pool_here"] (spF K jI) :=
 iH (k := 1) T.f_L_any_command T.G_L_any_command Bl (Runs.plain (n := 2) (np := 1)) (fun _ _ _ _ _ _ us hl => match us, hl with | [_], _ => rfl) fun _ _ _ _ _ _ hr tk nd => by
  unfold lP;exact (aE (bJ (i := 1) nd rfl (.inl rfl) (aZ (cZ T) hr tk (aA (fv 0) (aA fI aG))))
  (aE (bH (aW (bG hr.units) s_eq (fv 1) fI) (aI (aQ (bO (aA fS (aA (cV iS rB (aZ (cZ T) hr tk (aA (fv 0) (aA fI aG))) fI) aG))))) aR)
  (aE (bH (aW (bG hr.units) s_eq (fv 1) fI) (aI (aQ (bO (aA fS (aA (cV cA dO fI (aZ (cZ T) hr tk (aA (fv 0) (aA fI aG)))) aG))))) aR)
  (aE (bH (aW (bG hr.units) s_eq (fv 1) fI) (aI (aQ (bO (aA fS (aA (cV iS rB (aZ (cZ T) hr tk (aA (fv 0) (aA fI aG))) fI) aG))))) aR)
  (aE (bH (aW tR F7 (fv 1) fI) (aI (aQ (bO (aA (bN (bO (aA fS (aA fS aG))) (cV iS rB (fv 1) fI)) (aA (cV iS rB (aZ (cZ T) hr tk (aA (fv 0) (aA fI aG))) fI) (aA (cV iS rB (aZ (cZ T) hr tk (aA (fv 0) (aA fI aG))) fI) aG)))))) aR)
  (aI (aQ (bO (aA (bN (bO (aA fS (aA fS (aA fS (aA fS aG))))) (cV iS rB (fv 1) fI)) aG)))))))))
theorem Ow (T : Txt w K mg) : qR P w K mg base 2 "_law_odd" ["_law_pool_here"] (spF K yU) :=
 iH (k := 1) T.f_L_odd T.G_L_odd OZ (Runs.plain (n := 1) (np := 1)) (fun _ _ _ _ _ _ us hl => match us, hl with | [_], _ => rfl) fun _ _ _ _ _ _ hr tk nd => by
  unfold DE;exact (aI (aQ (bN (bO (aA fB (aA fN (aA fS (aA (bO (aA fI aG)) (aA (dF (aA fI aG)) (aA fB (aA fS aG)))))))) (aZ (cZ T) hr tk (aA (fv 0) (aA fI aG))))))
theorem Gz (T : Txt w K mg) : qR P w K mg base 3 "_law_bad_pen" ["_law_pool_here"] (spF K sT) :=
 iH (k := 2) T.f_L_bad_pen T.G_L_bad_pen Gj (Runs.cut (n := 5) (np := 1)) (fun _ _ _ _ _ _ us hl => match us, hl with | [_], _ => rfl) fun _ _ _ _ _ _ hr tk nd => by
  unfold tH;exact (aE (Av (i := 1) (own := [("_law_k", 4)]) (t := (.nm 4)) rfl nd rfl rfl (sw_true rfl rfl rfl (by decide +kernel)) (hR (by rfl) T.n_range fI) (blkOk_by (own := [("_law_k", 4)]) (N := ["_law_pool_here", "_law_begin", "_law_kind", "_law_at", "_law_k"]) (sc := defScope sQ) (by decide +kernel)) (fun _ _ _ _ _ => (pg_name (i := 4) nd rfl (.inl rfl))) (fun _ _ _ _ _ => eO) (fun _ _ _ _ _ => (aZ (CP T) hr takes0 (aA (fv 0) aG))))
  (aE (bJ (i := 2) nd rfl (.inl rfl) (aZ (cZ T) hr tk (aA (fv 0) (aA fI aG))))
  (aE (bH (aW (bG hr.units) s_eq (fv 2) fI) (aI (aQ (qC (fv 1)))) aR)
  (aE (bH (aW (bG hr.units) s_eq (fv 2) fI) (aI (cP (gF (fv 1) fI))) (aI (bH (aW (bG hr.units) s_eq (fv 2) fI) (aI (cP (Az (fv 1)))) (aE (bJ (i := 3) nd rfl (.inl rfl) (aZ (cZ T) hr tk (aA (fv 0) (aA fI aG))))
  (aI (M5 (aZ (Ow T) hr tk (aA (fv 0) aG)) (fv 1) (fv 3)))))))
  (aI (aQ (HQ T.n_tuple (fv 1))))))))
theorem Ih (T : Txt w K mg) : qR P w K mg base 1 "_law_blocks" ["_law_statement"] (spF K vH) :=
 iH (k := 0) T.f_L_blocks T.G_L_blocks IL (Runs.plain (n := 2) (np := 1)) (fun _ _ _ _ _ _ us hl => match us, hl with | [_], _ => rfl) fun _ _ _ _ _ _ hr tk nd => by
  unfold vY;exact (aE (bH (aW (bG hr.units) s_eq (bN (fv 0) fI) fS) (aI (aQ (Ku T.n_list (bN (fv 0) fI)))) aR)
  (aI (aQ (wO (own := [("_law_item", 1)]) (t := (.nm 1)) rfl nd (hZ (uI (fv 0) (eT fI) gK)) (blkOk_by (own := [("_law_item", 1)]) (N := ["_law_statement", "_law_item"]) (sc := defScope vE) (by decide +kernel)) (fun _ _ _ _ _ => (pg_name (i := 1) nd rfl (.inl rfl))) (fun _ _ _ _ _ => (M4 (eI (iP (T := "list") T.n_isinstance T.n_list (fv 1))))) (fun _ _ _ _ _ => (fv 1))))))
theorem N5 (T : Txt w K mg) : qR P w K mg base 1 "_law_with" ["_law_statement", "_law_blocks_here"] (spF K Ad) :=
 iH (k := 0) T.f_L_with T.G_L_with Mv (Runs.plain (n := 2) (np := 2)) (fun _ _ _ _ _ _ us hl => match us, hl with | [_, _], _ => rfl) fun _ _ _ _ _ _ hr tk nd => by
  unfold BH;exact (aE (bH (aW (bG hr.units) s_eq (bN (fv 0) fI) fS) (aI (aQ (cV cA dO (uI (fv 0) gK (eT fI)) (bO (aA (fv 1) aG))))) aR)
  (aE (bH (aW (bG hr.units) s_eq (fD T.n_len (fv 1)) fI) (aI (aQ (fv 0))) aR)
  (aI (aQ (cV cA dO (bO (aA (bN (fv 0) fI) aG)) (HQ T.n_tuple (fv 1)))))))
theorem Fn (T : Txt w K mg) : ∀ n, qR P w K mg base (1 + n + 1) "_law_copy" ["_law_block"] (spF K (uF n))
 | 0 => vF T.f_L_copy T.G_L_copy FZ (fun _ _ _ _ _ _ us hl => match us, hl with | [_], _ => rfl)
 | n + 1 => by
  have ih_L_copy := Fn T n;exact iH (k := 1 + n + 1) T.f_L_copy T.G_L_copy FZ (Runs.plain (n := 3) (np := 1)) (fun _ _ _ _ _ _ us hl => match us, hl with | [_], _ => rfl) fun _ _ _ _ _ _ hr tk nd => by
   unfold BN A4;exact (aI (aQ (wO (own := [("_law_row", 1)]) (t := (.nm 1)) rfl nd (hZ (fv 0)) (blkOk_by (own := [("_law_row", 1)]) (N := ["_law_block", "_law_row", "_law_inner"]) (sc := defScope AS) (by decide +kernel)) (fun _ _ _ _ _ => (pg_name (i := 1) nd rfl (.inl rfl))) (fun _ _ _ _ _ => eO) (fun _ _ _ _ _ => (aZ (N5 T) hr takes0 (aA (fv 1) (aA (wO (own := [("_law_inner", 2)]) (t := (.nm 2)) rfl nd (hZ (aZ (Ih T) hr takes0 (aA (fv 1) aG) (by omega))) (blkOk_by (own := [("_law_inner", 2)]) (N := ["_law_block", "_law_row", "_law_inner"]) (by kernel_rfl)) (fun _ _ _ _ _ => (pg_name (i := 2) nd rfl (.inl rfl))) (fun _ _ _ _ _ => eO) (fun _ _ _ _ _ => (aZ ih_L_copy hr takes0 (aA (fv 2) aG) (by omega)))) aG)) (by omega))))))
theorem Ig (T : Txt w K mg) : qR P w K mg base 13 "_law_copies" ["_law_bodies"] (spF K vG) :=
 iH (k := 12) T.f_L_copies T.G_L_copies IK (Runs.plain (n := 2) (np := 1)) (fun _ _ _ _ _ _ us hl => match us, hl with | [_], _ => rfl) fun _ _ _ _ _ _ hr tk nd => by
  unfold vX;exact (aI (aQ (wO (own := [("_law_body", 1)]) (t := (.nm 1)) rfl nd (hZ (fv 0)) (blkOk_by (own := [("_law_body", 1)]) (N := ["_law_bodies", "_law_body"]) (sc := defScope vD) (by decide +kernel)) (fun _ _ _ _ _ => (pg_name (i := 1) nd rfl (.inl rfl))) (fun _ _ _ _ _ => eO) (fun _ _ _ _ _ => (aZ (Fn T 10) hr takes0 (aA (fv 1) aG))))))
theorem qU (T : Txt w K mg) : ∀ n, qR P w K mg base (0 + n + 1) "_law_same" ["_law_one", "_law_other"] (spF K (eL n))
 | 0 => vF T.f_L_same T.G_L_same FY (fun _ _ _ _ _ _ us hl => match us, hl with | [_, _], _ => rfl)
 | n + 1 => by
  have ih_L_same := qU T n;exact iH (k := 0 + n + 1) T.f_L_same T.G_L_same FY (Runs.plain (n := 3) (np := 2)) (fun _ _ _ _ _ _ us hl => match us, hl with | [_, _], _ => rfl) fun _ _ _ _ _ _ hr tk nd => by
   unfold lM vR;exact (aE (bH (eI (QW (T := "list") (U := "tuple") T.n_isinstance T.n_list T.n_tuple (fv 0))) (aE (bH (PW.pt (nY (aW (tQ hr.units) F6 (iP (T := "list") T.n_isinstance T.n_list (fv 0)) (iP (T := "list") T.n_isinstance T.n_list (fv 1))) (pw_or1 (aW (tQ hr.units) F6 (iP (T := "tuple") T.n_isinstance T.n_tuple (fv 0)) (iP (T := "tuple") T.n_isinstance T.n_tuple (fv 1)))))) (aI (aQ fB)) aR)
  (aI (aQ (nM (uJ (bG hr.units) s_eq (fD T.n_len (fv 0)) (fD T.n_len (fv 1))) (pe_one (QX T.n_all (wO (own := [("_law_k", 2)]) (t := (.nm 2)) rfl nd (hR (by rfl) T.n_range (fD T.n_len (fv 0))) (blkOk_by (own := [("_law_k", 2)]) (N := ["_law_one", "_law_other", "_law_k"]) (sc := defScope AQ) (by decide +kernel)) (fun _ _ _ _ _ => (pg_name (i := 2) nd rfl (.inl rfl))) (fun _ _ _ _ _ => eO) (fun _ _ _ _ _ => (aZ ih_L_same hr takes0 (aA (bN (fv 0) (fv 2)) (aA (bN (fv 1) (fv 2)) aG)) (by omega)))))))))) aR)
  (aE (bH (PW.pt (nY (eI (QW (T := "list") (U := "tuple") T.n_isinstance T.n_list T.n_tuple (fv 1))) (pw_or1 (aW (tQ hr.units) F6 (iP (T := "bool") T.n_isinstance T.n_bool (fv 0)) (iP (T := "bool") T.n_isinstance T.n_bool (fv 1)))))) (aI (aQ fB)) aR)
  (aI (aQ (nM (uJ (bG hr.units) s_eq (iP (T := "int") T.n_isinstance T.n_int (fv 0)) (iP (T := "int") T.n_isinstance T.n_int (fv 1))) (pe_one (uJ (bG hr.units) s_eq (fv 0) (fv 1))))))))
theorem Gy (T : Txt w K mg) : OkG P w K mg base 4 "_law_steered" ["_law_pool_here", "_law_bodies", "_law_procedure", "_law_many", "_law_extra"] (spF K pI) :=
 okG (k := 3) (N := ["_law_pool_here", "_law_bodies", "_law_procedure", "_law_many", "_law_extra", "_law_bits_here", "_law_found"]) T.f_L_steered T.G_L_steered sc_L_steered (Runs.plain (n := 7) (np := 5)) (fun _ _ _ _ _ _ us hl => match us, hl with | [_, _, _, _, _], _ => rfl) fun cdv A outer s H E hr hgd => by
  have nd : (["_law_pool_here", "_law_bodies", "_law_procedure", "_law_many", "_law_extra", "_law_bits_here", "_law_found"] : List Str).Nodup := sc_L_steered.nd;have tk := takes_of (X := cxOf (L2.CX P w) P w K mg base ["_law_pool_here", "_law_bodies", "_law_procedure", "_law_many", "_law_extra", "_law_bits_here", "_law_found"] "_law_steered" (defScope sP) (He.ga K "_law_steered") cdv A outer s H E) (E := E) rfl rfl rfl rfl;unfold tG;exact (aE (bJ (i := 5) nd rfl (.inl rfl) (aZ (NB T) hr tk (aA (fv 0) (aA (fv 3) aG))))
  (aE (bJ (i := 6) nd rfl (.inl rfl) (B4 (Ie T) hr hgd tk (aA (fv 1) (aA (fv 2) (aA (fv 5) (aA (fv 4) aG))))))
  (aE (bH (aW (bG hr.units) s_eq (bN (fv 6) fI) fS) (aE (bJ (i := 5) nd rfl (.inl rfl) (uI (fv 5) gK (eT (bN (fv 6) fI))))
  (aI (bJ (i := 6) nd rfl (.inl rfl) (B4 (Ie T) hr hgd tk (aA (fv 1) (aA (fv 2) (aA (fv 5) (aA (fv 4) aG)))))))) aR)
  (aI (aQ (fv 6))))))
theorem Do (T : Txt w K mg) : ∀ n, (qR P w K mg base (2 + n + 1) "_law_tiny" ["_law_pool_here", "_law_level", "_law_room", "_law_many", "_law_low"] (spF K (kD n))) /\ (qR P w K mg base (2 + n + 1) "_law_tiny_block" ["_law_pool_here", "_law_level", "_law_room", "_law_many", "_law_low"] (spF K (mX n)))
 | 0 => ⟨vF T.f_L_tiny T.G_L_tiny FX (fun _ _ _ _ _ _ us hl => match us, hl with | [_, _, _, _, _], _ => rfl), vF T.f_L_tiny_block T.G_L_tiny_block wC (fun _ _ _ _ _ _ us hl => match us, hl with | [_, _, _, _, _], _ => rfl)⟩
 | n + 1 => by
  have ih := Do T n;have ih_L_tiny := ih.1;have ih_L_tiny_block := ih.2;refine ⟨?_, ?_⟩
  ·exact iH (k := 2 + n + 1) T.f_L_tiny T.G_L_tiny FX (Runs.plain (n := 9) (np := 5)) (fun _ _ _ _ _ _ us hl => match us, hl with | [_, _, _, _, _], _ => rfl) fun _ _ _ _ _ _ hr tk nd => by
    unfold BI;exact (aE (ES (fv 2) fI fI)
  (aE (bJ (i := 5) nd rfl (.inl rfl) (aZ (cZ T) hr tk (aA (fv 0) (aA fI aG)) (by omega)))
  (aE (bJ (i := 6) nd rfl (.inl rfl) (uJ (bG hr.units) s_eq (aZ (cZ T) hr tk (aA (fv 0) (aA fI aG)) (by omega)) fI))
  (aE (bH (PW.pt (nY (aW tR F7 (fv 5) fI) (pw_or1 (aW xK IQ (fv 1) fI)))) (aI (aQ (aZ (Bs T) hr tk (aA (fv 0) aG) (by omega)))) aR)
  (aE (bH (aW (bG hr.units) s_eq (fv 5) fI) (aI (aQ (bO (aA fS (aA (aZ (cZ T) hr tk (aA (fv 0) (aA fI aG)) (by omega)) aG))))) aR)
  (aE (bJ (i := 7) nd rfl (.inl rfl) (aZ ih_L_tiny_block hr tk (aA (fv 0) (aA (cV cA dO (fv 1) fI) (aA (fv 2) (aA (fv 3) (aA (fv 4) aG))))) (by omega)))
  (aE (bH (aW (bG hr.units) s_eq (fv 5) fI) (aI (aQ (bO (aA fS (aA (fv 7) aG))))) aR)
  (aE (bH (aW (bG hr.units) s_eq (fv 5) fI) (aI (aQ (bO (aA fS (aA (fv 7) aG))))) aR)
  (aE (bH (PW.pt (ER (aW (bG hr.units) s_eq (fv 5) fI) (pw_and1 (aW tR F7 (fv 4) (fv 3))))) (aE (bJ (i := 8) nd rfl (.inl rfl) (cV cA dO (fv 4) (aZ (cZ T) hr tk (aA (fv 0) (aA (cV iS rB (fv 3) (fv 4)) aG)) (by omega))))
  (aI (aQ (bO (aA fS (aA (fv 8) (aA (fv 6) (aA (dF (aA (fv 7) (aA (aZ ih_L_tiny_block hr tk (aA (fv 0) (aA (cV cA dO (fv 1) fI) (aA (fv 2) (aA (fv 3) (aA (fv 4) aG))))) (by omega)) aG))) aG)))))))) aR)
  (aE (bH (PW.pt (ER (aW (bG hr.units) s_eq (fv 5) fI) (ER (aW tR F7 (fv 1) fI) (pw_and1 (aW xK IQ (bN (fv 2) fI) fI))))) (aE (ES (fv 2) fI fI)
  (aI (aQ (bO (aA fS (aA (fv 7) (aA (dF (aA (bO (aA fS (aA (aZ (cZ T) hr tk (aA (fv 0) (aA (fv 3) aG)) (by omega)) (aA (fv 6) (aA (dF (aA (dF aG) (aA (dF aG) aG))) aG))))) aG)) aG))))))) aR)
  (aI (aQ (bO (aA fS (aA (fv 7) (aA (aZ ih_L_tiny_block hr tk (aA (fv 0) (aA (cV cA dO (fv 1) fI) (aA (fv 2) (aA (fv 3) (aA (fv 4) aG))))) (by omega)) aG))))))))))))))))
  ·exact iH (k := 2 + n + 1) T.f_L_tiny_block T.G_L_tiny_block wC (Runs.cut (n := 7) (np := 5)) (fun _ _ _ _ _ _ us hl => match us, hl with | [_, _, _, _, _], _ => rfl) fun _ _ _ _ _ _ hr tk nd => by
    unfold nQ iE;exact (aE (bJ (i := 5) nd rfl (.inl rfl) (dF aG))
  (aE (jN (t := (.nm 6)) (passes_of rfl) rfl (hR (by rfl) T.n_range (aZ (cZ T) hr tk (aA (fv 0) (aA fI aG)) (by omega))) (pg_name (i := 6) nd rfl (.inl rfl)) (fQ [6] (aI (bH (aW xK IQ (bN (fv 2) fI) fI) (aI (cP (gF (fv 5) (aZ ih_L_tiny hr tk (aA (fv 0) (aA (fv 1) (aA (fv 2) (aA (fv 3) (aA (fv 4) aG))))) (by omega))))) aR))))
  (aI (aQ (qC (fv 5))))))
theorem N6 (T : Txt w K mg) (n : Nat) : qR P w K mg base (2 + n + 1) "_law_tiny" ["_law_pool_here", "_law_level", "_law_room", "_law_many", "_law_low"] (spF K (kD n)) := (Do T n).1
theorem Dw (T : Txt w K mg) : qR P w K mg base 24 "_law_tiny_book" ["_law_pool_here", "_law_most", "_law_size"] (spF K oO) :=
 iH (k := 23) T.f_L_tiny_book T.G_L_tiny_book Dc (Runs.cut (n := 9) (np := 3)) (fun _ _ _ _ _ _ us hl => match us, hl with | [_, _, _], _ => rfl) fun _ _ _ _ _ _ hr tk nd => by
  unfold oY jG jH;exact (aE (bJ (i := 3) nd rfl (.inl rfl) (cV cA dO fI (aZ (cZ T) hr tk (aA (fv 0) (aA (fv 1) aG)))))
  (aE (bJ (i := 4) nd rfl (.inl rfl) (dF aG))
  (aE (jN (t := (.nm 5)) (passes_of rfl) rfl (hR (by rfl) T.n_range (fv 3)) (pg_name (i := 5) nd rfl (.inl rfl)) (fQ [5, 6, 7, 8] (aE (bJ (i := 6) nd rfl (.inl rfl) (dF (aA (fv 2) aG)))
  (aE (bJ (i := 7) nd rfl (.inl rfl) (dF aG))
  (aE (jN (t := (.nm 8)) (passes_of rfl) rfl (hR (by rfl) T.n_range (cV cA dO fI (aZ (cZ T) hr tk (aA (fv 0) (aA fI aG))))) (pg_name (i := 8) nd rfl (.inl rfl)) (fQ [8] (aI (bH (aW xK IQ (bN (fv 6) fI) fI) (aI (cP (gF (fv 7) (aZ (N6 T 20) hr tk (aA (fv 0) (aA fI (aA (fv 6) (aA (fv 3) (aA (cV cA dO (fv 5) fI) aG))))))))) aR))))
  (aI (cP (gF (fv 4) (qC (fv 7))))))))))
  (aI (aQ (qC (fv 4)))))))
theorem Dx (T : Txt w K mg) : qR P w K mg base 26 "_law_ran" ["_law_book", "_law_procedure", "_law_bits_here", "_law_begin"] (spF K qW) :=
 iH (k := 25) T.f_L_ran_3 T.G_L_ran_3 K7 (Runs.plain (n := 6) (np := 4)) (fun _ _ _ _ _ _ us hl => match us, hl with | [_, _, _, _], _ => rfl) fun _ _ _ _ _ _ hr tk nd => by
  unfold uQ;exact (aE (HN T.xm ⟨⟨fun _ _ _ => rfl, trivial⟩, trivial⟩ rfl rfl tk (fun W pn xe tk po => (aI (bJ (i := 4) nd rfl (.inl rfl) (TN (V7 T) hr tk (aA (fv 0) (aA (fv 1) (aA (fv 2) aG))) (fv 3))))) (Ar T.g_NoProcedure (fun _ _ _ _ _ => (aI (aQ (bO (aA fS (aA fI aG)))))) (Pm (k := 5) (its := [.c (.str "NoRun") (.str "NoRun"), .f "index"]) T.xa_NoRun.glo nd rfl rfl (fun a oe cls dd pn hz hf => pss_one (ps_ret (pe_tup (VZ pe_str (jx_f T.xa_NoRun.rd (T.xa_NoRun.no "index" (by decide)) hz hf (cv 5) KW))))) (Ar T.g_NoPen (fun _ _ _ _ _ => (aI (aQ (bO (aA fS (aA fI aG)))))) Kh))))
  (aI (aQ (bO (aA fS (aA (fv 4) aG))))))
theorem KF (T : Txt w K mg) : Tx P w K mg base 25 "trace" ["book", "procedure", "bits", "pen"] 3 "pen" (Mn K nZ) :=
 okGT (k := 24) (N := ["book", "procedure", "bits", "pen", "way", "deeds", "pens", "last"]) T.f_trace_T T.G_trace_T sc_trace_T rfl (fun _ _ _ _ _ _ us ws l1 l2 => match us, ws, l1, l2 with | [_, _, _], [_], _, _ => rfl) fun cdv A outer s H E pn hr => by
  have nd : (["book", "procedure", "bits", "pen", "way", "deeds", "pens", "last"] : List Str).Nodup := sc_trace_T.nd;have tk := takes_gcx (P := P) (w := w) (K := K) (mg := mg) (base := base) (N := ["book", "procedure", "bits", "pen", "way", "deeds", "pens", "last"]) (qual := "trace") (scope := defScope qT) (f := (He.ga K "trace")) (cd := cdv) (A := A) (outer := outer) (s := s) (H := H) (E := E) (pn := pn);unfold qX;exact (HM (tW (t := (.tp [4, 5])) (aZ (pU T) hr tk (aA (fv 0) (aA (fv 1) (aA (fv 2) aG)))) (pg_tup rfl (pgs_cons (pg_name (i := 4) nd rfl (.inl rfl)) (pgs_cons (pg_name (i := 5) nd rfl (.inl rfl)) pgs_nil))))
  (HM (bH (fM (eI (aZ (Fl T) hr tk (aA (fv 3) aG)))) (aI (Ax T.x_NoPen tk)) aR)
  (HM (tW (t := (.tp [6, 7])) (aZ (xM T) hr tk (aA (fv 5) (aA (fv 3) aG))) (pg_tup rfl (pgs_cons (pg_name (i := 6) nd rfl (.inl rfl)) (pgs_cons (pg_name (i := 7) nd rfl (.inl rfl)) pgs_nil))))
  (fy_yf (fv 6) hr.hd))))
theorem zH (T : Txt w K mg) : qR P w K mg base 29 "_law_traced" ["_law_book", "_law_procedure", "_law_bits_here", "_law_begin"] (spF K kJ) :=
 iH (k := 28) T.f_L_traced_2 T.G_L_traced_2 F5 (Runs.cut (n := 7) (np := 4)) (fun _ _ _ _ _ _ us hl => match us, hl with | [_, _, _, _], _ => rfl) fun _ _ _ _ _ _ hr tk nd => by
  unfold nP;exact (aE (bJ (i := 4) nd rfl (.inl rfl) (dF aG))
  (aE (HN T.xm ⟨⟨fun _ _ _ => rfl, trivial⟩, trivial⟩ rfl rfl tk (fun W pn xe tk po => (aI (TH (ix := 5) (il := 4) ⟨nd, rfl, rfl, by decide, rfl, rfl, rfl, rfl, rfl, rfl, by decide, by decide, rfl⟩ T.ns tk po (KF T) hr (aA (fv 0) (aA (fv 1) (aA (fv 2) aG))) (fv 3)))) (Ar T.g_NoProcedure (fun _ _ _ _ _ => (aI (aQ (bO (aA fS (aA (fD T.n_len (fv 4)) aG)))))) (Pm (k := 6) (its := [.c (.str "NoRun") (.str "NoRun"), .fl "index" 4]) T.xa_NoRun.glo nd rfl rfl (fun a oe cls dd pn hz hf => pss_one (ps_ret (pe_tup (VZ pe_str (jx_fl T.xa_NoRun.rd (T.xa_NoRun.no "index" (by decide)) hz hf T.n_len (cv 6) (cv 4) KW))))) (Ar T.g_NoPen (fun _ _ _ _ _ => (aI (aQ (bO (aA fS (aA (fD T.n_len (fv 4)) aG)))))) Kh))))
  (aI (aQ (bO (aA fS (aA (qC (fv 4)) aG)))))))
theorem zZ (T : Txt w K mg) : qR P w K mg base 26 "_law_matrix_told" ["_law_book", "_law_procedure", "_law_bits_here"] (spF K jS) :=
 iH (k := 25) T.f_L_matrix_told_2 T.G_L_matrix_told_2 zT (Runs.plain (n := 5) (np := 3)) (fun _ _ _ _ _ _ us hl => match us, hl with | [_, _, _], _ => rfl) fun _ _ _ _ _ _ hr tk nd => by
  unfold jW;exact (aE (HN T.xm ⟨⟨fun _ _ _ => rfl, trivial⟩, trivial⟩ rfl rfl tk (fun W pn xe tk po => (aI (bJ (i := 3) nd rfl (.inl rfl) (aZ (F9 T) hr tk (aA (fv 0) (aA (fv 1) (aA (fv 2) aG))))))) (Ar T.g_NoProcedure (fun _ _ _ _ _ => (aI (aQ (bO (aA fS (aA fI aG)))))) (Pm (k := 4) (its := [.c (.str "NoRun") (.str "NoRun"), .f "index"]) T.xa_NoRun.glo nd rfl rfl (fun a oe cls dd pn hz hf => pss_one (ps_ret (pe_tup (VZ pe_str (jx_f T.xa_NoRun.rd (T.xa_NoRun.no "index" (by decide)) hz hf (cv 4) KW))))) Kh)))
  (aI (aQ (bO (aA fS (aA (fv 3) aG))))))
theorem qI (T : Txt w K mg) : qR P w K mg base 30 "_law_right" ["_law_book", "_law_procedure", "_law_bits_here", "_law_begin", "_law_due"] (spF K dP) :=
 iH (k := 29) T.f_L_right_4 T.G_L_right_4 Gi (Runs.plain (n := 5) (np := 5)) (fun _ _ _ _ _ _ us hl => match us, hl with | [_, _, _, _, _], _ => rfl) fun _ _ _ _ _ _ hr tk nd => by
  unfold pN;exact (aE (bH (fM (eI (aZ (qU T 20) hr tk (aA (aZ (Dx T) hr tk (aA (fv 0) (aA (fv 1) (aA (fv 2) (aA (fv 3) aG))))) (aA (fv 4) aG))))) (aI (aQ fB)) aR)
  (aE (bH (fM (eI (aZ (qU T 20) hr tk (aA (aZ (zH T) hr tk (aA (fv 0) (aA (fv 1) (aA (fv 2) (aA (fv 3) aG))))) (aA (fv 4) aG))))) (aI (aQ fB)) aR)
  (aI (aQ (fe_or (uJ (bG hr.units) s_eq (bN (fv 4) fI) fS) (pe_one (aZ (qU T 20) hr tk (aA (aZ (zZ T) hr tk (aA (fv 0) (aA (fv 1) (aA (fv 2) aG)))) (aA (fv 4) aG)))))))))
theorem law_fn (T : Txt w K mg) : ∃ fd, (∀ (s : Shared) (us : List Value), us.length = (["_law_script"] : List Str).length -> BindsTo s fd ⟨us, []⟩ ((["_law_script"] : List Str).zip us)) /\ ∀ base, FnG P w K mg base (L2.CX P w) 31 (He.ga K "law") fd ["_law_script"] (spF K m_law_k22) :=
 PP (N := ["_law_script", "_law_pool_here", "_law_bodies", "_law_book", "_law_wrong", "_law_odd_here", "_law_procedure", "_law_found", "_law_good", "_law_begin", "_law_bad_pen_here", "_law_at", "_law_bad", "_law_bits_here", "_law_one", "_law_pens_here"]) T.f_law_k22 sc_law_k22 (Runs.cut (n := 16) (np := 1) (mb := qY)) (fun _ _ _ _ _ _ us hl => match us, hl with | [_], _ => rfl) fun base cdv A outer s H E hr hgd => by
  have nd : (["_law_script", "_law_pool_here", "_law_bodies", "_law_book", "_law_wrong", "_law_odd_here", "_law_procedure", "_law_found", "_law_good", "_law_begin", "_law_bad_pen_here", "_law_at", "_law_bad", "_law_bits_here", "_law_one", "_law_pens_here"] : List Str).Nodup := sc_law_k22.nd;have tk := takes_of (X := cxOf (L2.CX P w) P w K mg base ["_law_script", "_law_pool_here", "_law_bodies", "_law_book", "_law_wrong", "_law_odd_here", "_law_procedure", "_law_found", "_law_good", "_law_begin", "_law_bad_pen_here", "_law_at", "_law_bad", "_law_bits_here", "_law_one", "_law_pens_here"] "law" (defScope yR) (He.ga K "law") cdv A outer s H E) (E := E) rfl rfl rfl rfl;unfold qY xG mH xH xI pA pB pC;exact (aE (bJ (i := 1) nd rfl (.inl rfl) (aZ (N8 T) hr tk (aA (fv 0) aG)))
  (aE (bJ (i := 2) nd rfl (.inl rfl) (aZ (Dw T) hr tk (aA (fv 1) (aA fI (aA fI aG)))))
  (aE (bJ (i := 3) nd rfl (.inl rfl) (QV T.T_Book (H7 T) hr tk (aA (aZ (Ig T) hr tk (aA (fv 2) aG)) aG)))
  (aE (bJ (i := 4) nd rfl (.inl rfl) (bN (bO (aA (fD T.n_len (fv 2)) (aA (sA fI) (aA fB (aA fN (aA fS (aA (cV Gu Ob fI fI) (aA (bO (aA fI aG)) aG)))))))) (aZ (cZ T) hr tk (aA (fv 1) (aA fI aG)))))
  (aE (bJ (i := 5) nd rfl (.inl rfl) (bN (bO (aA fI (aA (sA fI) (aA fB (aA fN (aA fS (aA (dF (aA fI aG)) aG))))))) (aZ (cZ T) hr tk (aA (fv 1) (aA fI aG)))))
  (aE (bJ (i := 6) nd rfl (.inl rfl) (aZ (cZ T) hr tk (aA (fv 1) (aA (fD T.n_len (fv 2)) aG))))
  (aE (bJ (i := 7) nd rfl (.inl rfl) (B4 (Gy T) hr hgd tk (aA (fv 1) (aA (fv 2) (aA (fv 6) (aA fI (aA fI aG)))))))
  (aE (bJ (i := 8) nd rfl (.inl rfl) (Ku T.n_list (bN (fv 7) fI)))
  (aE (bJ (i := 9) nd rfl (.inl rfl) (aZ (Ov T) hr tk (aA (fv 1) aG)))
  (aE (bJ (i := 10) nd rfl (.inl rfl) (aZ (Gz T) hr tk (aA (fv 1) aG)))
  (aE (bJ (i := 11) nd rfl (.inl rfl) (aZ (cZ T) hr tk (aA (fv 1) (aA (cV cA dO (fD T.n_len (fv 8)) fI) aG))))
  (aE (bJ (i := 12) nd rfl (.inl rfl) (cV cA dO (cV cA dO (uI (fv 8) gK (eT (fv 11))) (dF (aA (fv 5) aG))) (uI (fv 8) (eT (fv 11)) gK)))
  (aE (jN (t := (.nm 13)) (passes_of rfl) rfl (hZ (dF (aA (fv 8) (aA (fv 12) (aA fN aG))))) (pg_name (i := 13) nd rfl (.inl rfl)) (fQ [13] (aI (jN (t := (.nm 14)) (passes_of rfl) rfl (hZ (dF (aA (fv 9) (aA (fv 10) aG)))) (pg_name (i := 14) nd rfl (.inl rfl)) (aI (bH (fM (eI (aZ (qI T) hr tk (aA (fv 3) (aA (fv 4) (aA (fv 13) (aA (fv 14) (aA (bO (aA fS (aA fI aG))) aG)))))))) (aI (aQ fB)) aR))))))
  (aE (jN (t := (.nm 14)) (passes_of rfl) rfl (hZ (dF (aA (fv 9) (aA (fv 10) aG)))) (pg_name (i := 14) nd rfl (.inl rfl)) (aE (bH (fM (eI (aZ (qI T) hr tk (aA (fv 3) (aA (fv 6) (aA (fv 12) (aA (fv 14) (aA (bO (aA fS (aA (fv 11) aG))) aG)))))))) (aI (aQ fB)) aR)
  (aI (bH (fM (eI (aZ (qI T) hr tk (aA (fv 3) (aA (fv 6) (aA fS (aA (fv 14) (aA (bO (aA fS (aA (sA fI) aG))) aG)))))))) (aI (aQ fB)) aR))))
  (aE (bH (aW (tQ hr.units) F6 (bN (fv 7) fI) fS) (aI (aQ fB)) aR)
  (aE (bH (fM (eI (aZ (qI T) hr tk (aA (fv 3) (aA (fv 6) (aA (fv 8) (aA (fv 10) (aA (bO (aA fS (aA fI aG))) aG)))))))) (aI (aQ fB)) aR)
  (aE (bJ (i := 15) nd rfl (.inl rfl) (aZ (N9 T) hr tk (aA (bN (fv 7) fI) (aA (fv 9) aG))))
  (aE (bH (fM (eI (aZ (qU T 20) hr tk (aA (aZ (Dx T) hr tk (aA (fv 3) (aA (fv 6) (aA (fv 8) (aA (fv 9) aG))))) (aA (bO (aA fS (aA (bO (aA (bN (fv 7) fI) (aA (bN (fv 15) fI) (aA (fD T.n_len (bN (fv 15) fI)) aG)))) aG))) aG))))) (aI (aQ fB)) aR)
  (aI (aQ (aZ (qU T 20) hr tk (aA (aZ (zH T) hr tk (aA (fv 3) (aA (fv 6) (aA (fv 8) (aA (fv 9) aG))))) (aA (bO (aA fS (aA (bN (fv 15) fI) aG))) aG)))))))))))))))))))))))
end
theorem JV {K : aD} (h : ex K = true) (i : Nat) {b : Bool} (e : (exs K)[i]? = some b := by rfl) : b = true := bV.mp h b (bS e)
theorem ob_eq (s : DH) : ob s = hk.obs s.abs := Ry (HandSHeadRun.getT_eq s)
theorem txt {w : World} {K : aD} {h : Heap} {mg : Str -> Option Value} (X : K.In h) (G : h.Ns mainGlobals mg) (c : He.SaysT fa fn ts w K /\ ex K = true) : Txt w K mg where
  n_isinstance := He.free_ok X G (c.1.d.fact 0 (f := .free "isinstance") rfl)
  n_int := He.free_ok X G (c.1.d.fact 1 (f := .free "int") rfl)
  n_bool := He.free_ok X G (c.1.d.fact 2 (f := .free "bool") rfl)
  n_tuple := He.free_ok X G (c.1.d.fact 3 (f := .free "tuple") rfl)
  n_len := He.free_ok X G (c.1.d.fact 4 (f := .free "len") rfl)
  n_all := He.free_ok X G (c.1.d.fact 5 (f := .free "all") rfl)
  n_str := He.free_ok X G (c.1.d.fact 6 (f := .free "str") rfl)
  lim := VO (JV c.2 0) (Nt c.1 0 (t := KN) rfl)
  k_LIMITS := c.1.tab 0 (t := KN) rfl
  g_LIMITS := He.glo_ok X G (c.1.d.fact 7 (f := .glo "LIMITS") rfl)
  n_range := He.free_ok X G (c.1.d.fact 8 (f := .free "range") rfl)
  i_DEEPEST := He.int_ok X G (c.1.d.fact 9 (f := .int "DEEPEST" 3) rfl)
  n_list := He.free_ok X G (c.1.d.fact 10 (f := .free "list") rfl)
  n_enumerate := He.free_ok X G (c.1.d.fact 11 (f := .free "enumerate") rfl)
  i_MOST_IN_LIST := He.int_ok X G (c.1.d.fact 12 (f := .int "MOST_IN_LIST" 8) rfl)
  i_MOST_IN_PROCEDURE := He.int_ok X G (c.1.d.fact 13 (f := .int "MOST_IN_PROCEDURE" 12) rfl)
  i_MOST_PROCEDURES := He.int_ok X G (c.1.d.fact 14 (f := .int "MOST_PROCEDURES" 3) rfl)
  xa_NoBook := O2 (JV c.2 1) (He.glo_ok X G (c.1.d.fact 15 (f := .glo "NoBook") rfl))
  fx_NoBook := c.1.d.def_ 0 (d := Ea) rfl
  c_Book := He.cls_ok (c.1.d.fact 16 (f := .cls "Book") rfl)
  a_Book_own := He.noat_ok (c.1.d.fact 17 (f := .noat "Book" "own") rfl)
  x_NoCommand := K1 (JV c.2 2) (He.glo_ok X G (c.1.d.fact 18 (f := .glo "NoCommand") rfl))
  n_zip := He.free_ok X G (c.1.d.fact 19 (f := .free "zip") rfl)
  c_Execution := He.cls_ok (c.1.d.fact 20 (f := .cls "Execution") rfl)
  a_Execution_own := He.noat_ok (c.1.d.fact 21 (f := .noat "Execution" "own") rfl)
  a_Execution_bits := He.noat_ok (c.1.d.fact 22 (f := .noat "Execution" "bits") rfl)
  a_Execution_taken := He.noat_ok (c.1.d.fact 23 (f := .noat "Execution" "taken") rfl)
  a_Execution_deeds := He.noat_ok (c.1.d.fact 24 (f := .noat "Execution" "deeds") rfl)
  a_Execution_stack := He.noat_ok (c.1.d.fact 25 (f := .noat "Execution" "stack") rfl)
  a_Execution_active := He.noat_ok (c.1.d.fact 26 (f := .noat "Execution" "active") rfl)
  a_Execution_ended := He.noat_ok (c.1.d.fact 27 (f := .noat "Execution" "ended") rfl)
  xa_NoRun := O2 (JV c.2 3) (He.glo_ok X G (c.1.d.fact 28 (f := .glo "NoRun") rfl))
  fx_NoRun := c.1.d.def_ 1 (d := GE) rfl
  x_NoProcedure := K1 (JV c.2 4) (He.glo_ok X G (c.1.d.fact 29 (f := .glo "NoProcedure") rfl))
  T_Execution := ⟨He.cls_ok (c.1.d.fact 30 (f := .cls "Execution") rfl), He.mkr_ok (c.1.d.fact 31 (f := .mkr "Execution") rfl), He.glo_ok X G (c.1.d.fact 32 (f := .glo "Execution") rfl)⟩
  x_NoPen := K1 (JV c.2 5) (He.glo_ok X G (c.1.d.fact 33 (f := .glo "NoPen") rfl))
  xm := Uk (JV c.2 6)
  g_NoPen := He.glo_ok X G (c.1.d.fact 34 (f := .glo "NoPen") rfl)
  g_NoProcedure := He.glo_ok X G (c.1.d.fact 35 (f := .glo "NoProcedure") rfl)
  ns := VB (JV c.2 7)
  T_Book := ⟨He.cls_ok (c.1.d.fact 36 (f := .cls "Book") rfl), He.mkr_ok (c.1.d.fact 37 (f := .mkr "Book") rfl), He.glo_ok X G (c.1.d.fact 38 (f := .glo "Book") rfl)⟩
  G_is_integer := He.glo_ok X G (c.1.d.fact 39 (f := .glo "is_integer") rfl)
  f_is_integer := c.1.d.def_ 2 (d := zM) rfl
  G_is_bit := He.glo_ok X G (c.1.d.fact 40 (f := .glo "is_bit") rfl)
  f_is_bit := c.1.d.def_ 3 (d := GG) rfl
  G_is_pen := He.glo_ok X G (c.1.d.fact 41 (f := .glo "is_pen") rfl)
  f_is_pen := c.1.d.def_ 4 (d := GF) rfl
  G_is_command := He.glo_ok X G (c.1.d.fact 42 (f := .glo "is_command") rfl)
  f_is_command := c.1.d.def_ 5 (d := zN) rfl
  G_executed := He.glo_ok X G (c.1.d.fact 43 (f := .glo "executed") rfl)
  f_executed := c.1.d.def_ 6 (d := Ca) rfl
  G_blocks_of := He.glo_ok X G (c.1.d.fact 44 (f := .glo "blocks_of") rfl)
  f_blocks_of := c.1.d.def_ 7 (d := B6) rfl
  G_with_blocks := He.glo_ok X G (c.1.d.fact 45 (f := .glo "with_blocks") rfl)
  f_with_blocks := c.1.d.def_ 8 (d := yA) rfl
  G_copied_block := He.glo_ok X G (c.1.d.fact 46 (f := .glo "copied_block") rfl)
  f_copied_block := c.1.d.def_ 9 (d := wK) rfl
  G_copied_statement := He.glo_ok X G (c.1.d.fact 47 (f := .glo "copied_statement") rfl)
  f_copied_statement := c.1.d.def_ 10 (d := qD) rfl
  G_well_formed := He.glo_ok X G (c.1.d.fact 48 (f := .glo "well_formed") rfl)
  f_well_formed := c.1.d.def_ 11 (d := yB) rfl
  G_first_fault := He.glo_ok X G (c.1.d.fact 49 (f := .glo "first_fault") rfl)
  f_first_fault := c.1.d.def_ 12 (d := yE) rfl
  M_Book_init := He.meth_ok (c.1.d.fact 50 (f := .meth "Book" "__init__") rfl)
  f_Book_init := c.1.d.def_ 13 (d := BB) rfl
  M_Book_len := He.meth_ok (c.1.d.fact 51 (f := .meth "Book" "__len__") rfl)
  f_Book_len := c.1.d.def_ 14 (d := Cf) rfl
  M_Book_bodies := He.meth_ok (c.1.d.fact 52 (f := .meth "Book" "bodies") rfl)
  f_Book_bodies := c.1.d.def_ 15 (d := yG) rfl
  G_has_procedure := He.glo_ok X G (c.1.d.fact 53 (f := .glo "has_procedure") rfl)
  f_has_procedure := c.1.d.def_ 16 (d := uL) rfl
  G_identity := He.glo_ok X G (c.1.d.fact 54 (f := .glo "identity") rfl)
  f_identity := c.1.d.def_ 17 (d := CZ) rfl
  G_matrix_of := He.glo_ok X G (c.1.d.fact 55 (f := .glo "matrix_of") rfl)
  f_matrix_of := c.1.d.def_ 18 (d := B5) rfl
  G_composed := He.glo_ok X G (c.1.d.fact 56 (f := .glo "composed") rfl)
  f_composed := c.1.d.def_ 19 (d := Cb) rfl
  G_kept_matrix := He.glo_ok X G (c.1.d.fact 57 (f := .glo "kept_matrix") rfl)
  f_kept_matrix := c.1.d.def_ 20 (d := yD) rfl
  M_Execution_init := He.meth_ok (c.1.d.fact 58 (f := .meth "Execution" "__init__") rfl)
  f_Execution_init := c.1.d.def_ 21 (d := tA) rfl
  M_Execution_take := He.meth_ok (c.1.d.fact 59 (f := .meth "Execution" "take") rfl)
  f_Execution_take := c.1.d.def_ 22 (d := sY) rfl
  M_Execution_enter := He.meth_ok (c.1.d.fact 60 (f := .meth "Execution" "enter") rfl)
  f_Execution_enter := c.1.d.def_ 23 (d := sH) rfl
  M_Execution_leave := He.meth_ok (c.1.d.fact 61 (f := .meth "Execution" "leave") rfl)
  f_Execution_leave := c.1.d.def_ 24 (d := sG) rfl
  M_Execution_unwind := He.meth_ok (c.1.d.fact 62 (f := .meth "Execution" "unwind") rfl)
  f_Execution_unwind := c.1.d.def_ 25 (d := qE) rfl
  M_Execution_begin := He.meth_ok (c.1.d.fact 63 (f := .meth "Execution" "begin") rfl)
  f_Execution_begin := c.1.d.def_ 26 (d := sJ) rfl
  M_Execution_step := He.meth_ok (c.1.d.fact 64 (f := .meth "Execution" "step") rfl)
  f_Execution_step := c.1.d.def_ 27 (d := sZ) rfl
  G_executed_run := He.glo_ok X G (c.1.d.fact 65 (f := .glo "executed_run") rfl)
  f_executed_run := c.1.d.def_ 28 (d := wJ) rfl
  G_pens_behind := He.glo_ok X G (c.1.d.fact 66 (f := .glo "pens_behind") rfl)
  f_pens_behind := c.1.d.def_ 29 (d := yC) rfl
  G_ran := He.glo_ok X G (c.1.d.fact 67 (f := .glo "ran") rfl)
  f_ran := c.1.d.def_ 30 (d := Qc) rfl
  G_run_matrix := He.glo_ok X G (c.1.d.fact 68 (f := .glo "run_matrix") rfl)
  f_run_matrix := c.1.d.def_ 31 (d := zL) rfl
  G_L_pool := He.glo_ok X G (c.1.d.fact 69 (f := .glo "_law_pool") rfl)
  f_L_pool := c.1.d.def_ 32 (d := GN) rfl
  G_L_draw := He.glo_ok X G (c.1.d.fact 70 (f := .glo "_law_draw") rfl)
  f_L_draw := c.1.d.def_ 33 (d := GQ) rfl
  G_L_number := He.glo_ok X G (c.1.d.fact 71 (f := .glo "_law_number") rfl)
  f_L_number := c.1.d.def_ 34 (d := Cc) rfl
  G_L_pen := He.glo_ok X G (c.1.d.fact 72 (f := .glo "_law_pen") rfl)
  f_L_pen := c.1.d.def_ 35 (d := Je) rfl
  G_L_move := He.glo_ok X G (c.1.d.fact 73 (f := .glo "_law_move") rfl)
  f_L_move := c.1.d.def_ 36 (d := GP) rfl
  G_L_bit := He.glo_ok X G (c.1.d.fact 74 (f := .glo "_law_bit") rfl)
  f_L_bit := c.1.d.def_ 37 (d := Jg) rfl
  G_L_task := He.glo_ok X G (c.1.d.fact 75 (f := .glo "_law_task") rfl)
  f_L_task := c.1.d.def_ 38 (d := GL) rfl
  G_L_run := He.glo_ok X G (c.1.d.fact 76 (f := .glo "_law_run") rfl)
  f_L_run := c.1.d.def_ 39 (d := Jd) rfl
  G_L_bits := He.glo_ok X G (c.1.d.fact 77 (f := .glo "_law_bits") rfl)
  f_L_bits := c.1.d.def_ 40 (d := GU) rfl
  G_L_pens := He.glo_ok X G (c.1.d.fact 78 (f := .glo "_law_pens") rfl)
  f_L_pens := c.1.d.def_ 41 (d := GO) rfl
  G_L_any_command := He.glo_ok X G (c.1.d.fact 79 (f := .glo "_law_any_command") rfl)
  f_L_any_command := c.1.d.def_ 42 (d := uM) rfl
  G_L_odd := He.glo_ok X G (c.1.d.fact 80 (f := .glo "_law_odd") rfl)
  f_L_odd := c.1.d.def_ 43 (d := Jf) rfl
  G_L_bad_pen := He.glo_ok X G (c.1.d.fact 81 (f := .glo "_law_bad_pen") rfl)
  f_L_bad_pen := c.1.d.def_ 44 (d := BA) rfl
  G_L_blocks := He.glo_ok X G (c.1.d.fact 82 (f := .glo "_law_blocks") rfl)
  f_L_blocks := c.1.d.def_ 45 (d := Ce) rfl
  G_L_with := He.glo_ok X G (c.1.d.fact 83 (f := .glo "_law_with") rfl)
  f_L_with := c.1.d.def_ 46 (d := GH) rfl
  G_L_copy := He.glo_ok X G (c.1.d.fact 84 (f := .glo "_law_copy") rfl)
  f_L_copy := c.1.d.def_ 47 (d := GT) rfl
  G_L_copies := He.glo_ok X G (c.1.d.fact 85 (f := .glo "_law_copies") rfl)
  f_L_copies := c.1.d.def_ 48 (d := Cd) rfl
  G_L_same := He.glo_ok X G (c.1.d.fact 86 (f := .glo "_law_same") rfl)
  f_L_same := c.1.d.def_ 49 (d := GM) rfl
  G_L_steered := He.glo_ok X G (c.1.d.fact 87 (f := .glo "_law_steered") rfl)
  f_L_steered := c.1.d.def_ 50 (d := B7) rfl
  G_L_tiny := He.glo_ok X G (c.1.d.fact 88 (f := .glo "_law_tiny") rfl)
  f_L_tiny := c.1.d.def_ 51 (d := GJ) rfl
  G_L_tiny_block := He.glo_ok X G (c.1.d.fact 89 (f := .glo "_law_tiny_block") rfl)
  f_L_tiny_block := c.1.d.def_ 52 (d := wL) rfl
  G_L_tiny_book := He.glo_ok X G (c.1.d.fact 90 (f := .glo "_law_tiny_book") rfl)
  f_L_tiny_book := c.1.d.def_ 53 (d := yF) rfl
  G_L_ran_3 := He.glo_ok X G (c.1.d.fact 91 (f := .glo "_law_ran") rfl)
  f_L_ran_3 := c.1.d.def_ 54 (d := Ed) rfl
  G_trace_T := He.glo_ok X G (c.1.d.fact 92 (f := .glo "trace") rfl)
  f_trace_T := c.1.d.def_ 55 (d := Eb) rfl
  G_L_traced_2 := He.glo_ok X G (c.1.d.fact 93 (f := .glo "_law_traced") rfl)
  f_L_traced_2 := c.1.d.def_ 56 (d := zO) rfl
  G_L_matrix_told_2 := He.glo_ok X G (c.1.d.fact 94 (f := .glo "_law_matrix_told") rfl)
  f_L_matrix_told_2 := c.1.d.def_ 57 (d := sF) rfl
  G_L_right_4 := He.glo_ok X G (c.1.d.fact 95 (f := .glo "_law_right") rfl)
  f_L_right_4 := c.1.d.def_ 58 (d := B9) rfl
  G_law_k22 := He.glo_ok X G (c.1.d.fact 96 (f := .glo "law") rfl)
  f_law_k22 := c.1.d.def_ 59 (d := Ec) rfl
end PHZ
namespace PH
open PySem PySem.Spec PyProof.Rows L2
theorem atI0 {α : Type} {x : α} {r : List α} : atI (x :: r) 0 = some x := hY (n := 0) rfl
theorem atI1 {α : Type} {x y : α} {r : List α} : atI (x :: y :: r) 1 = some y := hY (n := 1) rfl
theorem atI2 {α : Type} {x y z : α} {r : List α} : atI (x :: y :: z :: r) 2 = some z := hY (n := 2) rfl
theorem atI3 {α : Type} {x y z w : α} {r : List α} : atI (x :: y :: z :: w :: r) 3 = some w := hY (n := 3) rfl
theorem cO {x : D} {r : List D} {S : aO} : cH (.dat (.tup (x :: r))) (.dat (.int 0)) S = .ok (.dat x) S := G5 atI0
theorem eZ {x y : D} {r : List D} {S : aO} : cH (.dat (.tup (x :: y :: r))) (.dat (.int 1)) S = .ok (.dat y) S := G5 atI1
theorem lL {x y z : D} {r : List D} {S : aO} : cH (.dat (.tup (x :: y :: z :: r))) (.dat (.int 2)) S = .ok (.dat z) S := G5 atI2
theorem KZ {x y z w : D} {r : List D} {S : aO} : cH (.dat (.tup (x :: y :: z :: w :: r))) (.dat (.int 3)) S = .ok (.dat w) S := G5 atI3
theorem C1 {x : D} {r : List D} {S : aO} : cH (.dat (.lst (x :: r))) (.dat (.int 0)) S = .ok (.dat x) S := wH atI0
theorem FB {x y : D} {r : List D} {S : aO} : cH (.dat (.lst (x :: y :: r))) (.dat (.int 1)) S = .ok (.dat y) S := wH atI1
def PoolAt (S : aO) (p : Nat) (ks : List Int) : Prop := S[p]? = some (.lst (ks.map D.int)) /\ 2 <= ks.length
theorem Pq {S : aO} {p : Nat} {ks : List Int} {k : Int} {n : Nat} {u : Int} (h : S[p]? = some (.lst (ks.map D.int))) (hk : k = (n : Int)) (hu : ks[n]? = some u) : Pr (.cel p) k S = some (.int u) := by
 subst hk;simp only [Pr, h];rw [if_pos (by omega)]
 simp [hu]
theorem IF {S : aO} {p : Nat} {ks : List Int} {k : Int} {n : Nat} {u : Int} (h : S[p]? = some (.lst (ks.map D.int))) (hk : k = (n : Int)) (hu : n < ks.length) : setC (.cel p) k (.int u) S = some (S.set p (.lst ((ks.set n u).map D.int))) := by
 subst hk;simp only [setC, h];rw [if_pos ⟨by omega, by simpa using hu⟩]
 simp [List.map_set]
theorem Ej {g : Int -> Int -> Int} {o i e : FE} {ρ : Ev} {S : aO} {p n : Nat} {k u w : Int} {ks : List Int} (ho : o ρ S = .ok (.cel p) S) (hi : i ρ S = .ok (.dat (.int k)) S) (he : e ρ S = .ok (.dat (.int w)) S) (h : S[p]? = some (.lst (ks.map D.int))) (hk : k = (n : Int)) (hu : ks[n]? = some u) :
  sU g o i e ρ S = .next ρ (S.set p (.lst ((ks.set n (g u w)).map D.int))) := by
 simp only [sU, ho, hi, he, nH, Pq h hk hu, IF h hk (aH.mp hu).1]
theorem sX {S : aO} {p : Nat} {ks : List Int} {k : Int} {n : Nat} {u : Int} (h : S[p]? = some (.lst (ks.map D.int))) (hk : k = (n : Int)) (hu : ks[n]? = some u) : cH (.cel p) (.dat (.int k)) S = .ok (.dat (.int u)) S :=
 QG h (by rw [hY hk]; simp [hu])
theorem Bi {S : aO} {p : Nat} {c d : Cell} (h : S[p]? = some c) : (S.set p d)[p]? = some d := by
 rw [aT, if_pos rfl, if_pos (aH.mp h).1]
theorem pw18 {S : aO} : JP (.dat (.int 10)) (.dat (.int 18)) S = .ok (.dat (.int 1000000000000000000)) S := rfl
theorem dw1 (a : Int) : IntMulOk 7919 a := mulL (by decide) (by decide)
theorem dw2 (a : Int) : IntMulOk a 48271 := mulR (by decide) (by decide)
theorem dw3 (a : Int) : CDiv a 1009 := ⟨by decide, by decide⟩
theorem dw4 (a : Int) : CDiv a 2003 := ⟨by decide, by decide⟩
theorem dw5 (a : Int) : CDiv a 11 := ⟨by decide, by decide⟩
theorem dw6 (a b : Int) : IntMulOk (a % 2147483647) b := by
 have h1 : 0 <= a % 2147483647 := iD _ (by decide)
 have h2 : a % 2147483647 < 2147483647 := jZ _ (by decide)
 generalize a % 2147483647 = x at h1 h2;exact mulL (by omega) (by omega)
theorem dw7 : (0 : Int) < 2147483647 := by decide
theorem dw8 : (0 : Int) < 2147483399 := by decide
theorem dw9 {a k : Int} {ks : List Int} {S S1 : aO} {p : Nat} {u : Int} (h0 : 0 < k) (hS1 : S.set p (.lst ((ks.set 0 (u + 1)).map D.int)) = S1) : ∃ (d : Int) (ks' : List Int), cC (Out.ret (.dat (.int (a % k))) S1) = .ok (.dat (.int d)) (S.set p (.lst (ks'.map D.int))) /\ 0 <= d /\ d < k /\ ks'.length = ks.length :=
 ⟨a % k, ks.set 0 (u + 1), by rw [hS1]; rfl, iD _ (by omega), jZ _ h0, by simp⟩
theorem gA {S : aO} {p : Nat} {ks : List Int} {k : Int} (hP : PoolAt S p ks) (h0 : 0 < k) (h1 : k < 1073741824) :
  ∃ (d : Int) (ks' : List Int), cS [.cel p, .dat (.int k)] S = .ok (.dat (.int d)) (S.set p (.lst (ks'.map D.int))) /\ 0 <= d /\ d < k /\ ks'.length = ks.length := by
 obtain ⟨hp, hl⟩ := hP;obtain ⟨u, hu⟩ : ∃ u, ks[0]? = some u := ⟨ks[0], by simp [show 0 < ks.length by omega]⟩
 have hp1 := Bi (d := .lst ((ks.set 0 (u + 1)).map D.int)) hp;have hn : (1 : Int) + (u + 1) % ((ks.length : Int) - 1) = ((1 + ((u + 1) % ((ks.length : Int) - 1)).toNat : Nat) : Int) := by
  have := iD (u + 1) (show ((ks.length : Int) - 1) ≠ 0 by omega)
  omega
 have hlt : 1 + ((u + 1) % ((ks.length : Int) - 1)).toNat < ks.length := by
  have := jZ (u + 1) (show 0 < ((ks.length : Int) - 1) by omega)
  have := iD (u + 1) (show ((ks.length : Int) - 1) ≠ 0 by omega)
  omega
 generalize hj : 1 + ((u + 1) % ((ks.length : Int) - 1)).toNat = j at hn hlt;obtain ⟨c, hc⟩ : ∃ c, (ks.set 0 (u + 1))[j]? = some c := ⟨(ks.set 0 (u + 1))[j]'(by simpa using hlt), by simp [hlt]⟩
 have h00 : (ks.set 0 (u + 1))[0]? = some (u + 1) := by
  rw [aT, if_pos rfl, if_pos (by omega)]
 have e1 : (sU (fun x y => x + y) (aC 0) (mC (.int 0)) (mC (.int 1))) [some (.cel p), some (.dat (.int k)), none, none, none] S = .next [some (.cel p), some (.dat (.int k)), none, none, none] (S.set p (.lst ((ks.set 0 (u + 1)).map D.int))) := Ej rfl rfl rfl hp rfl hu
 have eE : cS [.cel p, .dat (.int k)] S = cC (BM [some (.cel p), some (.dat (.int k)), none, none, none] S) := rfl;rw [eE];unfold BM;generalize hS1 : S.set p (.lst ((ks.set 0 (u + 1)).map D.int)) = S1 at e1 hp1;simp! [e1, sX (k := 0) (n := 0) hp1 rfl h00, rW hp1, aP, List.length_set, rV (show (0 : Int) < (ks.length : Int) - 1 by omega), hn, sX hp1 rfl hc, pw18]
 by_cases hbig : (1000000000000000000 : Int) <= c
 ·rw [decide_eq_true hbig]
  simp! [if_true];have e2 : wG (aU CY (aC 3) (aC 1)) (aC 0) (aC 2) [some (.cel p), some (.dat (.int k)), some (.dat (.int (j : Int))), some (.dat (.int c)), none] S1 = .next [some (.cel p), some (.dat (.int k)), some (.dat (.int (j : Int))), some (.dat (.int c)), none] (S1.set p (.lst (((ks.set 0 (u + 1)).set j (c / k)).map D.int))) := by
   unfold wG;simp! [D8 (show CDiv c k from ⟨h0, h1⟩), IF (u := c / k) hp1 (rfl : (j : Int) = (j : Int)) (by simpa using hlt)]
  simp! [e2, rV h0];refine ⟨c % k, (ks.set 0 (u + 1)).set j (c / k), ?_, iD c (by omega), jZ c h0, by simp⟩
  rw [<- hS1, gI];rfl
 ·rw [decide_eq_false hbig]
  simp! [sX (k := 0) (n := 0) hp1 rfl h00, oE (dw1 _), oE (dw2 _), rV dw7, rV dw8, D8 (dw3 _), D8 (dw4 _), D8 (dw5 _), oE (dw6 _ _), rV h0];exact dw9 h0 hS1
inductive Cmd where
 | go (k : Int) | turn (n : Int) | mirror | scale (k : Int) | aim (a b : Int) | place (a b : Int) | mark | ret | exch
def Cmd.d : Cmd -> D
 | .go k => .tup [.str "go", .int k]
 | .turn k => .tup [.str "turn", .int k]
 | .mirror => .tup [.str "mirror"]
 | .scale k => .tup [.str "scale", .int k]
 | .aim a b => .tup [.str "aim", .int a, .int b]
 | .place a b => .tup [.str "place", .int a, .int b]
 | .mark => .tup [.str "mark"]
 | .ret => .tup [.str "return"]
 | .exch => .tup [.str "exchange"]
def Cmd.Ok : Cmd -> Prop
 | .go k => -9 <= k /\ k <= 9
 | .turn k => 1 <= k /\ k <= 3
 | .scale k => -3 <= k /\ k <= 3
 | .aim a b => (-9 <= a /\ a <= 9) /\ -9 <= b /\ b <= 9
 | .place a b => (-9 <= a /\ a <= 9) /\ -9 <= b /\ b <= 9
 | _ => True
abbrev PL (ks : List Int) : Cell := .lst (ks.map D.int)
theorem PoolAt.next {S : aO} {p : Nat} {ks ks' : List Int} (h : PoolAt S p ks) (l : ks'.length = ks.length) : PoolAt (S.set p (PL ks')) p ks' := ⟨Bi h.1, by rw [l]; exact h.2⟩
theorem L0 {S : aO} {p : Nat} {ks : List Int} (hP : PoolAt S p ks) : ∃ (c : Cmd) (ks' : List Int), jI [.cel p] S = .ok (.dat c.d) (S.set p (PL ks')) /\ c.Ok /\ ks'.length = ks.length := by
 obtain ⟨d, k1, e1, h0, h1, l1⟩ := gA hP (k := 9) (by decide) (by decide)
 have P1 := hP.next l1;have eE : jI [.cel p] S = cC (lP [some (.cel p), none] S) := rfl;rw [eE];unfold lP;simp! [e1];obtain ⟨d2, k2, e2, h2, h3, l2⟩ := gA P1 (k := 19) (by decide) (by decide)
 obtain ⟨d3, k3, e3, h4, h5, l3⟩ := gA P1 (k := 3) (by decide) (by decide)
 obtain ⟨d4, k4, e4, h6, h7, l4⟩ := gA P1 (k := 7) (by decide) (by decide)
 obtain ⟨d5, k5, e5, h8, h9, l5⟩ := gA (P1.next l2) (k := 19) (by decide) (by decide)
 simp only [gI] at e2 e3 e4 e5;rcases (by omega : d = 0 \/ d = 1 \/ d = 2 \/ d = 3 \/ d = 4 \/ d = 5 \/ d = 6 \/ d = 7 \/ d = 8) with rfl | rfl | rfl | rfl | rfl | rfl | rfl | rfl | rfl
 ·simp! [e2]
  exact ⟨.go (d2 - 9), k2, rfl, ⟨by omega, by omega⟩, by omega⟩
 ·simp! [e3]
  exact ⟨.turn (1 + d3), k3, rfl, ⟨by omega, by omega⟩, by omega⟩
 ·simp! [e4]
  exact ⟨.scale (d4 - 3), k4, rfl, ⟨by omega, by omega⟩, by omega⟩
 ·simp! [cO, e2, e5]
  exact ⟨.aim (d2 - 9) (d5 - 9), k5, rfl, ⟨⟨by omega, by omega⟩, by omega, by omega⟩, by omega⟩
 ·simp! [eZ, e2, e5]
  exact ⟨.place (d2 - 9) (d5 - 9), k5, rfl, ⟨⟨by omega, by omega⟩, by omega, by omega⟩, by omega⟩
 ·simp! [cO]
  exact ⟨.mirror, k1, rfl, trivial, l1⟩
 ·simp! [eZ]
  exact ⟨.mark, k1, rfl, trivial, l1⟩
 ·simp! [lL]
  exact ⟨.ret, k1, rfl, trivial, l1⟩
 ·simp! [KZ]
  exact ⟨.exch, k1, rfl, trivial, l1⟩
inductive Stt where
 | cmd (c : Cmd) | fin (w : Int) | keep (b : List Stt) | again (b : List Stt) | either (a b : List Stt) | call (g : Int) (s : Bool) (a b : List Stt) | bad | odd (x : D)
mutual
def Stt.d : Stt -> D
 | .cmd c => c.d
 | .fin w => .tup [.str "end", .int w]
 | .keep b => .tup [.str "keep", .lst (bR b)]
 | .again b => .tup [.str "again", .lst (bR b)]
 | .either a b => .tup [.str "either", .lst (bR a), .lst (bR b)]
 | .call g s a b => .tup [.str "call", .int g, .bl s, .lst [.lst (bR a), .lst (bR b)]]
 | .bad => .tup [.str "bad"]
 | .odd x => x
def bR : List Stt -> List D
 | [] => []
 | s :: r => s.d :: bR r
end
mutual
/-- of a depth of n at most; calls of the first many -/
def Stt.Ok (many : Int) : Stt -> Nat -> Prop
 | .cmd c, _ => c.Ok
 | .fin w, _ => 0 <= w /\ w <= 1
 | .keep b, n => 0 < n /\ OkL many b (n - 1)
 | .again b, n => 0 < n /\ OkL many b (n - 1)
 | .either a b, n => 0 < n /\ OkL many a (n - 1) /\ OkL many b (n - 1)
 | .call g _ a b, n => (0 < n /\ 0 <= g /\ g < many) /\ OkL many a (n - 1) /\ OkL many b (n - 1)
 | .bad, _ => True
 | .odd _, _ => False
def OkL (many : Int) : List Stt -> Nat -> Prop
 | [], _ => True
 | s :: r, n => (s.Ok many n /\ r.length < 10) /\ OkL many r n
end
def WfNo (many : Int) (x : D) : Prop := ∀ (lv : Int) (S : aO), lJ [.dat x, .dat (.int lv), .dat (.int many)] S = .ok (.dat (.bl false)) S
mutual
/-- the same; values that are no statements may stand in it -/
def Stt.Okx (many : Int) : Stt -> Nat -> Prop
 | .cmd c, _ => c.Ok
 | .fin w, _ => 0 <= w /\ w <= 1
 | .keep b, n => 0 < n /\ Co many b (n - 1)
 | .again b, n => 0 < n /\ Co many b (n - 1)
 | .either a b, n => 0 < n /\ Co many a (n - 1) /\ Co many b (n - 1)
 | .call g _ a b, n => (0 < n /\ 0 <= g /\ g < many) /\ Co many a (n - 1) /\ Co many b (n - 1)
 | .bad, _ => True
 | .odd x, _ => WfNo many x
def Co (many : Int) : List Stt -> Nat -> Prop
 | [], _ => True
 | s :: r, n => s.Okx many n /\ Co many r n
end
mutual
theorem Stt.Ok.x {many : Int} : ∀ {s : Stt} {n : Nat}, s.Ok many n -> s.Okx many n
 | .cmd c, _, h => h
 | .fin w, _, h => h
 | .keep b, n, h => ⟨h.1, OkL.x h.2⟩
 | .again b, n, h => ⟨h.1, OkL.x h.2⟩
 | .either a b, n, h => ⟨h.1, OkL.x h.2.1, OkL.x h.2.2⟩
 | .call g _ a b, n, h => ⟨h.1, OkL.x h.2.1, OkL.x h.2.2⟩
 | .bad, _, _ => trivial
 | .odd x, _, h => h.elim
theorem OkL.x {many : Int} : ∀ {l : List Stt} {n : Nat}, OkL many l n -> Co many l n
 | [], _, _ => trivial
 | s :: r, n, h => ⟨h.1.1.x, OkL.x h.2⟩
end
def Stt.isOdd : Stt -> Bool
 | .odd _ => true
 | _ => false
theorem Stt.Ok.no {many : Int} {s : Stt} {n : Nat} (h : s.Ok many n) : s.isOdd = false := by
 cases s <;> first | rfl | exact h.elim
theorem fE : ∀ l : List Stt, (bR l).length = l.length
 | [] => rfl
 | s :: r => by simp [bR, fE r]
theorem JZ : ∀ l m : List Stt, bR (l ++ m) = bR l ++ bR m
 | [], m => rfl
 | s :: r, m => by simp [bR, JZ r m]
theorem OkL.len {many : Int} : ∀ {l : List Stt} {n : Nat}, OkL many l n -> l.length <= 10
 | [], _, _ => by simp
 | s :: r, n, h => by have := h.1.2; simp; omega
def LS (S : aO) : Prop := ∀ c ∈ S, ∀ n, c.below n = true
theorem LS.app {S : aO} {ds : List D} (h : LS S) : LS (S ++ [.lst ds]) := fun c hc n => by
 rcases dD.mp hc with hc | hc
 ·exact h c hc n
 ·rw [bI.mp hc]; rfl
theorem LS.set {S : aO} {ds : List D} {k : Nat} (h : LS S) : LS (S.set k (.lst ds)) := fun c hc n => by
 rcases lR hc with hc | hc
 ·exact h c hc n
 ·rw [hc]; rfl
theorem LS.take {S : aO} {n m : Nat} (h : LS S) : ((S.take n).all fun c => c.below m) = true := bV.mpr fun c hc => h c (lE hc) m
theorem dZ {i : Int} {S : aO} : eK [.dat (.int i)] S = .ok (.dat (.bl true)) S := by
 rw [show eK [.dat (.int i)] S = cC (qP [some (.dat (.int i))] S) from rfl]
 unfold qP;simp! [if_true];rfl
theorem yV {i : Int} {S : aO} : rL [.dat (.int i)] S = .ok (.dat (.bl (decide (0 <= i) && decide (i <= 1)))) S := by
 rw [show rL [.dat (.int i)] S = cC (uP [some (.dat (.int i))] S) from rfl]
 unfold uP;simp! [dZ]
 by_cases h : 0 <= i
 ·simp! [decide_eq_true h]; rfl
 ·simp! [decide_eq_false h]; rfl
theorem vI {S : aO} : CD (.dat (.str "go")) S = .ok (.dat (.tup [.int 1, .int (-9), .int 9])) S := rfl
theorem vM {S : aO} : iA true (.dat (.str "go")) S = .ok (.dat (.bl false)) S := rfl
theorem nC {S : aO} : CD (.dat (.str "turn")) S = .ok (.dat (.tup [.int 1, .int 1, .int 3])) S := rfl
theorem nF {S : aO} : iA true (.dat (.str "turn")) S = .ok (.dat (.bl false)) S := rfl
theorem iX {S : aO} : CD (.dat (.str "mirror")) S = .ok (.dat (.tup [.int 0, .int 0, .int 0])) S := rfl
theorem iZ {S : aO} : iA true (.dat (.str "mirror")) S = .ok (.dat (.bl false)) S := rfl
theorem kL {S : aO} : CD (.dat (.str "scale")) S = .ok (.dat (.tup [.int 1, .int (-3), .int 3])) S := rfl
theorem kN {S : aO} : iA true (.dat (.str "scale")) S = .ok (.dat (.bl false)) S := rfl
theorem qK {S : aO} : CD (.dat (.str "aim")) S = .ok (.dat (.tup [.int 2, .int (-9), .int 9])) S := rfl
theorem qL {S : aO} : iA true (.dat (.str "aim")) S = .ok (.dat (.bl false)) S := rfl
theorem kM {S : aO} : CD (.dat (.str "place")) S = .ok (.dat (.tup [.int 2, .int (-9), .int 9])) S := rfl
theorem kO {S : aO} : iA true (.dat (.str "place")) S = .ok (.dat (.bl false)) S := rfl
theorem nD {S : aO} : CD (.dat (.str "mark")) S = .ok (.dat (.tup [.int 0, .int 0, .int 0])) S := rfl
theorem nG {S : aO} : iA true (.dat (.str "mark")) S = .ok (.dat (.bl false)) S := rfl
theorem iW {S : aO} : CD (.dat (.str "return")) S = .ok (.dat (.tup [.int 0, .int 0, .int 0])) S := rfl
theorem iY {S : aO} : iA true (.dat (.str "return")) S = .ok (.dat (.bl false)) S := rfl
theorem fX {S : aO} : CD (.dat (.str "exchange")) S = .ok (.dat (.tup [.int 0, .int 0, .int 0])) S := rfl
theorem fY {S : aO} : iA true (.dat (.str "exchange")) S = .ok (.dat (.bl false)) S := rfl
theorem Lv {S : aO} : iA true (.dat (.str "end")) S = .ok (.dat (.bl true)) S := rfl
theorem EJ {S : aO} : iA true (.dat (.str "keep")) S = .ok (.dat (.bl true)) S := rfl
theorem C3 {S : aO} : iA true (.dat (.str "again")) S = .ok (.dat (.bl true)) S := rfl
theorem vN {S : aO} : iA true (.dat (.str "either")) S = .ok (.dat (.bl true)) S := rfl
theorem Aq {S : aO} : iA true (.dat (.str "call")) S = .ok (.dat (.bl true)) S := rfl
theorem SV {S : aO} : iA true (.dat (.str "bad")) S = .ok (.dat (.bl true)) S := rfl
theorem A5 {x : D} {r : List D} : cutD (x :: r) (some 1) none = r := by
 unfold cutD;rw [HT.sIx_none, show ((1 : Int)) = ((1 : Nat) : Int) from rfl, HT.sIx_nat]
 simp
theorem all_nil {S : aO} : EU (.dat (.lst [])) S = .ok (.dat (.bl true)) S := rfl
theorem Jl {a : Bool} {S : aO} : EU (.dat (.lst [.bl a])) S = .ok (.dat (.bl a)) S := by cases a <;> rfl
theorem Jk {a b : Bool} {S : aO} : EU (.dat (.lst [.bl a, .bl b])) S = .ok (.dat (.bl (a && b))) S := by cases a <;> cases b <;> rfl
theorem sz {n : Nat} (h : n <= 1000) : n <= sizeLine := by show n <= 16777216; omega
theorem Kb {c : Cmd} {S : aO} (h : c.Ok) : gX [.dat c.d] S = .ok (.dat (.bl true)) S := by
 rw [show gX [.dat c.d] S = cC (kR [some (.dat c.d), none, none, none, none] S) from rfl]
 unfold kR nN;cases c with
 | go k =>
  obtain ⟨h1, h2⟩ := h;simp! [Cmd.d, cO, vI, vM, nC, nF, iX, iZ, kL, kN, qK, qL, kM, kO, nD, nG, iW, iY, fX, fY, A5, zK, iJ, pR, dZ, all_nil, Jl, Jk, decide_eq_true h1, decide_eq_true h2, sz];rfl
 | turn k =>
  obtain ⟨h1, h2⟩ := h;simp! [Cmd.d, cO, vI, vM, nC, nF, iX, iZ, kL, kN, qK, qL, kM, kO, nD, nG, iW, iY, fX, fY, A5, zK, iJ, pR, dZ, all_nil, Jl, Jk, decide_eq_true h1, decide_eq_true h2, sz];rfl
 | mirror => simp! [Cmd.d, cO, vI, vM, nC, nF, iX, iZ, kL, kN, qK, qL, kM, kO, nD, nG, iW, iY, fX, fY, A5, zK, iJ, pR, dZ, all_nil, sz]; rfl
 | scale k =>
  obtain ⟨h1, h2⟩ := h;simp! [Cmd.d, cO, vI, vM, nC, nF, iX, iZ, kL, kN, qK, qL, kM, kO, nD, nG, iW, iY, fX, fY, A5, zK, iJ, pR, dZ, all_nil, Jl, Jk, decide_eq_true h1, decide_eq_true h2, sz];rfl
 | aim a b =>
  obtain ⟨⟨h1, h2⟩, h3, h4⟩ := h;simp! [Cmd.d, cO, vI, vM, nC, nF, iX, iZ, kL, kN, qK, qL, kM, kO, nD, nG, iW, iY, fX, fY, A5, zK, iJ, pR, dZ, all_nil, Jl, Jk, decide_eq_true h1, decide_eq_true h2, decide_eq_true h3, decide_eq_true h4, sz];rfl
 | place a b =>
  obtain ⟨⟨h1, h2⟩, h3, h4⟩ := h;simp! [Cmd.d, cO, vI, vM, nC, nF, iX, iZ, kL, kN, qK, qL, kM, kO, nD, nG, iW, iY, fX, fY, A5, zK, iJ, pR, dZ, all_nil, Jl, Jk, decide_eq_true h1, decide_eq_true h2, decide_eq_true h3, decide_eq_true h4, sz];rfl
 | mark => simp! [Cmd.d, cO, vI, vM, nC, nF, iX, iZ, kL, kN, qK, qL, kM, kO, nD, nG, iW, iY, fX, fY, A5, zK, iJ, pR, dZ, all_nil, sz]; rfl
 | ret => simp! [Cmd.d, cO, vI, vM, nC, nF, iX, iZ, kL, kN, qK, qL, kM, kO, nD, nG, iW, iY, fX, fY, A5, zK, iJ, pR, dZ, all_nil, sz]; rfl
 | exch => simp! [Cmd.d, cO, vI, vM, nC, nF, iX, iZ, kL, kN, qK, qL, kM, kO, nD, nG, iW, iY, fX, fY, A5, zK, iJ, pR, dZ, all_nil, sz]; rfl
theorem kB {z : Str} {r : List D} {S : aO} (h : iA true (.dat (.str z)) S = .ok (.dat (.bl true)) S) : gX [.dat (.tup (.str z :: r))] S = .ok (.dat (.bl false)) S := by
 rw [show gX [.dat (.tup (.str z :: r))] S = cC (kR [some (.dat (.tup (.str z :: r))), none, none, none, none] S) from rfl]
 unfold kR nN;simp! [cO, h];rw [decide_eq_false (by simp; omega)]
 simp! [cO, h];rfl
def Stt.blocks : Stt -> List (List Stt)
 | .keep b => [b]
 | .again b => [b]
 | .either a b => [a, b]
 | .call _ _ a b => [a, b]
 | _ => []
def bls (bs : List (List Stt)) : List D := bs.map fun b => .lst (bR b)
theorem yY {s : Stt} {S : aO} (ho : s.isOdd = false) : mJ [.dat s.d] S = .ok (.dat (.lst (bls s.blocks))) S := by
 rw [show mJ [.dat s.d] S = cC (tF [some (.dat s.d), none] S) from rfl]
 unfold tF;cases s with
 | cmd c => cases c <;> (simp! [Stt.d, Cmd.d, cO]; rfl)
 | fin w => simp! [Stt.d, cO]; rfl
 | keep b => simp! [Stt.d, cO, eZ]; rfl
 | again b => simp! [Stt.d, cO, eZ]; rfl
 | either a b => simp! [Stt.d, cO, eZ, lL]; rfl
 | call g s a b => simp! [Stt.d, cO, eZ, lL, KZ]; rfl
 | bad => simp! [Stt.d, cO]; rfl
 | odd x => cases ho
theorem Hs {s : Stt} {S : aO} (ho : s.isOdd = false) : oM [.dat s.d, .dat (.lst (bls s.blocks))] S = .ok (.dat s.d) S := by
 rw [show oM [.dat s.d, .dat (.lst (bls s.blocks))] S = cC (oS [some (.dat s.d), some (.dat (.lst (bls s.blocks))), none] S) from rfl]
 unfold oS;cases s with
 | cmd c => cases c <;> (simp! [Stt.d, Cmd.d, cO]; rfl)
 | fin w => simp! [Stt.d, cO]; rfl
 | keep b => simp! [Stt.d, Stt.blocks, bls, aN, bL, cO, C1]; rfl
 | again b => simp! [Stt.d, Stt.blocks, bls, aN, bL, cO, C1]; rfl
 | either a b => simp! [Stt.d, Stt.blocks, bls, aN, bL, cO, C1, FB]; rfl
 | call g s a b => simp! [Stt.d, Stt.blocks, bls, aN, bL, cO, eZ, lL]; rfl
 | bad => simp! [Stt.d, cO]; rfl
 | odd x => cases ho
def Stt.wf (lv : Int) : Stt -> Bool
 | .cmd _ => true
 | .fin _ => true
 | .bad => false
 | .odd _ => false
 | _ => !decide (lv = 3)
theorem isb {i : Int} (h : 0 <= i /\ i <= 1) : (decide (0 <= i) && decide (i <= 1)) = true := by simp [h.1, h.2]
theorem Ht {s : Stt} {lv many : Int} {n : Nat} {S : aO} (h : s.Okx many n) : lJ [.dat s.d, .dat (.int lv), .dat (.int many)] S = .ok (.dat (.bl (s.wf lv))) S := by
 by_cases ho : s.isOdd = true
 ·cases s <;> first | (cases ho; done) | exact h lv S
 rw [show lJ [.dat s.d, .dat (.int lv), .dat (.int many)] S = cC (oU [some (.dat s.d), some (.dat (.int lv)), some (.dat (.int many)), none] S) from rfl]
 unfold oU;cases s with
 | cmd c => simp! [Stt.d, Kb h]; rfl
 | fin w => simp! [Stt.d, kB Lv, cO, eZ, yV, isb h]; rfl
 | bad => simp! [Stt.d, kB SV]; rfl
 | odd x => exact absurd rfl ho
 | keep b =>
  by_cases hl : lv = 3
  ·simp! [Stt.d, kB EJ, cO, eZ, decide_eq_true hl]; simp [Stt.wf, hl]; rfl
  ·simp! [Stt.d, kB EJ, cO, eZ, decide_eq_false hl]; simp [Stt.wf, hl]; rfl
 | again b =>
  by_cases hl : lv = 3
  ·simp! [Stt.d, kB C3, cO, eZ, decide_eq_true hl]; simp [Stt.wf, hl]; rfl
  ·simp! [Stt.d, kB C3, cO, eZ, decide_eq_false hl]; simp [Stt.wf, hl]; rfl
 | either a b =>
  by_cases hl : lv = 3
  ·simp! [Stt.d, kB vN, cO, eZ, lL, decide_eq_true hl]; simp [Stt.wf, hl]; rfl
  ·simp! [Stt.d, kB vN, cO, eZ, lL, decide_eq_false hl]; simp [Stt.wf, hl]; rfl
 | call g b a c =>
  obtain ⟨⟨_, h1, h2⟩, _⟩ := h
  by_cases hl : lv = 3
  ·simp! [Stt.d, kB Aq, cO, eZ, lL, KZ, decide_eq_true hl]; simp [Stt.wf, hl]; rfl
  ·simp! [Stt.d, kB Aq, cO, eZ, lL, KZ, decide_eq_false hl, dZ, decide_eq_true h1, decide_eq_true h2, C1, FB]; simp [Stt.wf, hl]; rfl
inductive FR where
 | fault (p : List Int) (m : Int) | okk (m : Int)
abbrev tupI (p : List Int) : D := .tup (p.map D.int)
def FR.d : FR -> D
 | .fault p m => .tup [tupI p, .int m]
 | .okk m => .tup [.non, .int m]
def FR.then (r : FR) (k : Int -> FR) : FR := match r with
 | .fault p m => .fault p m
 | .okk m => k m
mutual
/-- what stands in the blocks of s, at the path here -/
def G8 (lv : Int) (here : List Int) : Stt -> Int -> FR
 | .keep b, met => yW (lv + 1) (here ++ [0]) 0 b met
 | .again b, met => yW (lv + 1) (here ++ [0]) 0 b met
 | .either a b, met => (yW (lv + 1) (here ++ [0]) 0 a met).then (yW (lv + 1) (here ++ [1]) 0 b)
 | .call _ _ a b, met => (yW (lv + 1) (here ++ [0]) 0 a met).then (yW (lv + 1) (here ++ [1]) 0 b)
 | _, met => .okk met
def yW (lv : Int) (path : List Int) (at_ : Int) : List Stt -> Int -> FR
 | [], met => .okk met
 | s :: r, met => if at_ = 8 \/ met = 12 \/ s.wf lv = false then .fault (path ++ [at_]) met else
  (G8 lv (path ++ [at_]) s (met + 1)).then (yW lv path (at_ + 1) r)
end
def Hi (n : Nat) : Prop := ∀ {S : aO} {l : List Stt} {lv many met : Int} {path : List Int} {k : Nat}, Co many l k -> 0 <= lv -> lv <= 3 -> path.length <= 2 * lv.toNat -> 4 - lv.toNat <= n ->
 dQ n [.dat (.lst (bR l)), .dat (.int lv), .dat (.int many), .dat (tupI path), .dat (.int met)] S = .ok (.dat (yW lv path 0 l met).d) S
theorem Jp {cl : Bool} {p : List Int} {i : Int} {S : aO} (h : p.length <= 100) : dY cl (.dat (tupI p)) (.dat (.tup [.int i])) S = .ok (.dat (tupI (p ++ [i]))) S := by
 rw [nL (sz (by simp; omega))]
 simp [tupI]
theorem FR.then_okk {m : Int} {k : Int -> FR} : (FR.okk m).then k = k m := rfl
theorem FR.then_fault {p : List Int} {m : Int} {k : Int -> FR} : (FR.fault p m).then k = .fault p m := rfl
theorem ff_in {n : Nat} (ih : Hi n) {S : aO} {s : Stt} {lv many met : Int} {path : List Int} {k : Nat} {a b c : Option Vl} (h : s.Okx many k) (h0 : 0 <= lv) (h3 : lv < 3) (hp : path.length <= 2 * lv.toNat + 1) (hn : 4 - (lv + 1).toNat <= n) :
  loop (.tp [8, 9]) (gQ (dQ n)) (eC 0 (bls s.blocks)) [a, some (.dat (.int lv)), some (.dat (.int many)), b, some (.dat (.int met)), c, some (.dat s.d), some (.dat (tupI path)), none, none, none] S =
   match G8 lv path s met with
   | .fault p m => .ret (.dat (.tup [tupI p, .int m])) S
   | .okk m => .next [a, some (.dat (.int lv)), some (.dat (.int many)), b, some (.dat (.int m)), c, some (.dat s.d), some (.dat (tupI path)), none, none, none] S := by
 have turn : ∀ {l : List Stt} {met : Int} {i : Int}, Co many l (k - 1) -> dQ n [.dat (.lst (bR l)), .dat (.int (lv + 1)), .dat (.int many), .dat (tupI (path ++ [i])), .dat (.int met)] S = .ok (.dat (yW (lv + 1) (path ++ [i]) 0 l met).d) S := fun hl => ih hl (by omega) (by omega) (by simp; omega) hn
 have one : ∀ {l : List Stt} {r : List D} {met : Int} {i : Int}, Co many l (k - 1) -> loop (.tp [8, 9]) (gQ (dQ n)) (.tup [.int i, .lst (bR l)] :: r) [a, some (.dat (.int lv)), some (.dat (.int many)), b, some (.dat (.int met)), c, some (.dat s.d), some (.dat (tupI path)), none, none, none] S =
   match yW (lv + 1) (path ++ [i]) 0 l met with
   | .fault p m => .ret (.dat (.tup [tupI p, .int m])) S
   | .okk m => loop (.tp [8, 9]) (gQ (dQ n)) r [a, some (.dat (.int lv)), some (.dat (.int many)), b, some (.dat (.int m)), c, some (.dat s.d), some (.dat (tupI path)), none, none, none] S := fun {l r met i} hl => by
  have e := turn (met := met) (i := i) hl;rw [loop];simp only [pR, jQ, aK, bF, if_true, bZ, bD];rw [gQ];simp! [Jp (show path.length <= 100 by omega), e]
  cases q : yW (lv + 1) (path ++ [i]) 0 l met with
  | fault p m => simp! [FR.d, JG]
  | okk m => simp! [FR.d, JG]
 cases s with
 | cmd c => simp only [Stt.blocks, bls, bL, eC, loop, G8]
 | fin w => simp only [Stt.blocks, bls, bL, eC, loop, G8]
 | bad => simp only [Stt.blocks, bls, bL, eC, loop, G8]
 | odd w => simp only [Stt.blocks, bls, bL, eC, loop, G8]
 | keep x =>
  simp only [Stt.blocks, bls, bL, aN, eC, G8, lQ, nK, Au];rw [one h.2];cases yW (lv + 1) (path ++ [0]) 0 x met <;> rfl
 | again x =>
  simp only [Stt.blocks, bls, bL, aN, eC, G8, lQ, nK, Au];rw [one h.2];cases yW (lv + 1) (path ++ [0]) 0 x met <;> rfl
 | either x y =>
  simp only [Stt.blocks, bls, bL, aN, eC, G8, lQ, nK, Au];rw [one h.2.1];cases yW (lv + 1) (path ++ [0]) 0 x met with
  | fault p m => rfl
  | okk m =>
   simp only [FR.then_okk];rw [one h.2.2];cases yW (lv + 1) (path ++ [1]) 0 y m <;> rfl
 | call g f x y =>
  simp only [Stt.blocks, bls, bL, aN, eC, G8, lQ, nK, Au];rw [one h.2.1];cases yW (lv + 1) (path ++ [0]) 0 x met with
  | fault p m => rfl
  | okk m =>
   simp only [FR.then_okk];rw [one h.2.2];cases yW (lv + 1) (path ++ [1]) 0 y m <;> rfl
theorem QS {n : Nat} (ih : Hi n) {S : aO} {lv many : Int} {path : List Int} {k : Nat} {a : Option Vl} (h0 : 0 <= lv) (h3 : lv <= 3) (hp : path.length <= 2 * lv.toNat) (hn : 4 - (lv + 1).toNat <= n) :
  ∀ (l : List Stt) (at_ : Nat) (met : Int), Co many l k -> loop (.tp [5, 6]) (lN (dQ n)) (eC at_ (bR l)) [a, some (.dat (.int lv)), some (.dat (.int many)), some (.dat (tupI path)), some (.dat (.int met)), none, none, none, none, none, none] S =
   match yW lv path (at_ : Nat) l met with
   | .fault p m => .ret (.dat (.tup [tupI p, .int m])) S
   | .okk m => .next [a, some (.dat (.int lv)), some (.dat (.int many)), some (.dat (tupI path)), some (.dat (.int m)), none, none, none, none, none, none] S
 | [], at_, met, _ => rfl
 | s :: r, at_, met, h => by
  have rest := QS ih (S := S) (many := many) (k := k) (a := a) h0 h3 hp hn r (at_ + 1);simp only [bR, eC];rw [loop];simp only [pR, jQ, aK, bF, if_true, bZ, bD];rw [lN];simp! [Jp (show path.length <= 100 by omega)]
  by_cases h8 : ((at_ : Nat) : Int) = 8
  ·simp! [decide_eq_true h8]
   unfold yW;rw [if_pos (.inl h8)]
  ·simp! [decide_eq_false h8]
   by_cases hm : met = 12
   ·simp! [decide_eq_true hm]
    unfold yW;rw [if_pos (.inr (.inl hm))]
   ·simp! [decide_eq_false hm, Ht h.1]
    cases hw : s.wf lv with
    | false =>
     simp! [if_true];unfold yW;rw [if_pos (.inr (.inr hw))]
    | true =>
     have hlv : G8 lv (path ++ [((at_ : Nat) : Int)]) s (met + 1) = .okk (met + 1) /\ s.blocks = [] \/ lv < 3 := by
      cases s with
      | cmd c => exact .inl ⟨rfl, rfl⟩
      | fin w => exact .inl ⟨rfl, rfl⟩
      | bad => cases hw
      | odd x => cases hw
      | keep b => refine .inr ?_; simp [Stt.wf] at hw; omega
      | again b => refine .inr ?_; simp [Stt.wf] at hw; omega
      | either a b => refine .inr ?_; simp [Stt.wf] at hw; omega
      | call g f a b => refine .inr ?_; simp [Stt.wf] at hw; omega
     have ea : ∀ x y z : Option Vl, NJ (fun x y => x + y) 4 (mC (.int 1)) [a, some (.dat (.int lv)), some (.dat (.int many)), some (.dat (tupI path)), some (.dat (.int met)), x, y, z, none, none, none] S = .next [a, some (.dat (.int lv)), some (.dat (.int many)), some (.dat (tupI path)), some (.dat (.int (met + 1))), x, y, z, none, none, none] S := fun _ _ _ => rfl
     have e2 : yW lv path ((at_ : Nat) : Int) (s :: r) met = (G8 lv (path ++ [((at_ : Nat) : Int)]) s (met + 1)).then (yW lv path (((at_ + 1 : Nat) : Int)) r) := by
      rw [yW, if_neg (by rintro (h | h | h) <;> first | exact h8 h | exact hm h | (rw [hw] at h; cases h))]
      rfl
     rw [e2];have ho : s.isOdd = false := by cases s <;> first | rfl | (cases hw; done)
     simp! [ea, yY ho];rcases hlv with ⟨q1, q2⟩ | hlv
     ·rw [q1, q2]
      simp! [bls, bL, eC, loop, FR.then_okk];exact rest (met + 1) h.2
     ·rw [ff_in ih h.1 h0 hlv (by simp; omega) hn]
      cases q : G8 lv (path ++ [((at_ : Nat) : Int)]) s (met + 1) with
      | fault p m => simp! [FR.then_fault]
      | okk m =>
       simp! [FR.then_okk];exact rest m h.2
theorem QU (n : Nat) : Hi n := by
 induction n with
 | zero =>
  intro S l lv many met path k hl h0 h3 hp hn;omega
 | succ n ih =>
  intro S l lv many met path k hl h0 h3 hp hn;rw [show dQ (n + 1) [.dat (.lst (bR l)), .dat (.int lv), .dat (.int many), .dat (tupI path), .dat (.int met)] S = cC (oX (dQ n) [some (.dat (.lst (bR l))), some (.dat (.int lv)), some (.dat (.int many)), some (.dat (tupI path)), some (.dat (.int met)), none, none, none, none, none, none] S) from rfl]
  unfold oX;have e := QS ih (S := S) (a := some (.dat (.lst (bR l)))) h0 h3 hp (by omega) l 0 met hl
  rw [nK] at e;simp! [e];cases q : yW lv path 0 l met with
  | fault p m => simp! [if_true]; rfl
  | okk m => simp! [if_true]; rfl
theorem Ao {α : Type} {t : Tg} {e : FE} {ρ : Ev} {S : aO} {f g : α -> D} : ∀ {xs : List α}, (∀ x ∈ xs, ∃ ρ1, pR t (.dat (f x)) ρ = some ρ1 /\ e ρ1 S = .ok (.dat (g x)) S) -> iJ t gO e ρ (xs.map f) S = .ok (xs.map g) S
 | [], _ => rfl
 | x :: xs, h => by
  obtain ⟨ρ1, h1, h2⟩ := h x (aV ..);have ih := Ao (xs := xs) fun y hy => h y (aM _ hy)
  rw [aN, iJ];simp only [h1, Lz, h2, if_true, ih, aN]
theorem jV {α : Type} {cl : Bool} {t : Tg} {e : FE} {ρ : Ev} {S : aO} {f g : α -> D} {xs : List α} {vs : List Nat} (hl : xs.length <= sizeLine) (h : ∀ x ∈ xs, ∃ ρ1, pR t (.dat (f x)) (wipeE ρ vs) = some ρ1 /\ e ρ1 S = .ok (.dat (g x)) S) : zK cl t gO e ρ vs (xs.map f) S = newL cl (xs.map g) S := by
 unfold zK;rw [aP, if_pos hl, Ao h]
theorem sE : ∀ l : List Stt, bR l = l.map Stt.d
 | [] => rfl
 | s :: r => by rw [bR, sE r]; rfl
theorem CH {many : Int} {s : Stt} {k : Nat} (h : s.Ok many k) : ∀ b ∈ s.blocks, 0 < k /\ OkL many b (k - 1) := by
 intro b hb;cases s with
 | cmd c => cases hb
 | fin w => cases hb
 | bad => cases hb
 | odd x => cases hb
 | keep x => simp [Stt.blocks] at hb; subst hb; exact h
 | again x => simp [Stt.blocks] at hb; subst hb; exact h
 | either x y => simp [Stt.blocks] at hb; rcases hb with rfl | rfl; exact ⟨h.1, h.2.1⟩; exact ⟨h.1, h.2.2⟩
 | call g f x y => simp [Stt.blocks] at hb; rcases hb with rfl | rfl; exact ⟨h.1.1, h.2.1⟩; exact ⟨h.1.1, h.2.2⟩
theorem OkL.mem {many : Int} : ∀ {l : List Stt} {k : Nat}, OkL many l k -> ∀ s ∈ l, s.Ok many k
 | [], _, _, s, hs => by cases hs
 | x :: r, k, h, s, hs => by
  rcases aY.mp hs with rfl | hs
  ·exact h.1.1
  ·exact OkL.mem h.2 s hs
theorem Eg {s : Stt} : s.blocks.length <= 2 := by cases s <;> simp [Stt.blocks]
def Wh (n : Nat) : Prop := (∀ {S : aO} {many : Int} {s : Stt} {k : Nat}, s.Ok many k -> 2 * k + 1 <= n -> iT n [.dat s.d] S = .ok (.dat s.d) S) /\ ∀ {S : aO} {many : Int} {l : List Stt} {k : Nat}, OkL many l k -> 2 * k + 2 <= n -> fC n [.dat (.lst (bR l))] S = .ok (.dat (.lst (bR l))) S
theorem Tf (n : Nat) : Wh n := by
 induction n with
 | zero => exact ⟨fun _ h => by omega, fun _ h => by omega⟩
 | succ n ih =>
  constructor
  ·intro S many s k h hn
   rw [show iT (n + 1) [.dat s.d] S = cC (jB (fC n) [some (.dat s.d), none] S) from rfl]
   unfold jB;simp! [yY h.no];rw [show bls s.blocks = s.blocks.map (fun b => .lst (bR b)) from rfl, jV (g := fun b => .lst (bR b)) (sz (by have := Eg (s := s); omega)) fun b hb => ⟨_, rfl, ?_⟩]
   ·simp! [show s.blocks.map (fun b => D.lst (bR b)) = bls s.blocks from rfl, Hs h.no]
    rfl
   ·obtain ⟨h1, h2⟩ := CH h b hb
    simp! [ih.2 h2 (by omega)]
  ·intro S many l k h hn
   rw [show fC (n + 1) [.dat (.lst (bR l))] S = cC (nO (iT n) [some (.dat (.lst (bR l))), none] S) from rfl]
   unfold nO;simp! [sE];rw [jV (g := Stt.d) (sz (by have := h.len; omega)) fun s hs => ⟨_, rfl, ?_⟩]
   ·rfl
   ·simp! [ih.1 (h.mem s hs) (by omega)]
theorem R7 {s : Stt} {S : aO} (ho : s.isOdd = false) : vH [.dat s.d] S = .ok (.dat (.lst (bls s.blocks))) S := by
 rw [show vH [.dat s.d] S = cC (vY [some (.dat s.d), none] S) from rfl]
 unfold vY;cases s with
 | cmd c => cases c <;> (simp! [Stt.d, Cmd.d, cO, A5, zK, iJ, pR, sz]; rfl)
 | fin w => simp! [Stt.d, cO, A5, zK, iJ, pR, sz]; rfl
 | keep b => simp! [Stt.d, cO, A5, zK, iJ, pR, sz]; rfl
 | again b => simp! [Stt.d, cO, A5, zK, iJ, pR, sz]; rfl
 | either a b => simp! [Stt.d, cO, A5, zK, iJ, pR, sz]; rfl
 | call g s a b => simp! [Stt.d, cO, KZ]; rfl
 | bad => simp! [Stt.d, cO, A5, zK, iJ, pR, sz]; rfl
 | odd x => cases ho
theorem cut_3 {a b c d : D} : cutD [a, b, c, d] none (some 3) = [a, b, c] := rfl
theorem Wc {s : Stt} {S : aO} (ho : s.isOdd = false) : Ad [.dat s.d, .dat (.lst (bls s.blocks))] S = .ok (.dat s.d) S := by
 rw [show Ad [.dat s.d, .dat (.lst (bls s.blocks))] S = cC (BH [some (.dat s.d), some (.dat (.lst (bls s.blocks)))] S) from rfl]
 unfold BH;cases s with
 | cmd c => cases c <;> (simp! [Stt.d, Cmd.d, Stt.blocks, bls, bL, cO]; rfl)
 | fin w => simp! [Stt.d, Stt.blocks, bls, bL, cO]; rfl
 | keep b => simp! [Stt.d, Stt.blocks, bls, aN, bL, cO]; rfl
 | again b => simp! [Stt.d, Stt.blocks, bls, aN, bL, cO]; rfl
 | either a b => simp! [Stt.d, Stt.blocks, bls, aN, bL, cO]; rfl
 | call g s a b => simp! [Stt.d, Stt.blocks, bls, aN, bL, cO, cut_3]; rfl
 | bad => simp! [Stt.d, Stt.blocks, bls, bL, cO]; rfl
 | odd x => cases ho
theorem Wd {many : Int} (n : Nat) : ∀ {S : aO} {l : List Stt} {k : Nat}, OkL many l k -> k + 1 <= n -> uF n [.dat (.lst (bR l))] S = .ok (.dat (.lst (bR l))) S := by
 induction n with
 | zero => intro S l k h hn; omega
 | succ n ih =>
  intro S l k h hn;rw [show uF (n + 1) [.dat (.lst (bR l))] S = cC (BN (uF n) [some (.dat (.lst (bR l))), none, none] S) from rfl]
  unfold BN;simp! [sE];rw [jV (g := Stt.d) (sz (by have := h.len; omega)) fun s hs => ⟨_, rfl, ?_⟩]
  ·rfl
  ·unfold A4
   simp! [R7 (h.mem s hs).no];rw [show bls s.blocks = s.blocks.map (fun b => .lst (bR b)) from rfl, jV (g := fun b => .lst (bR b)) (sz (by have := Eg (s := s); omega)) fun b hb => ⟨_, rfl, ?_⟩]
   ·simp! [show s.blocks.map (fun b => D.lst (bR b)) = bls s.blocks from rfl, Wc (h.mem s hs).no]
   ·obtain ⟨h1, h2⟩ := CH (h.mem s hs) b hb
    simp! [ih h2 (by omega)]
theorem R6 {many : Int} {bs : List (List Stt)} {S : aO} {k : Nat} (hb : ∀ b ∈ bs, OkL many b k) (hk : k <= 9) (hl : bs.length <= 10) : vG [.dat (.lst (bls bs))] S = .ok (.dat (.lst (bls bs))) S := by
 rw [show vG [.dat (.lst (bls bs))] S = cC (vX [some (.dat (.lst (bls bs))), none] S) from rfl]
 unfold vX;simp! [if_true];rw [show bls bs = bs.map (fun b => .lst (bR b)) from rfl, jV (g := fun b => .lst (bR b)) (sz (by omega)) fun b hb' => ⟨_, rfl, ?_⟩]
 ·rfl
 ·simp! [Wd 10 (hb b hb') (by omega)]
def BD (p : Int) : List (List Stt) -> Option (Int × List Int)
 | [] => none
 | b :: r => match yW 0 [] 0 b 0 with
  | .fault q _ => some (p, q)
  | .okk _ => BD (p + 1) r
def KG (i : Int) (q : List Int) : Er := ⟨"NoBook", ["path", "procedure"], [tupI q, .int i]⟩
theorem G2 {S : aO} {many : Int} {k : Nat} {a : Option Vl} {bs0 : List D} (hm : many = (bs0.length : Int)) : ∀ (bs : List (List Stt)) (p : Nat), (∀ b ∈ bs, OkL many b k) ->
  match BD (p : Nat) bs with
  | none => loop (.tp [2, 3]) eJ (eC p (bls bs)) [a, some (.dat (.lst bs0)), none, none, none, none] S = .next [a, some (.dat (.lst bs0)), none, none, none, none] S
  | some (i, q) => ∃ ρ', loop (.tp [2, 3]) eJ (eC p (bls bs)) [a, some (.dat (.lst bs0)), none, none, none, none] S = .err (KG i q) ρ' S
 | [], p, _ => rfl
 | b :: r, p, h => by
  have ih := G2 (S := S) (k := k) (a := a) hm r (p + 1) fun b hb => h b (aM _ hb)
  have hb := h b (aV ..);have e1 : dQ 10 [.dat (.lst (bR b)), .dat (.int 0), .dat (.int (bs0.length : Int)), .dat (.tup []), .dat (.int 0)] S = .ok (.dat (yW 0 [] 0 b 0).d) S := by
   rw [<- hm];exact QU 10 (path := []) hb.x (by omega) (by omega) (by simp) (by simp)
  have el : loop (.tp [2, 3]) eJ (eC p (bls (b :: r))) [a, some (.dat (.lst bs0)), none, none, none, none] S = (match eJ [a, some (.dat (.lst bs0)), some (.dat (.int (p : Nat))), some (.dat (.lst (bR b))), none, none] S with
   | .next ρ2 S2 => loop (.tp [2, 3]) eJ (eC (p + 1) (bls r)) ρ2 S2
   | .cnt ρ2 S2 => loop (.tp [2, 3]) eJ (eC (p + 1) (bls r)) ρ2 S2
   | .brk ρ2 S2 => .next ρ2 S2
   | .ret d S2 => .ret d S2
   | .err e ρ2 S2 => .err e ρ2 S2
   | .stuck => .stuck) := rfl
  rw [el, eJ];simp! [e1];rw [BD];cases q : yW 0 [] 0 b 0 with
  | fault pp mm =>
   simp! [FR.d, JG];exact ⟨_, rfl⟩
  | okk mm =>
   simp! [FR.d, JG];rw [<- eJ];exact ih
def fF (bs : List (List Stt)) : D := .ins "Book" ["own"] [.lst (bls bs)]
theorem PD {d : Vl} : ∀ {ρ : Ev} {i : Nat}, i < ρ.length -> lk (ρ.set i (some d)) i = some d
 | [], i, h => by simp at h
 | x :: r, 0, h => rfl
 | x :: r, i + 1, h => PD (ρ := r) (by simpa using h)
theorem MW {ρ : Ev} {i : Nat} : (wipeE ρ [i]).length = ρ.length := by simp [wipeE]
theorem zP {cl : Bool} {S : aO} {many : Int} {k i : Nat} {bs : List (List Stt)} {ρ : Ev} (hb : ∀ b ∈ bs, OkL many b k) (hk : k <= 9) (hl : bs.length <= 10) (h : i < ρ.length) : zK cl (.nm i) gO (bE (fC 20) (aB (aC i) aL)) ρ [i] (bls bs) S = newL cl (bls bs) S := by
 rw [show bls bs = bs.map (fun b => .lst (bR b)) from rfl, jV (g := fun b => .lst (bR b)) (sz (by omega)) fun b hb' => ?_]
 have e2 := PD (d := .dat (.lst (bR b))) (ρ := wipeE ρ [i]) (i := i) (by rw [MW]; exact h)
 refine ⟨(wipeE ρ [i]).set i (some (.dat (.lst (bR b)))), rfl, ?_⟩
 simp (config := { implicitDefEqProofs := false }) only [Kr, Kq, UV, e2, dX, HI, Pz, HH];exact (Tf 20).2 (hb b hb') (by omega)
theorem SW {S : aO} {many : Int} {k n : Nat} {bs : List (List Stt)} (hb : ∀ b ∈ bs, OkL many b k) (hk : k <= 9) (hm : many = (bs.length : Int)) (h1 : 1 <= bs.length) (h3 : bs.length <= 3) (hn : S[n]? = some (.ins "Book" [])) :
  mK [.cel n, .dat (.lst (bls bs))] S = match BD 0 bs with
   | none => .ok (.dat .non) (S.set n (.ins "Book" [("own", .dat (.lst (bls bs)))]))
   | some (i, q) => .err (KG i q) S := by
 rw [show mK [.cel n, .dat (.lst (bls bs))] S = cC (tI [some (.cel n), some (.dat (.lst (bls bs))), none, none, none, none] S) from rfl]
 unfold tI;have hl : (bls bs).length = bs.length := by simp [bls]
 have e := G2 (S := S) (a := some (.cel n)) (bs0 := bls bs) (by rw [hl]; exact hm) bs 0 hb
 rw [nK] at e;simp! [hl, decide_eq_true (show (1 : Int) <= (bs.length : Int) by omega), decide_eq_true (show (bs.length : Int) <= 3 by omega)]
 cases q : BD 0 bs with
 | none =>
  rw [q] at e;simp! [e, zP hb hk (show bs.length <= 10 by omega), EM hn (by simp)]
  rfl
 | some x =>
  obtain ⟨i, p⟩ := x;rw [q] at e;obtain ⟨ρ', e⟩ := e;simp! [e];rfl
theorem PM {S : aO} {bs : List (List Stt)} (hl : bs.length <= 10) : G9 "Book" rN (.dat (fF bs)) S = .ok (.dat (.int (bs.length : Int))) S := by
 have e : rN [.dat (fF bs)] S = .ok (.dat (.int (bs.length : Int))) S := by
  rw [show rN [.dat (fF bs)] S = cC (vZ [some (.dat (fF bs))] S) from rfl]
  unfold vZ fF;simp! [tZ, fH];simp [bls];rfl
 rw [G9, if_pos (by simp [rR, fF, Ge]), e, VQ, if_pos (by omega)]
theorem Nn {S : aO} {many : Int} {k : Nat} {bs : List (List Stt)} (hb : ∀ b ∈ bs, OkL many b k) (hk : k <= 9) (hl : bs.length <= 10) : oP [.dat (fF bs)] S = .ok (.dat (.lst (bls bs))) S := by
 rw [show oP [.dat (fF bs)] S = cC (oZ [some (.dat (fF bs)), none] S) from rfl]
 unfold oZ fF;simp! [tZ, fH, zP hb hk hl];rfl
theorem SD {S : aO} {many : Int} {k : Nat} {bs : List (List Stt)} (ls : LS S) (hb : ∀ b ∈ bs, OkL many b k) (hk : k <= 9) (hm : many = (bs.length : Int)) (h1 : 1 <= bs.length) (h3 : bs.length <= 3) :
  G1 false "Book" mK [.dat (.lst (bls bs))] S = match BD 0 bs with
   | none => .ok (.dat (fF bs)) S
   | some (i, q) => .err (KG i q) S := by
 have t : ((S ++ [Cell.ins "Book" []]).take S.length) = S := by simp
 have ls' := ls.take (n := S.length) (m := S.length);rw [List.take_length] at ls';unfold G1;rw [SW hb hk hm h1 h3 (by simp)]
 cases q : BD 0 bs with
 | none =>
  dsimp only [made];rw [dN _ _ (cE _), Nat.sub_self];simp [GW, fF, ls']
 | some x =>
  obtain ⟨i, p⟩ := x;dsimp only [made];rw [t, if_pos ls']
end PH
namespace PH
open PySem PySem.Spec PyProof PyProof.Rows L2
mutual
/-- the height -/
def D.ht : D -> Nat
 | .lst xs => D.hts xs + 1
 | .tup xs => D.hts xs + 1
 | _ => 0
def D.hts : List D -> Nat
 | [] => 0
 | x :: r => max (D.ht x) (D.hts r)
end
mutual
/-- no instances, no dicts; texts that may be compared -/
def D.Pl : D -> Prop
 | .lst xs => xs.length <= 1000 /\ D.Pls xs
 | .tup xs => xs.length <= 1000 /\ D.Pls xs
 | .str x => PyData.strOk x = true
 | .ins _ _ _ => False
 | .dct => False
 | .opq _ => False
 | _ => True
def D.Pls : List D -> Prop
 | [] => True
 | x :: r => D.Pl x /\ D.Pls r
end
mutual
theorem UG : ∀ d : D, d.Pl -> ∃ p, d.py = some p /\ p.canLay0 = true /\ p.depth = d.ht
 | .non, _ => ⟨_, rfl, rfl, rfl⟩
 | .bl b, _ => ⟨_, rfl, rfl, rfl⟩
 | .int i, _ => ⟨_, rfl, rfl, rfl⟩
 | .str x, h => ⟨_, rfl, h, rfl⟩
 | .lst xs, h => by
  obtain ⟨ps, e1, e2, e3⟩ := KD xs h.2;refine ⟨.list ps, ?_, e2, ?_⟩
  ·simp only [D.py, e1]
  ·simp only [PyData.depth, D.ht, e3]
 | .tup xs, h => by
  obtain ⟨ps, e1, e2, e3⟩ := KD xs h.2;refine ⟨.tuple ps, ?_, e2, ?_⟩
  ·simp only [D.py, e1]
  ·simp only [PyData.depth, D.ht, e3]
 | .ins _ _ _, h => h.elim
 | .dct, h => h.elim
 | .opq _, h => h.elim
theorem KD : ∀ ds : List D, D.Pls ds -> ∃ ps, D.pys ds = some ps /\ PyData.canLayAll0 ps = true /\ PyData.depthAll ps = D.hts ds
 | [], _ => ⟨_, rfl, rfl, rfl⟩
 | d :: r, h => by
  obtain ⟨p, e1, e2, e3⟩ := UG d h.1;obtain ⟨ps, f1, f2, f3⟩ := KD r h.2;refine ⟨p :: ps, ?_, ?_, ?_⟩
  ·simp only [D.pys, e1, f1]
  ·simp only [PyData.canLayAll0, e2, f2, Bool.and_self]
  ·simp only [PyData.depthAll, D.hts, e3, f3]
end
mutual
theorem Stt.plain {many : Int} : ∀ (s : Stt) (k : Nat), s.Ok many k -> s.d.Pl /\ s.d.ht <= 3 * k + 1
 | .cmd c, k, h => by cases c <;> exact ⟨⟨by simp, by simp only [D.Pl, D.Pls, and_true]; decide +kernel⟩, by simp [Stt.d, Cmd.d, D.ht, D.hts]⟩
 | .fin w, k, h => ⟨⟨by simp, by simp only [D.Pl, D.Pls, and_true]; decide +kernel⟩, by simp [Stt.d, D.ht, D.hts]⟩
 | .bad, k, h => ⟨⟨by simp, by simp only [D.Pl, D.Pls, and_true]; decide +kernel⟩, by simp [Stt.d, D.ht, D.hts]⟩
 | .odd x, k, h => h.elim
 | .keep b, k, h => by
  obtain ⟨h1, h2⟩ := kF b (k - 1) h.2;have l1 := h.2.len;have := h.1;exact ⟨⟨by simp, by show PyData.strOk _ = true; decide +kernel, ⟨by rw [fE]; omega, h1⟩, trivial⟩, by simp [Stt.d, D.ht, D.hts]; omega⟩
 | .again b, k, h => by
  obtain ⟨h1, h2⟩ := kF b (k - 1) h.2;have l1 := h.2.len;have := h.1;exact ⟨⟨by simp, by show PyData.strOk _ = true; decide +kernel, ⟨by rw [fE]; omega, h1⟩, trivial⟩, by simp [Stt.d, D.ht, D.hts]; omega⟩
 | .either a b, k, h => by
  obtain ⟨h1, h2⟩ := kF a (k - 1) h.2.1;obtain ⟨h3, h4⟩ := kF b (k - 1) h.2.2;have l1 := h.2.1.len;have l2 := h.2.2.len;have := h.1;exact ⟨⟨by simp, by show PyData.strOk _ = true; decide +kernel, ⟨by rw [fE]; omega, h1⟩, ⟨by rw [fE]; omega, h3⟩, trivial⟩, by simp [Stt.d, D.ht, D.hts]; omega⟩
 | .call g f a b, k, h => by
  obtain ⟨h1, h2⟩ := kF a (k - 1) h.2.1;obtain ⟨h3, h4⟩ := kF b (k - 1) h.2.2;have l1 := h.2.1.len;have l2 := h.2.2.len;have := h.1.1;exact ⟨⟨by simp, by show PyData.strOk _ = true; decide +kernel, trivial, trivial, ⟨by simp, ⟨by rw [fE]; omega, h1⟩, ⟨by rw [fE]; omega, h3⟩, trivial⟩, trivial⟩, by simp [Stt.d, D.ht, D.hts]; omega⟩
theorem kF {many : Int} : ∀ (l : List Stt) (k : Nat), OkL many l k -> D.Pls (bR l) /\ D.hts (bR l) <= 3 * k + 1
 | [], k, _ => ⟨trivial, by simp [bR, D.hts]⟩
 | s :: r, k, h => by
  obtain ⟨h1, h2⟩ := Stt.plain s k h.1.1;obtain ⟨h3, h4⟩ := kF r k h.2;exact ⟨⟨h1, h3⟩, by simp [bR, D.hts]; omega⟩
end
theorem all_true {α : Type} {S : aO} (xs : List α) : EU (.dat (.lst (xs.map fun _ => D.bl true))) S = .ok (.dat (.bl true)) S := by
 have : ∀ xs : List α, Ek (xs.map fun _ => D.bl true) = some (xs.map fun _ => true) := fun xs => by
  induction xs with
  | nil => rfl
  | cons x r ih => simp only [aN, Ek, ih]
 simp only [EU, pD, this]
 congr 3
 simp
theorem LX {n : Nat} {xs : List D} {S : aO} {f : FD} {i : Nat} {x y : D} (hx : xs[i]? = some x) (ex : cH (.dat y) (.dat (.int (0 + (i : Int)))) S = .ok (.dat x) S) (h : f [.dat x, .dat x] S = .ok (.dat (.bl true)) S) : vR f [some (.dat y), some (.dat y), some (.dat (.int (0 + (i : Int))))] S = .ok (.dat (.bl true)) S := by
 unfold vR;simp! [ex, h]
theorem rG {lo : Int} {n : Nat} : iC lo (n + 1) = .int lo :: iC (lo + 1) n := by
 unfold iC;rw [List.range_succ_eq_map, aN, jP]
 congr 1
 ·simp
 ·apply iQ
  intro k _;simp only [Function.comp]
  congr 1
  omega
theorem BE {bs : List (List Stt)} : (bls bs).length = bs.length := by simp [bls]
theorem Qf {ns : List Int} {lo hi : Option Int} : ∃ ms : List Int, cutD (ns.map D.int) lo hi = ms.map D.int /\ ms.length <= ns.length := by
 refine ⟨(ns.drop (HT.sIx (ns.map D.int).length 0 lo)).take (HT.sIx (ns.map D.int).length (ns.map D.int).length hi - HT.sIx (ns.map D.int).length 0 lo), ?_, ?_⟩
 ·simp only [cutD, Ba, Jw]
 ·simp; omega
theorem Rn {ns : List Int} {S : aO} (hn : ns.length <= 63) : ∃ ks : List Int, Ae [.scr ns] S = .ok (.cel S.length) (S ++ [PL ks]) /\ 2 <= ks.length := by
 obtain ⟨ms, e, hl⟩ := Qf (ns := ns) (lo := none) (hi := some 63);rw [show Ae [.scr ns] S = cC (BJ [some (.scr ns), none] S) from rfl]
 unfold BJ;simp! [e];rw [jV (g := D.int) (sz (by omega)) fun i hi => ⟨_, rfl, ?_⟩]
 ·cases ms with
  | nil =>
   refine ⟨[0, 0], ?_, by simp⟩
   simp! [bL, List.isEmpty_nil, pV (show [D.int 0].length + [D.int 0].length <= sizeLine from sz (by simp))]
   rfl
  | cons i r =>
   refine ⟨0 :: i :: r, ?_, by simp⟩
   simp! [aN, List.isEmpty_cons, pV (show [D.int 0].length + (D.int i :: r.map D.int).length <= sizeLine from sz (by simp at *; omega))]
   rfl
 ·simp! [if_true]
theorem Um {T : aO} {d : D} : trunc 0 (.ok (.dat d) T) = .ok (.dat d) [] := by simp [trunc, Vl.below]
def Sam (Z : List Nat) (S S' : aO) : Prop := S'.length = S.length /\ ∀ i : Nat, i ∉ Z -> S'[i]? = S[i]?
theorem Sam.refl {Z : List Nat} {S : aO} : Sam Z S S := ⟨rfl, fun _ _ => rfl⟩
theorem Sam.trans {Z : List Nat} {S S1 S2 : aO} (a : Sam Z S S1) (b : Sam Z S1 S2) : Sam Z S S2 := ⟨by rw [b.1, a.1], fun i h => by rw [b.2 i h, a.2 i h]⟩
theorem Sam.set {Z : List Nat} {S : aO} {k : Nat} {x : Cell} (h : k ∈ Z) : Sam Z S (S.set k x) := ⟨by simp, fun i hi => by
 rw [aT, if_neg (show ¬ k = i from fun e => hi (by rw [<- e]; exact h))]⟩
section
variable {p q c N : Nat} {many r l : Int} {S : aO}
theorem Gf {S : aO} {i j : Nat} {x : Cell} (h : i ≠ j) : (S.set i x)[j]? = S[j]? := by rw [aT, if_neg h]
end
section
variable {S : aO} {cl : Bool} {a b c d e f g h i j : D}
theorem UL : kTup [.dat a, .dat b, .dat c, .dat d, .dat e, .dat f, .dat g] S = .ok (.dat (.tup [a, b, c, d, e, f, g])) S := rfl
end
mutual
def Stt.Gd (many : Int) : Stt -> Nat -> Prop
 | .cmd c, _ => c.Ok
 | .fin w, _ => 0 <= w /\ w <= 1
 | .keep b, n => 0 < n /\ GdL many b (n - 1)
 | .again b, n => 0 < n /\ GdL many b (n - 1)
 | .either a b, n => 0 < n /\ GdL many a (n - 1) /\ GdL many b (n - 1)
 | .call g _ a b, n => (0 < n /\ 0 <= g /\ g < many) /\ GdL many a (n - 1) /\ GdL many b (n - 1)
 | .bad, _ => False
 | .odd _, _ => False
def GdL (many : Int) : List Stt -> Nat -> Prop
 | [], _ => True
 | s :: r, n => s.Gd many n /\ GdL many r n
end
mutual
def Stt.size : Stt -> Nat
 | .keep b => cQ b + 1
 | .again b => cQ b + 1
 | .either a b => cQ a + cQ b + 1
 | .call _ _ a b => cQ a + cQ b + 1
 | _ => 1
def cQ : List Stt -> Nat
 | [] => 0
 | s :: r => s.size + cQ r
end
theorem size_pos (s : Stt) : 1 <= s.size := by cases s <;> simp [Stt.size]
theorem gR : ∀ l : List Stt, l.length <= cQ l
 | [] => cE _
 | s :: r => by have := gR r; have := size_pos s; simp [cQ]; omega
theorem FP : ∀ l m : List Stt, cQ (l ++ m) = cQ l + cQ m
 | [], m => by simp [cQ]
 | s :: r, m => by simp [cQ, FP r m]; omega
theorem GdL.app {many : Int} : ∀ {l m : List Stt} {n : Nat}, GdL many l n -> GdL many m n -> GdL many (l ++ m) n
 | [], m, n, _, h => h
 | s :: r, m, n, h, h' => ⟨h.1, GdL.app h.2 h'⟩
mutual
theorem Stt.Gd.ok {many : Int} : ∀ {s : Stt} {n : Nat}, s.Gd many n -> s.size <= 11 -> s.Ok many n
 | .cmd c, n, h, _ => h
 | .fin w, n, h, _ => h
 | .keep b, n, h, hs => ⟨h.1, GdL.ok h.2 (by simp [Stt.size] at hs; omega)⟩
 | .again b, n, h, hs => ⟨h.1, GdL.ok h.2 (by simp [Stt.size] at hs; omega)⟩
 | .either a b, n, h, hs => ⟨h.1, GdL.ok h.2.1 (by simp [Stt.size] at hs; omega), GdL.ok h.2.2 (by simp [Stt.size] at hs; omega)⟩
 | .call g _ a b, n, h, hs => ⟨h.1, GdL.ok h.2.1 (by simp [Stt.size] at hs; omega), GdL.ok h.2.2 (by simp [Stt.size] at hs; omega)⟩
 | .bad, n, h, _ => h.elim
 | .odd _, n, h, _ => h.elim
theorem GdL.ok {many : Int} : ∀ {l : List Stt} {n : Nat}, GdL many l n -> cQ l <= 10 -> OkL many l n
 | [], n, _, _ => trivial
 | s :: r, n, h, hs => by
  have := gR r;have := size_pos s;simp only [cQ] at hs;exact ⟨⟨Stt.Gd.ok h.1 (by omega), by omega⟩, GdL.ok h.2 (by omega)⟩
end
mutual
theorem JN {many : Int} : ∀ {s : Stt} {n : Nat} {lv met : Int} {here : List Int}, s.Gd many n -> 0 <= lv -> lv + n <= 3 -> s.size <= 9 -> met + s.size <= 13 -> 0 <= met -> G8 lv here s met = .okk (met + s.size - 1)
 | .cmd c, n, lv, met, here, h, h0, h3, h9, h12, hm => by simp [G8, Stt.size]
 | .fin c, n, lv, met, here, h, h0, h3, h9, h12, hm => by simp [G8, Stt.size]
 | .bad, n, lv, met, here, h, h0, h3, h9, h12, hm => h.elim
 | .odd _, n, lv, met, here, h, h0, h3, h9, h12, hm => h.elim
 | .keep b, n, lv, met, here, h, h0, h3, h9, h12, hm => by
  have := h.1;simp only [Stt.size] at h9 h12;rw [G8, rZ (n := n - 1) h.2 (by omega) (by omega) (by omega) (by omega) hm (by omega), Stt.size]
  congr 1
  omega
 | .again b, n, lv, met, here, h, h0, h3, h9, h12, hm => by
  have := h.1;simp only [Stt.size] at h9 h12;rw [G8, rZ (n := n - 1) h.2 (by omega) (by omega) (by omega) (by omega) hm (by omega), Stt.size]
  congr 1
  omega
 | .either a b, n, lv, met, here, h, h0, h3, h9, h12, hm => by
  have := h.1;simp only [Stt.size] at h9 h12;rw [G8, rZ (n := n - 1) h.2.1 (by omega) (by omega) (by omega) (by omega) hm (by omega), FR.then_okk, rZ (n := n - 1) h.2.2 (by omega) (by omega) (by omega) (by omega) (by omega) (by omega), Stt.size]
  congr 1
  omega
 | .call g f a b, n, lv, met, here, h, h0, h3, h9, h12, hm => by
  have := h.1.1;simp only [Stt.size] at h9 h12;rw [G8, rZ (n := n - 1) h.2.1 (by omega) (by omega) (by omega) (by omega) hm (by omega), FR.then_okk, rZ (n := n - 1) h.2.2 (by omega) (by omega) (by omega) (by omega) (by omega) (by omega), Stt.size]
  congr 1
  omega
theorem rZ {many : Int} : ∀ {l : List Stt} {n : Nat} {lv at_ met : Int} {path : List Int}, GdL many l n -> 0 <= lv -> lv + n <= 3 -> at_ + cQ l <= 8 -> met + cQ l <= 12 -> 0 <= met -> 0 <= at_ -> yW lv path at_ l met = .okk (met + cQ l)
 | [], n, lv, at_, met, path, h, h0, h3, h8, h12, hm, ha => by simp [yW, cQ]
 | s :: r, n, lv, at_, met, path, h, h0, h3, h8, h12, hm, ha => by
  have hp := size_pos s;simp only [cQ] at h8 h12;have hw : s.wf lv = true := by
   cases s with
   | cmd c => rfl
   | fin c => rfl
   | bad => exact h.1.elim
   | odd x => exact h.1.elim
   | keep b => have := h.1.1; simp [Stt.wf]; omega
   | again b => have := h.1.1; simp [Stt.wf]; omega
   | either a b => have := h.1.1; simp [Stt.wf]; omega
   | call g f a b => have := h.1.1.1; simp [Stt.wf]; omega
  rw [yW, if_neg (by rintro (e | e | e) <;> first | omega | (rw [hw] at e; cases e)), JN (n := n) h.1 h0 h3 (by omega) (by omega) (by omega), FR.then_okk, rZ (n := n) h.2 h0 h3 (by omega) (by omega) (by omega) (by omega), cQ]
  congr 1
  omega
end
theorem ds1 {s : Stt} : [s.d] = bR [s] := rfl
structure Bk (p n N : Nat) (S0 : aO) (many l : Int) (bs : List (List Stt)) (T : aO) : Prop where
 ls : LS T
 n2 : 2 <= N
 hp : p < n
 len : n + 2 <= T.length
 pool : ∃ ks, T[p]? = some (PL ks) /\ ks.length = N
 call : T[n]? = some (PL [l, many])
 bod : T[n + 1]? = some (.lst (bls bs))
 old : ∀ i, i < n -> i ≠ p -> T[i]? = S0[i]?
def pre (i : Int) (p : List Int × Stt) : List Int × Stt := (i :: p.1, p.2)
theorem take_set {T : aO} {n c : Nat} {x : Cell} (h : n <= c) : (T.set c x).take n = T.take n := by
 apply fV
 intro i;rw [fG, fG]
 by_cases hi : i < n
 ·rw [if_pos hi, if_pos hi, Gf (by omega)]
 ·rw [if_neg hi, if_neg hi]
theorem M6 {many : Int} : ∀ {l : List Stt} {n : Nat} {lv at_ met : Int} {path : List Int}, GdL many l n -> (∀ s ∈ l, s.size <= 9) -> 0 <= lv -> lv + n <= 3 -> at_ + l.length <= 8 -> met + cQ l <= 12 -> 0 <= met -> 0 <= at_ -> yW lv path at_ l met = .okk (met + cQ l)
 | [], n, lv, at_, met, path, h, _, h0, h3, h8, h12, hm, ha => by simp [yW, cQ]
 | s :: r, n, lv, at_, met, path, h, h9, h0, h3, h8, h12, hm, ha => by
  have hp := size_pos s;have hs9 := h9 s (aV ..);simp only [cQ, aK] at h8 h12;have hw : s.wf lv = true := by
   cases s with
   | cmd c => rfl
   | fin c => rfl
   | bad => exact h.1.elim
   | odd x => exact h.1.elim
   | keep b => have := h.1.1; simp [Stt.wf]; omega
   | again b => have := h.1.1; simp [Stt.wf]; omega
   | either a b => have := h.1.1; simp [Stt.wf]; omega
   | call g f a b => have := h.1.1.1; simp [Stt.wf]; omega
  rw [yW, if_neg (by rintro (e | e | e) <;> first | omega | (rw [hw] at e; cases e)), JN (n := n) h.1 h0 h3 hs9 (by omega) (by omega), FR.then_okk, M6 (n := n) h.2 (fun s hs => h9 s (aM _ hs)) h0 h3 (by omega) (by omega) (by omega) (by omega), cQ]
  congr 1
  omega
theorem GdL.okTop {many : Int} : ∀ {l : List Stt} {n : Nat}, GdL many l n -> (∀ s ∈ l, s.size <= 9) -> l.length <= 10 -> OkL many l n
 | [], n, _, _, _ => trivial
 | s :: r, n, h, h9, hl => by
  simp only [aK] at hl;exact ⟨⟨Stt.Gd.ok h.1 (by have := h9 s (aV ..); omega), by omega⟩, GdL.okTop h.2 (fun s hs => h9 s (aM _ hs)) (by omega)⟩
structure Good2 (bs : List (List Stt)) : Prop where
 l1 : 1 <= bs.length
 l3 : bs.length <= 3
 gd : ∀ b ∈ bs, GdL (bs.length : Int) b 3 /\ b.length <= 8 /\ cQ b <= 12 /\ ∀ s ∈ b, s.size <= 9
theorem DU : ∀ {l : List Stt} {s : Stt}, s ∈ l -> s.size <= cQ l
 | x :: r, s, h => by
  rcases aY.mp h with rfl | h
  ·simp [cQ]
  ·have := DU h; simp [cQ]; omega
theorem Good2.ok {bs : List (List Stt)} (h : Good2 bs) : ∀ b ∈ bs, OkL (bs.length : Int) b 3 := fun b hb => by
 obtain ⟨h1, h2, h3, h4⟩ := h.gd b hb;exact h1.okTop h4 (by omega)
theorem good2_none : ∀ {bs : List (List Stt)} {p many : Int}, (∀ b ∈ bs, GdL many b 3 /\ b.length <= 8 /\ cQ b <= 12 /\ ∀ s ∈ b, s.size <= 9) -> BD p bs = none
 | [], p, many, _ => rfl
 | b :: r, p, many, h => by
  obtain ⟨h1, h2, h3, h4⟩ := h b (aV ..);rw [BD, M6 (n := 3) h1 h4 (by omega) (by omega) (by omega) (by omega) (by omega) (by omega)]
  exact good2_none fun b hb => h b (aM _ hb)
theorem KJ {S : aO} {bs : List (List Stt)} (ls : LS S) (h : Good2 bs) : G1 false "Book" mK [.dat (.lst (bls bs))] S = .ok (.dat (fF bs)) S := by
 rw [SD ls h.ok (by omega) rfl h.l1 h.l3, good2_none h.gd]
def Cmd.word : Cmd -> Str
 | .go _ => "go"
 | .turn _ => "turn"
 | .mirror => "mirror"
 | .scale _ => "scale"
 | .aim _ _ => "aim"
 | .place _ _ => "place"
 | .mark => "mark"
 | .ret => "return"
 | .exch => "exchange"
def Stt.word : Stt -> Str
 | .cmd c => c.word
 | .fin _ => "end"
 | .keep _ => "keep"
 | .again _ => "again"
 | .either _ _ => "either"
 | .call _ _ _ _ => "call"
 | _ => "bad"
theorem HF {s : Stt} {S : aO} (h : s.isOdd = false) : cH (.dat s.d) (.dat (.int 0)) S = .ok (.dat (.str s.word)) S := by
 cases s with
 | cmd c => cases c <;> rfl
 | odd x => cases h
 | _ => rfl
def stZ : List Int -> List Stt -> Option Stt
 | [], _ => none
 | [i], l => if 0 <= i then l[i.toNat]? else none
 | i :: j :: r, l => if 0 <= i /\ 0 <= j then (match l[i.toNat]? with
  | some s => (match s.blocks[j.toNat]? with
   | some b => stZ r b
   | none => none)
  | none => none) else none
theorem Ts {S : aO} {a0 a1 : Option Vl} {many : Int} : ∀ (m : Nat) (π : List Int) (l : List Stt) (k n : Nat) (x : Vl) (s : Stt), π.length <= m -> OkL many l k -> n % 2 = 0 -> stZ π l = some s ->
  ∃ (b : Vl), loop (.tp [4, 5]) kH (eC n (π.map D.int)) [a0, a1, some x, some (.dat (.lst (bR l))), none, none] S = .next [a0, a1, some (.dat s.d), some b, none, none] S /\ ∃ j, j <= k /\ s.Ok many j
 | m, [], l, k, n, x, s, _, _, _, h => by cases h
 | m, [i], l, k, n, x, s, hm, ho, hn, h => by
  simp only [stZ] at h;split at h
  ·rename_i hi
   have hlt : i.toNat < l.length := (aH.mp h).1;have hs := ho.mem s (bS h);have hix : atI (bR l) i = some s.d := by
    rw [hY (n := i.toNat) (by omega), sE, cL, h]
    rfl
   rw [aN, eC, loop];simp only [pR, jQ, aK, bF, if_true, bZ, bD];rw [kH];simp! [dZ, decide_eq_true hi, fE, decide_eq_true (show i < (l.length : Int) by omega), rV (show (0 : Int) < 2 by decide), decide_eq_true (show ((n : Nat) : Int) % 2 = 0 by omega), wH hix, yY hs.no, bL, eC, loop]
   exact ⟨_, rfl, k, cE _, hs⟩
  ·cases h
 | 0, i :: j :: r, l, k, n, x, s, hm, _, _, _ => by simp at hm
 | m + 1, i :: j :: r, l, k, n, x, s, hm, ho, hn, h => by
  simp only [stZ] at h;split at h
  ·rename_i hij
   cases q : l[i.toNat]? with
   | none => rw [q] at h; cases h
   | some t =>
    rw [q] at h;dsimp only at h;cases q2 : t.blocks[j.toNat]? with
    | none => rw [q2] at h; cases h
    | some b =>
     rw [q2] at h;dsimp only at h;have hlt : i.toNat < l.length := (aH.mp q).1;have hlt2 : j.toNat < t.blocks.length := (aH.mp q2).1;have ht := ho.mem t (bS q);obtain ⟨hk, hb⟩ := CH ht b (bS q2);have hix : atI (bR l) i = some t.d := by
      rw [hY (n := i.toNat) (by omega), sE, cL, q]
      rfl
     have hix2 : atI (bls t.blocks) j = some (.lst (bR b)) := by
      rw [hY (n := j.toNat) (by omega)]
      simp [bls, q2]
     simp only [aK] at hm;obtain ⟨c, e, j', h1, h2⟩ := Ts (S := S) (a0 := a0) (a1 := a1) m r b (k - 1) (n + 1 + 1) (.dat t.d) s (by omega) hb (by omega) h
     refine ⟨c, ?_, j', by omega, h2⟩
     rw [aN, aN, eC, loop];simp only [pR, jQ, aK, bF, if_true, bZ, bD];rw [kH];simp! [dZ, decide_eq_true hij.1, fE, decide_eq_true (show i < (l.length : Int) by omega), rV (show (0 : Int) < 2 by decide), decide_eq_true (show ((n : Nat) : Int) % 2 = 0 by omega), wH hix, yY ht.no]
     rw [eC, loop];simp only [pR, jQ, aK, bF, if_true, bZ, bD];simp! [dZ, decide_eq_true hij.2, BE, decide_eq_true (show j < (t.blocks.length : Int) by omega), rV (show (0 : Int) < 2 by decide), decide_eq_false (show ¬ ((n + 1 : Nat) : Int) % 2 = 0 by omega), wH hix2]
     rw [<- kH];exact e
  ·cases h
theorem As {S : aO} {bs : List (List Stt)} {p : Int} (hl : bs.length <= 10) : gS [.dat (fF bs), .dat (.int p)] S = .ok (.dat (.bl (decide (0 <= p) && decide (p < (bs.length : Int))))) S := by
 rw [Cq];unfold gT;simp! [dZ, PM hl]
 by_cases h : 0 <= p
 ·simp! [decide_eq_true h, PM hl]; rfl
 ·simp! [decide_eq_false h]; rfl
mutual
def repS (x : D) (k : Nat) : Stt -> Stt
 | .keep b => .keep (repL x k b)
 | .again b => .again (repL x k b)
 | .either a b => if k < cQ a then .either (repL x k a) b else .either a (repL x (k - cQ a) b)
 | .call g f a b => if k < cQ a then .call g f (repL x k a) b else .call g f a (repL x (k - cQ a) b)
 | s => s
def repL (x : D) (k : Nat) : List Stt -> List Stt
 | [] => []
 | s :: r => if k = 0 then .odd x :: r else if k < s.size then repS x (k - 1) s :: r else s :: repL x (k - s.size) r
end
inductive Deed where
 | cmd (c : Cmd) | op | cl
def Deed.d : Deed -> D
 | .cmd c => c.d
 | .op => .tup [.str "open"]
 | .cl => .tup [.str "close"]
abbrev gN := Int × Bool × List Stt × List Stt
def Ue (c : gN) : D := (Stt.call c.1 c.2.1 c.2.2.1 c.2.2.2).d
inductive Task where
 | lst (l : List Stt) (i : Nat) | close | again (b : List Stt) | call (p : Nat) (st : Option gN)
def Task.d : Task -> D
 | .lst l i => .tup [.str "list", .lst (bR l), .int (i : Int)]
 | .close => .tup [.str "close"]
 | .again b => .tup [.str "again", .lst (bR b)]
 | .call p none => .tup [.str "call", .int (p : Int), .non]
 | .call p (some c) => .tup [.str "call", .int (p : Int), Ue c]
structure Mc where
 bs : List (List Stt)
 bits : List Int
 taken : Nat
 deeds : List Deed
 stk : List Task
 act : List (List Nat)
 ended : Int
def uT {α : Type} (f : α -> D) (l : List α) : List D := l.reverse.map f
theorem rvD_cons {α : Type} {f : α -> D} {x : α} {l : List α} : uT f (x :: l) = uT f l ++ [f x] := by simp [uT]
theorem oK {α : Type} {f : α -> D} {l : List α} : (uT f l).length = l.length := by simp [uT]
abbrev E6 (n : Nat) : D := .int (n : Int)
def Kd (n : Nat) (m : Mc) : Cell := .ins "Execution" [("own", .dat (.lst (bls m.bs))), ("bits", .dat (.lst (m.bits.map D.int))), ("taken", .dat (.int (m.taken : Int))), ("deeds", .cel (n + 1)), ("stack", .cel (n + 2)), ("active", .cels (fO (n + 3) m.act.length)), ("ended", .dat (.int m.ended))]
def eQ (S0 : aO) (m : Mc) : aO := S0 ++ (Kd S0.length m :: .lst (m.deeds.map Deed.d) :: .lst (uT Task.d m.stk) :: m.act.map fun a => .lst (uT E6 a))
section
variable {S0 : aO} {m : Mc}
theorem tX : (eQ S0 m)[S0.length]? = some (Kd S0.length m) := by simp [eQ]
theorem EV : (eQ S0 m)[S0.length + 1]? = some (.lst (m.deeds.map Deed.d)) := by
 rw [eQ, bC (by omega), show S0.length + 1 - S0.length = 1 by omega]; rfl
theorem xY : (eQ S0 m)[S0.length + 2]? = some (.lst (uT Task.d m.stk)) := by
 rw [eQ, bC (by omega), show S0.length + 2 - S0.length = 2 by omega]; rfl
theorem EW {p : Nat} {a : List Nat} (h : m.act[p]? = some a) : (eQ S0 m)[S0.length + 3 + p]? = some (.lst (uT E6 a)) := by
 rw [eQ, bC (by omega), show S0.length + 3 + p - S0.length = p + 1 + 1 + 1 by omega, fU, fU, fU, cL, h]
 rfl
theorem MA {c : Cell} : (eQ S0 m).set S0.length c = S0 ++ (c :: .lst (m.deeds.map Deed.d) :: .lst (uT Task.d m.stk) :: m.act.map fun a => .lst (uT E6 a)) := by simp [eQ]
theorem TU {t : Nat} : (eQ S0 m).set S0.length (Kd S0.length { m with taken := t }) = eQ S0 { m with taken := t } := by rw [MA]; rfl
theorem TV {w : Int} : (eQ S0 m).set S0.length (Kd S0.length { m with ended := w }) = eQ S0 { m with ended := w } := by rw [MA]; rfl
theorem TX {ds : List Deed} : (eQ S0 m).set (S0.length + 1) (.lst (ds.map Deed.d)) = eQ S0 { m with deeds := ds } := by
 rw [eQ, dN _ _ (by omega), show S0.length + 1 - S0.length = 1 by omega]; rfl
theorem HW {ks : List Task} : (eQ S0 m).set (S0.length + 2) (.lst (uT Task.d ks)) = eQ S0 { m with stk := ks } := by
 rw [eQ, dN _ _ (by omega), show S0.length + 2 - S0.length = 2 by omega]; rfl
theorem M9 {p : Nat} {a : List Nat} : (eQ S0 m).set (S0.length + 3 + p) (.lst (uT E6 a)) = eQ S0 { m with act := m.act.set p a } := by
 rw [eQ, dN _ _ (by omega), show S0.length + 3 + p - S0.length = p + 1 + 1 + 1 by omega, bZ, bZ, bZ]
 simp [eQ, Kd, List.map_set]
theorem WL : Cn "Execution" "own" (.cel S0.length) (eQ S0 m) = .ok (.dat (.lst (bls m.bs))) (eQ S0 m) := vP tX rfl
theorem HP : Cn "Execution" "bits" (.cel S0.length) (eQ S0 m) = .ok (.dat (.lst (m.bits.map D.int))) (eQ S0 m) := vP tX rfl
theorem pM : Cn "Execution" "taken" (.cel S0.length) (eQ S0 m) = .ok (.dat (.int (m.taken : Int))) (eQ S0 m) := vP tX rfl
theorem rY : Cn "Execution" "deeds" (.cel S0.length) (eQ S0 m) = .ok (.cel (S0.length + 1)) (eQ S0 m) := vP tX rfl
theorem fZ : Cn "Execution" "stack" (.cel S0.length) (eQ S0 m) = .ok (.cel (S0.length + 2)) (eQ S0 m) := vP tX rfl
theorem CA : Cn "Execution" "active" (.cel S0.length) (eQ S0 m) = .ok (.cels (fO (S0.length + 3) m.act.length)) (eQ S0 m) := vP tX rfl
theorem QQ : Cn "Execution" "ended" (.cel S0.length) (eQ S0 m) = .ok (.dat (.int m.ended)) (eQ S0 m) := vP tX rfl
theorem C0 {p : Nat} (h : p < m.act.length) : cH (.cels (fO (S0.length + 3) m.act.length)) (.dat (.int (p : Int))) (eQ S0 m) = .ok (.cel (S0.length + 3 + p)) (eQ S0 m) := by
 have : atI (fO (S0.length + 3) m.act.length) (p : Int) = some (S0.length + 3 + p) := by
  rw [hY (n := p) rfl];simp [h]
 simp only [cH, this]
theorem Ap {f : Str} (h : ∀ x ∈ (["own", "bits", "taken", "deeds", "stack", "active", "ended"] : List Str), x ≠ f) : rR (eQ S0 m) "Execution" f (.cel S0.length) = true := by
 have e := tX (S0 := S0) (m := m);simp only [rR, e, Kd];simp [h]
theorem Mp {ρ : Ev} {w : Int} : A1 "Execution" "ended" ρ (.dat (.int w)) (.cel S0.length) (eQ S0 m) = .next ρ (eQ S0 { m with ended := w }) := by
 rw [EM (fs := [("own", .dat (.lst (bls m.bs))), ("bits", .dat (.lst (m.bits.map D.int))), ("taken", .dat (.int (m.taken : Int))), ("deeds", .cel (S0.length + 1)), ("stack", .cel (S0.length + 2)), ("active", .cels (fO (S0.length + 3) m.act.length)), ("ended", .dat (.int m.ended))]) tX (by simp)]
 congr 1
 simp only [pE, Ge, String.reduceEq, if_false, if_true];exact TV (S0 := S0) (m := m) (w := w)
theorem Nq {ρ : Ev} {o e : FE} (ho : o ρ (eQ S0 m) = .ok (.cel S0.length) (eQ S0 m)) (he : e ρ (eQ S0 m) = .ok (.dat (.int 1)) (eQ S0 m)) : Fv (fun x y => x + y) "Execution" "taken" o e ρ (eQ S0 m) = .next ρ (eQ S0 { m with taken := m.taken + 1 }) := by
 rw [Tr (w := 1) (u := (m.taken : Int)) ho he tX rfl (by simp)]
 congr 1
 simp only [pE, Ge, String.reduceEq, if_false, if_true];exact TU (S0 := S0) (m := m) (t := m.taken + 1)
end
theorem Hl {n : Nat} (h : n < 10000000) : n < sizeLine := Nat.lt_trans h (by decide)
structure Mc.Fit (m : Mc) : Prop where
 d : m.deeds.length < 4000000
 k : m.stk.length < 4000000
 a : ∀ a ∈ m.act, a.length < 4000000
section
variable {S0 : aO} {m : Mc}
theorem qQ {ρ : Ev} {b : FE} {t : Task} (F : m.stk.length < 5000000) (hb : b ρ (eQ S0 m) = .ok (.dat t.d) (eQ S0 m)) : vL b ρ (.cel (S0.length + 2)) (eQ S0 m) = .ok (.dat .non) (eQ S0 { m with stk := t :: m.stk }) := by
 rw [lW xY, hb, dX, nI xY (by rw [oK]; exact Hl (by omega)), <- rvD_cons, HW]
theorem qZ {ρ : Ev} {b : FE} {t : Deed} (F : m.deeds.length < 5000000) (hb : b ρ (eQ S0 m) = .ok (.dat t.d) (eQ S0 m)) : vL b ρ (.cel (S0.length + 1)) (eQ S0 m) = .ok (.dat .non) (eQ S0 { m with deeds := m.deeds ++ [t] }) := by
 rw [lW EV, hb, dX, nI EV (by rw [aP]; exact Hl (by omega)), show m.deeds.map Deed.d ++ [t.d] = (m.deeds ++ [t]).map Deed.d by simp, TX]
theorem Tt {ρ : Ev} {b : FE} {p k : Nat} {a : List Nat} (h : m.act[p]? = some a) (F : a.length < 5000000) (hb : b ρ (eQ S0 m) = .ok (.dat (.int (k : Int))) (eQ S0 m)) : vL b ρ (.cel (S0.length + 3 + p)) (eQ S0 m) = .ok (.dat .non) (eQ S0 { m with act := m.act.set p (k :: a) }) := by
 rw [lW (EW h), hb, dX, nI (EW h) (by rw [oK]; exact Hl (by omega)), show uT E6 a ++ [.int (k : Int)] = uT E6 (k :: a) from rvD_cons.symm, M9]
theorem AX {t : Task} {r : List Task} (h : m.stk = t :: r) : sD (.cel (S0.length + 2)) (eQ S0 m) = .ok (.dat t.d) (eQ S0 { m with stk := r }) := by
 have e := xY (S0 := S0) (m := m);rw [h, rvD_cons] at e;simp only [sD, e];rw [show (uT Task.d r ++ [t.d])[(uT Task.d r ++ [t.d]).length - 1]? = some t.d by simp]
 dsimp only;rw [lF, HW]
theorem Le {p k : Nat} {a : List Nat} (h : m.act[p]? = some (k :: a)) : sD (.cel (S0.length + 3 + p)) (eQ S0 m) = .ok (.dat (.int (k : Int))) (eQ S0 { m with act := m.act.set p a }) := by
 have e := EW (S0 := S0) h;rw [rvD_cons] at e;simp only [sD, e];rw [show (uT E6 a ++ [E6 k])[(uT E6 a ++ [E6 k]).length - 1]? = some (E6 k) by simp]
 dsimp only;rw [lF, M9]
end
def mI (i : Int) : Er := ⟨"NoRun", ["index"], [.int i]⟩
theorem LO {S0 : aO} {m : Mc} (h : m.taken = m.bits.length) : eG [.cel S0.length] (eQ S0 m) = .err (mI (m.taken : Int)) (eQ S0 m) := by
 rw [uR];unfold iL;simp! [pM, HP, aP, decide_eq_true (show ((m.taken : Nat) : Int) = (m.bits.length : Int) by omega)]
 rfl
theorem LN {S0 : aO} {m : Mc} {b : Int} (h : m.bits[m.taken]? = some b) : eG [.cel S0.length] (eQ S0 m) = .ok (.dat (.int b)) (eQ S0 { m with taken := m.taken + 1 }) := by
 have hl := (aH.mp h).1;have hix : atI (m.bits.map D.int) (((m.taken + 1 : Nat) : Int) - 1) = some (.int b) := by
  rw [hY (n := m.taken) (by omega), cL, h]; rfl
 have ea := Nq (S0 := S0) (m := m) (ρ := [some (.cel S0.length)]) (o := aC 0) (e := mC (.int 1)) rfl rfl;have hf := pM (S0 := S0) (m := { m with taken := m.taken + 1 })
 have hb := HP (S0 := S0) (m := { m with taken := m.taken + 1 })
 rw [uR];unfold iL;simp! [pM, HP, aP, decide_eq_false (show ¬ ((m.taken : Nat) : Int) = (m.bits.length : Int) by omega), ea, hf, hb, wH hix]
 rfl
def LP : Option gN -> D
 | none => .non
 | some c => Ue c
theorem Kx {p : Nat} {st : Option gN} : (Task.call p st).d = .tup [.str "call", .int (p : Int), LP st] := by cases st <;> rfl
def Mc.free (m : Mc) (p : Nat) : Prop := ∀ a k, m.act[p]? = some (k :: a) -> k ≠ m.taken
def Mc.enter (m : Mc) (p : Nat) (a : List Nat) (b : List Stt) (st : Option gN) : Mc := { m with act := m.act.set p (m.taken :: a), stk := .lst b 0 :: .call p st :: m.stk }
theorem Ll {S0 : aO} {m : Mc} {p : Nat} {a : List Nat} (h : m.act[p]? = some a) : eW (.cel (S0.length + 3 + p)) (eQ S0 m) = .ok (.dat (.int (a.length : Int))) (eQ S0 m) := by rw [rW (EW h), oK]
theorem atI_last {α : Type} {xs : List α} {x : α} : atI (xs ++ [x]) (-1) = some x := by
 have e : ixN (xs ++ [x]).length (-1) = some xs.length := by
  unfold ixN;rw [if_neg (by omega), if_pos (by simp; omega)]
  congr 1
  simp;omega
 unfold atI;rw [e];simp
theorem Iz {S0 : aO} {m : Mc} {p k : Nat} {a : List Nat} (h : m.act[p]? = some (k :: a)) : cH (.cel (S0.length + 3 + p)) (.dat (.int (-1))) (eQ S0 m) = .ok (.dat (.int (k : Int))) (eQ S0 m) := by
 refine QG (EW h) ?_
 rw [rvD_cons];exact atI_last
theorem JX {S0 : aO} {m : Mc} {p : Nat} {a : List Nat} {b : List Stt} {st : Option gN} (F : m.Fit) (ha : m.act[p]? = some a) (hb : m.bs[p]? = some b) (hf : m.free p) : eM [.cel S0.length, .dat (.int (p : Int)), .dat (LP st)] (eQ S0 m) = .ok (.dat .non) (eQ S0 (m.enter p a b st)) := by
 have hpl := (aH.mp ha).1;have hbx : atI (bls m.bs) (p : Int) = some (.lst (bR b)) := by
  rw [hY (n := p) rfl];simp [bls, hb]
 have Fa := F.a a (bS ha);have Fk := F.k;rw [tJ];unfold hX;have e1 := Tt (S0 := S0) (m := m) (k := m.taken) (ρ := [some (.cel S0.length), some (.dat (.int (p : Int))), some (.dat (LP st)), some (.cel (S0.length + 3 + p))]) (b := gZ "Execution" "taken" (aC 0)) ha (by omega) (by simp! [pM])
 have e2 := qQ (S0 := S0) (m := { m with act := m.act.set p (m.taken :: a) }) (ρ := [some (.cel S0.length), some (.dat (.int (p : Int))), some (.dat (LP st)), some (.cel (S0.length + 3 + p))]) (b := bX (aB (mC (.str "call")) (aB (aC 1) (aB (aC 2) aL)))) (t := .call p st) (show m.stk.length < 5000000 by omega) (by simp! [Kx])
 have hbx' := hbx;have e3 := qQ (S0 := S0) (m := { m with act := m.act.set p (m.taken :: a), stk := .call p st :: m.stk }) (ρ := [some (.cel S0.length), some (.dat (.int (p : Int))), some (.dat (LP st)), some (.cel (S0.length + 3 + p))]) (b := bX (aB (mC (.str "list")) (aB (aU cH (gZ "Execution" "own" (aC 0)) (aC 1)) (aB (mC (.int 0)) aL)))) (t := .lst b 0) (by simp; omega) (by simp! [WL, wH hbx]; rfl)
 have f2 := fZ (S0 := S0) (m := { m with act := m.act.set p (m.taken :: a) })
 have f3 := fZ (S0 := S0) (m := { m with act := m.act.set p (m.taken :: a), stk := .call p st :: m.stk })
 simp! [CA, C0 hpl, Ll ha];cases a with
 | nil =>
  simp! [bF, nK, CA, C0 hpl, e1, f2, e2, f3, e3];rfl
 | cons k a =>
  have hne : ¬ ((k : Nat) : Int) = (m.taken : Int) := fun e => hf a k ha (by omega)
  have hpos : (0 : Int) < ((a.length + 1 : Nat) : Int) := by omega
  simp! [aK, decide_eq_true hpos, Iz ha, pM, decide_eq_false hne, CA, C0 hpl, e1, f2, e2, f3, e3];rfl
theorem QZ {S0 : aO} {m : Mc} {p : Nat} {a : List Nat} {st : Option gN} (ha : m.act[p]? = some (m.taken :: a)) : eM [.cel S0.length, .dat (.int (p : Int)), .dat (LP st)] (eQ S0 m) = .err (mI (-2)) (eQ S0 m) := by
 have hpl := (aH.mp ha).1;rw [tJ];unfold hX;simp! [CA, C0 hpl, Ll ha, aK, decide_eq_true (show (0 : Int) < ((a.length + 1 : Nat) : Int) by omega), Iz ha, pM]
 rfl
def Mc.leave (m : Mc) (p : Nat) (a : List Nat) (st : Option gN) (way : Int) : Mc := match st with
 | none => { m with act := m.act.set p a, ended := way }
 | some c => { m with act := m.act.set p a, deeds := m.deeds ++ (if c.2.1 then [.cl] else []), stk := .lst (if way = 0 then c.2.2.1 else c.2.2.2) 0 :: m.stk }
theorem Pf {c : gN} {S : aO} : cH (.dat (Ue c)) (.dat (.int 2)) S = .ok (.dat (.bl c.2.1)) S := lL
theorem KY {c : gN} {S : aO} : cH (.dat (Ue c)) (.dat (.int 3)) S = .ok (.dat (.lst [.lst (bR c.2.2.1), .lst (bR c.2.2.2)])) S := KZ
theorem Pj {c : gN} : isNon (.dat (Ue c)) = false := rfl
theorem Iu {S0 : aO} {m : Mc} {p k : Nat} {a : List Nat} {st : Option gN} {way : Int} (F : m.Fit) (ha : m.act[p]? = some (k :: a)) (hw : way = 0 \/ way = 1) : gY [.cel S0.length, .dat (.int (p : Int)), .dat (LP st), .dat (.int way)] (eQ S0 m) = .ok (.dat .non) (eQ S0 (m.leave p a st way)) := by
 have hpl := (aH.mp ha).1;have Fk := F.k;have Fd := F.d;rw [BV];unfold jX;cases st with
 | none =>
  have e1 := Mp (S0 := S0) (m := { m with act := m.act.set p a }) (ρ := [some (.cel S0.length), some (.dat (.int (p : Int))), some (.dat .non), some (.dat (.int way))]) (w := way)
  simp! [LP, CA, C0 hpl, Le ha, e1];rfl
 | some c =>
  have hz : ∀ S, cH (.dat (.lst [.lst (bR c.2.2.1), .lst (bR c.2.2.2)])) (.dat (.int way)) S = .ok (.dat (.lst (bR (if way = 0 then c.2.2.1 else c.2.2.2)))) S := fun S => by
   rcases hw with rfl | rfl
   ·exact C1
   ·exact FB
  have e1 := qZ (S0 := S0) (m := { m with act := m.act.set p a }) (ρ := [some (.cel S0.length), some (.dat (.int (p : Int))), some (.dat (Ue c)), some (.dat (.int way))]) (b := bX (aB (mC (.str "close")) aL)) (t := .cl) (show m.deeds.length < 5000000 by omega) (by simp! [Deed.d])
  have e2 := fun ds => qQ (S0 := S0) (m := { m with act := m.act.set p a, deeds := ds }) (ρ := [some (.cel S0.length), some (.dat (.int (p : Int))), some (.dat (Ue c)), some (.dat (.int way))]) (b := bX (aB (mC (.str "list")) (aB (aU cH (aU cH (aC 2) (mC (.int 3))) (aC 3)) (aB (mC (.int 0)) aL)))) (t := .lst (if way = 0 then c.2.2.1 else c.2.2.2) 0) (show m.stk.length < 5000000 by omega) (by simp! [KY, hz]; rfl)
  have f1 := rY (S0 := S0) (m := { m with act := m.act.set p a })
  have f2 := fun ds => fZ (S0 := S0) (m := { m with act := m.act.set p a, deeds := ds })
  have e2' := e2 m.deeds;have f2' := f2 m.deeds;simp! [LP, CA, C0 hpl, Le ha, Pj, Pf];cases q : c.2.1 with
  | true =>
   simp! [f1, e1, f2, e2];simp only [Mc.leave, q];rfl
  | false =>
   simp! [f2', e2'];simp only [Mc.leave, q];simp;rfl
def AA : List Task -> List Deed -> Option (List Deed × Nat × Option gN × List Task)
 | [], _ => none
 | .call p st :: r, ds => some (ds, p, st, r)
 | .close :: r, ds => AA r (ds ++ [.cl])
 | .lst _ _ :: r, ds => AA r ds
 | .again _ :: r, ds => AA r ds
def Task.word : Task -> Str
 | .lst _ _ => "list"
 | .close => "close"
 | .again _ => "again"
 | .call _ _ => "call"
theorem sW {t : Task} {S : aO} : cH (.dat t.d) (.dat (.int 0)) S = .ok (.dat (.str t.word)) S := by
 cases t with
 | call p st => cases st <;> rfl
 | _ => rfl
theorem Cs {mt : FT} {mb : FS} {k : Nat} {ρ ρ' : Ev} {S S' : aO} (h1 : mt ρ S = .ok true S) (h2 : mb ρ S = .next ρ' S') : sN mt mb (k + 1) ρ S = sN mt mb k ρ' S' := by
 rw [sN, h1, nH, if_pos rfl, h2]
theorem O7 {mt : FT} {mb : FS} {k : Nat} {ρ : Ev} {S : aO} (h1 : mt ρ S = .ok false S) : sN mt mb (k + 1) ρ S = .next ρ S := by
 rw [sN, h1, nH, if_neg (by simp)]
theorem AC {S0 : aO} {way : Vl} : ∀ (ts : List Task) (t : Task) (m : Mc) (ds : List Deed) (p : Nat) (st : Option gN) (r : List Task) (k : Nat), m.stk = ts -> AA (t :: ts) m.deeds = some (ds, p, st, r) -> ts.length < k -> m.deeds.length + ts.length < 4500000 ->
  sN (mB (aU Jx (aU cH (aC 2) (mC (.int 0))) (mC (.str "call")))) eF k [some (.cel S0.length), some way, some (.dat t.d)] (eQ S0 m) = .next [some (.cel S0.length), some way, some (.dat (Task.call p st).d)] (eQ S0 { m with stk := r, deeds := ds })
 | ts, .call p' st', m, ds, p, st, r, k, hs, hu, hk, hd => by
  obtain ⟨k, rfl⟩ : ∃ k', k = k' + 1 := ⟨k - 1, by omega⟩
  simp only [AA] at hu;cases hu;rw [O7 (by simp! [sW, Task.word])]
  subst hs;rfl
 | [], .close, m, ds, p, st, r, k, hs, hu, hk, hd => by simp [AA] at hu
 | [], .lst _ _, m, ds, p, st, r, k, hs, hu, hk, hd => by simp [AA] at hu
 | [], .again _, m, ds, p, st, r, k, hs, hu, hk, hd => by simp [AA] at hu
 | t' :: ts, .close, m, ds, p, st, r, k, hs, hu, hk, hd => by
  simp only [aK] at hk hd;obtain ⟨k, rfl⟩ : ∃ k', k = k' + 1 := ⟨k - 1, by omega⟩
  have e1 := qZ (S0 := S0) (m := m) (ρ := [some (.cel S0.length), some way, some (.dat Task.close.d)]) (b := aC 2) (t := .cl) (by omega) rfl
  have f2 := fZ (S0 := S0) (m := { m with deeds := m.deeds ++ [.cl] })
  have e2 := AX (S0 := S0) (m := { m with deeds := m.deeds ++ [.cl] }) (t := t') (r := ts) hs
  rw [Cs (ρ' := [some (.cel S0.length), some way, some (.dat t'.d)]) (S' := eQ S0 { m with deeds := m.deeds ++ [.cl], stk := ts }) (by simp! [sW, Task.word]) (by unfold eF; simp! [sW, Task.word, rY, e1, f2, e2])]
  exact AC ts t' { m with deeds := m.deeds ++ [.cl], stk := ts } ds p st r k rfl (by simpa [AA] using hu) (by omega) (by simp; omega)
 | t' :: ts, .lst l i, m, ds, p, st, r, k, hs, hu, hk, hd => by
  simp only [aK] at hk hd;obtain ⟨k, rfl⟩ : ∃ k', k = k' + 1 := ⟨k - 1, by omega⟩
  have e2 := AX (S0 := S0) (m := m) (t := t') (r := ts) hs;rw [Cs (ρ' := [some (.cel S0.length), some way, some (.dat t'.d)]) (S' := eQ S0 { m with stk := ts }) (by simp! [sW, Task.word]) (by unfold eF; simp! [sW, Task.word, fZ, e2])]
  exact AC ts t' { m with stk := ts } ds p st r k rfl (by simpa [AA] using hu) (by omega) (by simp; omega)
 | t' :: ts, .again l, m, ds, p, st, r, k, hs, hu, hk, hd => by
  simp only [aK] at hk hd;obtain ⟨k, rfl⟩ : ∃ k', k = k' + 1 := ⟨k - 1, by omega⟩
  have e2 := AX (S0 := S0) (m := m) (t := t') (r := ts) hs;rw [Cs (ρ' := [some (.cel S0.length), some way, some (.dat t'.d)]) (S' := eQ S0 { m with stk := ts }) (by simp! [sW, Task.word]) (by unfold eF; simp! [sW, Task.word, fZ, e2])]
  exact AC ts t' { m with stk := ts } ds p st r k rfl (by simpa [AA] using hu) (by omega) (by simp; omega)
theorem J4 {p : Nat} {st : Option gN} {S : aO} : cH (.dat (Task.call p st).d) (.dat (.int 1)) S = .ok (.dat (.int (p : Int))) S := by rw [Kx]; exact eZ
theorem J3 {p : Nat} {st : Option gN} {S : aO} : cH (.dat (Task.call p st).d) (.dat (.int 2)) S = .ok (.dat (LP st)) S := by rw [Kx]; exact lL
theorem AD : ∀ {ts : List Task} {d0 ds : List Deed} {p : Nat} {st : Option gN} {r : List Task}, AA ts d0 = some (ds, p, st, r) -> ds.length + r.length < d0.length + ts.length /\ r.length < ts.length
 | .call p st :: r, d0, ds, p', st', r', h => by simp [AA] at h; obtain ⟨rfl, rfl, rfl, rfl⟩ := h; simp
 | .close :: r, d0, ds, p', st', r', h => by
  have := AD (ts := r) (show AA r (d0 ++ [.cl]) = _ from h)
  simp at this ⊢;omega
 | .lst _ _ :: r, d0, ds, p', st', r', h => by
  have := AD (ts := r) (show AA r d0 = _ from h)
  simp;omega
 | .again _ :: r, d0, ds, p', st', r', h => by
  have := AD (ts := r) (show AA r d0 = _ from h)
  simp;omega
structure Mc.Sm (m : Mc) : Prop where
 k : m.stk.length < 900000
 d : m.deeds.length < 900000
 a : ∀ a ∈ m.act, a.length < 900000
theorem Mc.Sm.fit {m : Mc} (h : m.Sm) : m.Fit := ⟨by have := h.d; omega, by have := h.k; omega, fun a ha => by have := h.a a ha; omega⟩
theorem MX {S0 : aO} {m : Mc} {way : Int} {ds : List Deed} {p k : Nat} {st : Option gN} {r : List Task} {a : List Nat} (F : m.Sm) (hu : AA m.stk m.deeds = some (ds, p, st, r)) (ha : m.act[p]? = some (k :: a)) (hw : way = 0 \/ way = 1) :
  iV [.cel S0.length, .dat (.int way)] (eQ S0 m) = .ok (.dat .non) (eQ S0 (({ m with stk := r, deeds := ds } : Mc).leave p a st way)) := by
 have Fk := F.k;have Fd := F.d;cases hs : m.stk with
 | nil => rw [hs] at hu; simp [AA] at hu
 | cons t ts =>
  rw [hs] at hu;have hlen := AD hu;rw [hs] at Fk;simp only [aK] at Fk hlen;have e1 := AX (S0 := S0) hs;have e2 := AC (S0 := S0) (way := .dat (.int way)) ts t { m with stk := ts } ds p st r 1000000 rfl hu (by omega) (by simp; omega)
  have e3 := Iu (S0 := S0) (m := { m with stk := r, deeds := ds }) (st := st) (way := way) ⟨by simp; omega, by simp; omega, F.fit.a⟩ ha hw
  have hi := Ap (S0 := S0) (m := { m with stk := r, deeds := ds }) (f := "leave") (by decide)
  rw [A8];unfold jC;simp! [fZ, e1, Bu, e2, jA hi, J4, J3, e3];rfl
inductive SR where
 | ok (m : Mc) | err (i : Int) (m : Mc) | no
def iK (s : Stt) (m : Mc) : SR := match s with
 | .cmd c => .ok { m with deeds := m.deeds ++ [.cmd c] }
 | .fin w => (match AA m.stk m.deeds with
  | some (ds, p, st, r) => (match m.act[p]? with
   | some (_ :: a) => .ok (({ m with stk := r, deeds := ds } : Mc).leave p a st w)
   | _ => .no)
  | none => .no)
 | .keep b => .ok { m with deeds := m.deeds ++ [.op], stk := .lst b 0 :: .close :: m.stk }
 | .either x y => (match m.bits[m.taken]? with
  | none => .err (m.taken : Int) m
  | some b => .ok { m with taken := m.taken + 1, stk := .lst (if b = 0 then x else y) 0 :: m.stk })
 | .again b => .ok { m with stk := .again b :: m.stk }
 | .call g f x y => (match m.act[g.toNat]?, m.bs[g.toNat]? with
  | some a, some b => if a.head? = some m.taken then .err (-2) { m with deeds := m.deeds ++ (if f then [.op] else []) } else .ok (({ m with deeds := m.deeds ++ (if f then [.op] else []) } : Mc).enter g.toNat a b (some (g, f, x, y)))
  | _, _ => .no)
 | _ => .no
def eU (m : Mc) : SR := match m.stk with
 | [] => .no
 | .lst l i :: r => (match l[i]? with
  | none => .ok { m with stk := r }
  | some s => iK s { m with stk := .lst l (i + 1) :: r })
 | .close :: r => .ok { m with stk := r, deeds := m.deeds ++ [.cl] }
 | .again b :: r => (match m.bits[m.taken]? with
  | none => .err (m.taken : Int) { m with stk := r }
  | some x => if x = 1 then .ok { m with taken := m.taken + 1, stk := .lst b 0 :: .again b :: r } else .ok { m with taken := m.taken + 1, stk := r })
 | .call p st :: r => (match m.act[p]? with
  | some (_ :: a) => .ok (({ m with stk := r } : Mc).leave p a st 0)
  | _ => .no)
def Wg (r : Res Vl) (S0 : aO) (x : SR) : Prop := match x with
 | .ok m => r = .ok (.dat .non) (eQ S0 m)
 | .err i m => r = .err (mI i) (eQ S0 m)
 | .no => True
structure Mc.Wf (m : Mc) : Prop where
 t : m.taken <= m.bits.length
 b : ∀ b ∈ m.bits, b = 0 \/ b = 1
theorem Qu {S0 : aO} {m m' : Mc} {ρ : Ev} {b : FE} {t : Task} (F : m'.stk.length < 5000000) (hb : b ρ (eQ S0 m) = .ok (.dat t.d) (eQ S0 m')) : vL b ρ (.cel (S0.length + 2)) (eQ S0 m) = .ok (.dat .non) (eQ S0 { m' with stk := t :: m'.stk }) := by
 rw [lW xY, hb, dX, nI xY (by rw [oK]; exact Hl (by omega)), <- rvD_cons, HW]
theorem Qt {S0 : aO} {m m' : Mc} {ρ : Ev} {b : FE} {e : Er} (hb : b ρ (eQ S0 m) = .err e (eQ S0 m')) : vL b ρ (.cel (S0.length + 2)) (eQ S0 m) = .err e (eQ S0 m') := by
 rw [lW xY, hb, EN]
theorem Qp {S0 : aO} {m : Mc} {s : Stt} {many : Int} {k : Nat} (ho : s.Ok many k) (F : m.Sm) (W : m.Wf) : Wg (jT [.cel S0.length, .dat s.d] (eQ S0 m)) S0 (iK s m) := by
 have Fk := F.k;have Fd := F.d;rw [BW];unfold jY;cases s with
 | bad => trivial
 | odd x => trivial
 | cmd c =>
  have e1 := qZ (S0 := S0) (m := m) (ρ := [some (.cel S0.length), some (.dat c.d), some (.dat (.str (Stt.cmd c).word))]) (b := aC 1) (t := .cmd c) (by omega) rfl
  have hw : ∀ S, cH (.dat c.d) (.dat (.int 0)) S = .ok (.dat (.str (Stt.cmd c).word)) S := fun S => HF (s := .cmd c) rfl
  show _ = _
  simp! [Stt.d, hw, Kb ho, rY, e1];rfl
 | fin w =>
  simp only [iK];cases hu : AA m.stk m.deeds with
  | none => trivial
  | some x =>
   obtain ⟨ds, p, st, r⟩ := x;dsimp only;cases ha : m.act[p]? with
   | none => trivial
   | some l =>
    cases l with
    | nil => trivial
    | cons k0 a =>
     have e1 := MX (S0 := S0) (way := w) F hu ha (by obtain ⟨h1, h2⟩ := ho; omega)
     have hi := Ap (S0 := S0) (m := m) (f := "unwind") (by decide)
     show _ = _
     simp! [Stt.d, cO, eZ, kB Lv, jA hi, e1];rfl
 | keep b =>
  have e1 := qZ (S0 := S0) (m := m) (ρ := [some (.cel S0.length), some (.dat (.tup [.str "keep", .lst (bR b)])), some (.dat (.str "keep"))]) (b := bX (aB (mC (.str "open")) aL)) (t := .op) (by omega) (by simp! [Deed.d])
  have e2 := qQ (S0 := S0) (m := { m with deeds := m.deeds ++ [.op] }) (ρ := [some (.cel S0.length), some (.dat (.tup [.str "keep", .lst (bR b)])), some (.dat (.str "keep"))]) (b := bX (aB (mC (.str "close")) aL)) (t := .close) (show m.stk.length < 5000000 by omega) (by simp! [Task.d])
  have e3 := qQ (S0 := S0) (m := { m with deeds := m.deeds ++ [.op], stk := .close :: m.stk }) (ρ := [some (.cel S0.length), some (.dat (.tup [.str "keep", .lst (bR b)])), some (.dat (.str "keep"))]) (b := bX (aB (mC (.str "list")) (aB (aU cH (aC 1) (mC (.int 1))) (aB (mC (.int 0)) aL)))) (t := .lst b 0) (by simp; omega) (by simp! [eZ]; rfl)
  have f2 := fZ (S0 := S0) (m := { m with deeds := m.deeds ++ [.op] })
  have f3 := fZ (S0 := S0) (m := { m with deeds := m.deeds ++ [.op], stk := .close :: m.stk })
  show _ = _
  simp! [Stt.d, cO, kB EJ, rY, e1, f2, e2, f3, e3];rfl
 | either x y =>
  simp only [iK];have hi := Ap (S0 := S0) (m := m) (f := "take") (by decide)
  cases hb : m.bits[m.taken]? with
  | none =>
   have e1 := LO (S0 := S0) (m := m) (by have := W.t; have := lT.mp hb; omega)
   have e2 := Qt (S0 := S0) (m := m) (m' := m) (e := mI (m.taken : Int)) (ρ := [some (.cel S0.length), some (.dat (.tup [.str "either", .lst (bR x), .lst (bR y)])), some (.dat (.str "either"))]) (b := bX (aB (mC (.str "list")) (aB (aU cH (aC 1) (aU (dY false) (mC (.int 1)) (rO "Execution" "take" eG (aC 0) aL))) (aB (mC (.int 0)) aL)))) (by simp! [jA hi, e1])
   show _ = _
   simp! [Stt.d, cO, kB vN, fZ, e2];rfl
  | some b =>
   have e1 := LN (S0 := S0) hb;have hix : ∀ S, cH (.dat (.tup [.str "either", .lst (bR x), .lst (bR y)])) (.dat (.int (1 + b))) S = .ok (.dat (.lst (bR (if b = 0 then x else y)))) S := fun S => by
    rcases W.b b (bS hb) with rfl | rfl
    ·exact eZ
    ·exact lL
   have e2 := Qu (S0 := S0) (m := m) (m' := { m with taken := m.taken + 1 }) (ρ := [some (.cel S0.length), some (.dat (.tup [.str "either", .lst (bR x), .lst (bR y)])), some (.dat (.str "either"))]) (b := bX (aB (mC (.str "list")) (aB (aU cH (aC 1) (aU (dY false) (mC (.int 1)) (rO "Execution" "take" eG (aC 0) aL))) (aB (mC (.int 0)) aL)))) (t := .lst (if b = 0 then x else y) 0) (show m.stk.length < 5000000 by omega) (by simp! [jA hi, e1, hix]; rfl)
   show _ = _
   simp! [Stt.d, cO, kB vN, fZ, e2];rfl
 | again b =>
  have e2 := qQ (S0 := S0) (m := m) (ρ := [some (.cel S0.length), some (.dat (.tup [.str "again", .lst (bR b)])), some (.dat (.str "again"))]) (b := bX (aB (mC (.str "again")) (aB (aU cH (aC 1) (mC (.int 1))) aL))) (t := .again b) (by omega) (by simp! [eZ]; rfl)
  show _ = _
  simp! [Stt.d, cO, kB C3, fZ, e2];rfl
 | call g f x y =>
  obtain ⟨⟨_, g0, g1⟩, _⟩ := ho;simp only [iK];have hgn : g = (g.toNat : Int) := by omega
  cases ha : m.act[g.toNat]? with
  | none => trivial
  | some a =>
   cases hb : m.bs[g.toNat]? with
   | none => trivial
   | some b =>
    dsimp only;have main : ∀ ds : List Deed, ds.length <= m.deeds.length + 1 -> Wg (eM [.cel S0.length, .dat (.int g), .dat (LP (some (g, f, x, y)))] (eQ S0 { m with deeds := ds })) S0 (if a.head? = some m.taken then .err (-2) { m with deeds := ds } else .ok (({ m with deeds := ds } : Mc).enter g.toNat a b (some (g, f, x, y)))) := fun ds hds => by
     rw [show (D.int g) = D.int ((g.toNat : Nat) : Int) by rw [<- hgn]]
     split
     ·rename_i hh
      cases a with
      | nil => simp at hh
      | cons k0 a =>
       simp at hh;subst hh;exact QZ (m := { m with deeds := ds }) ha
     ·rename_i hh
      refine JX (m := { m with deeds := ds }) ⟨by simp; omega, by simp; omega, F.fit.a⟩ ha hb (fun a' k' h' e => hh ?_)
      have h2 : m.act[g.toNat]? = some (k' :: a') := h';rw [ha] at h2;cases h2;simp [e]
    have hd : (Stt.call g f x y).d = LP (some (g, f, x, y)) := rfl;have hsd : LP (some (g, f, x, y)) = .tup [.str "call", .int g, .bl f, .lst [.lst (bR x), .lst (bR y)]] := rfl;have hi := fun ds => Ap (S0 := S0) (m := { m with deeds := ds }) (f := "enter") (by decide)
    cases f with
    | false =>
     have mm := main m.deeds (by omega)
     have hi0 := hi m.deeds;simp only [CL, if_false, cY];rw [hsd] at mm;simp! [Stt.d, cO, eZ, lL, kB Aq, jA hi0]
     revert mm
     split
     ·intro mm
      have mm' : _ = _ := mm
      show _ = _
      simp! [mm'];rfl
     ·intro mm
      have mm' : _ = _ := mm
      show _ = _
      simp! [mm'];rfl
    | true =>
     have mm := main (m.deeds ++ [.op]) (by simp)
     have e1 := qZ (S0 := S0) (m := m) (ρ := [some (.cel S0.length), some (.dat (.tup [.str "call", .int g, .bl true, .lst [.lst (bR x), .lst (bR y)]])), some (.dat (.str "call"))]) (b := bX (aB (mC (.str "open")) aL)) (t := .op) (by omega) (by simp! [Deed.d])
     simp only [if_true];rw [hsd] at mm;simp! [Stt.d, cO, eZ, lL, kB Aq, rY, e1, jA (hi (m.deeds ++ [.op]))]
     revert mm
     split
     ·intro mm
      have mm' : _ = _ := mm
      show _ = _
      simp! [mm'];rfl
     ·intro mm
      have mm' : _ = _ := mm
      show _ = _
      simp! [mm'];rfl
def R4 (many : Int) (b : List Stt) : Prop := ∃ k, OkL many b k
def Task.OkT (many : Int) : Task -> Prop
 | .lst l _ => R4 many l
 | .close => True
 | .again b => R4 many b
 | .call _ none => True
 | .call _ (some c) => R4 many c.2.2.1 /\ R4 many c.2.2.2
theorem RT {S0 : aO} {m : Mc} {many : Int} (T : ∀ t ∈ m.stk, t.OkT many) (F : m.Sm) (W : m.Wf) : Wg (kK [.cel S0.length] (eQ S0 m)) S0 (eU m) := by
 have Fk := F.k;have Fd := F.d;rw [CJ];unfold kS;cases hs : m.stk with
 | nil => simp only [eU, hs]; trivial
 | cons t r =>
  have hT := T t (by rw [hs]; exact aV ..)
  rw [hs] at Fk;simp only [aK] at Fk;have ep := AX (S0 := S0) hs;simp only [eU, hs];cases t with
  | lst l i =>
   obtain ⟨k, hl⟩ := hT;dsimp only;have h1 : ∀ S, cH (.dat (Task.lst l i).d) (.dat (.int 1)) S = .ok (.dat (.lst (bR l))) S := fun _ => eZ
   have h2 : ∀ S, cH (.dat (Task.lst l i).d) (.dat (.int 2)) S = .ok (.dat (.int (i : Int))) S := fun _ => lL
   cases hi : l[i]? with
   | none =>
    have := lT.mp hi
    show _ = _
    simp! [fZ, ep, sW, Task.word, h1, h2, fE, decide_eq_false (show ¬ ((i : Nat) : Int) < (l.length : Int) by omega)]
    rfl
   | some s =>
    have hil := (aH.mp hi).1;have hs' := hl.mem s (bS hi);have hix : atI (bR l) (i : Int) = some s.d := by
     rw [hY (n := i) rfl, sE, cL, hi]; rfl
    have e1 := qQ (S0 := S0) (m := { m with stk := r }) (ρ := [some (.cel S0.length), some (.dat (Task.lst l i).d)]) (b := bX (aB (mC (.str "list")) (aB (aU cH (aC 1) (mC (.int 1))) (aB (aU (dY false) (aU cH (aC 1) (mC (.int 2))) (mC (.int 1))) aL)))) (t := .lst l (i + 1)) (show r.length < 5000000 by omega) (by simp! [h1, h2]; rfl)
    have f1 := fZ (S0 := S0) (m := { m with stk := r })
    have hi' := Ap (S0 := S0) (m := { m with stk := .lst l (i + 1) :: r }) (f := "begin") (by decide)
    have bg := Qp (S0 := S0) (m := { m with stk := .lst l (i + 1) :: r }) hs' ⟨by simp; omega, by simp; omega, F.a⟩ ⟨W.t, W.b⟩
    simp! [fZ, ep, sW, Task.word, h1, h2, fE, decide_eq_true (show ((i : Nat) : Int) < (l.length : Int) by omega), f1, e1, wH hix, jA hi']
    revert bg
    cases iK s { m with stk := .lst l (i + 1) :: r } with
    | no => intro _; trivial
    | ok m' => intro bg; have bg' : _ = _ := bg; show _ = _; simp! [bg']; rfl
    | err j m' => intro bg; have bg' : _ = _ := bg; show _ = _; simp! [bg']; rfl
  | close =>
   dsimp only;have e1 := qZ (S0 := S0) (m := { m with stk := r }) (ρ := [some (.cel S0.length), some (.dat Task.close.d)]) (b := aC 1) (t := .cl) (show m.deeds.length < 5000000 by omega) rfl
   have f1 := rY (S0 := S0) (m := { m with stk := r })
   show _ = _
   simp! [fZ, ep, sW, Task.word, f1, e1];rfl
  | again b =>
   dsimp only;have h1 : ∀ S, cH (.dat (Task.again b).d) (.dat (.int 1)) S = .ok (.dat (.lst (bR b))) S := fun _ => eZ
   have hi := Ap (S0 := S0) (m := { m with stk := r }) (f := "take") (by decide)
   cases hb : m.bits[m.taken]? with
   | none =>
    have e1 := LO (S0 := S0) (m := { m with stk := r }) (by have := W.t; have := lT.mp hb; show m.taken = m.bits.length; omega)
    show _ = _
    simp! [fZ, ep, sW, Task.word, jA hi, e1];rfl
   | some x =>
    have e1 := LN (S0 := S0) (m := { m with stk := r }) hb
    rcases W.b x (bS hb) with rfl | rfl
    ·show _ = _
     simp! [fZ, ep, sW, Task.word, jA hi, e1];rfl
    ·have e2 := qQ (S0 := S0) (m := { m with stk := r, taken := m.taken + 1 }) (ρ := [some (.cel S0.length), some (.dat (Task.again b).d)]) (b := aC 1) (t := .again b) (show r.length < 5000000 by omega) rfl
     have f2 := fZ (S0 := S0) (m := { m with stk := r, taken := m.taken + 1 })
     have e3 := qQ (S0 := S0) (m := { m with stk := .again b :: r, taken := m.taken + 1 }) (ρ := [some (.cel S0.length), some (.dat (Task.again b).d)]) (b := bX (aB (mC (.str "list")) (aB (aU cH (aC 1) (mC (.int 1))) (aB (mC (.int 0)) aL)))) (t := .lst b 0) (by simp; omega) (by simp! [h1]; rfl)
     have f3 := fZ (S0 := S0) (m := { m with stk := .again b :: r, taken := m.taken + 1 })
     show _ = _
     simp! [fZ, ep, sW, Task.word, jA hi, e1, f2, e2, f3, e3];rfl
  | call p st =>
   dsimp only;cases ha : m.act[p]? with
   | none => trivial
   | some l =>
    cases l with
    | nil => trivial
    | cons k a =>
     have hi := Ap (S0 := S0) (m := { m with stk := r }) (f := "leave") (by decide)
     have e1 := Iu (S0 := S0) (m := { m with stk := r }) (st := st) (way := 0) ⟨by simp; omega, by simp; omega, F.fit.a⟩ ha (.inl rfl)
     show _ = _
     simp! [fZ, ep, sW, Task.word, jA hi, J4, J3, e1];rfl
structure Mc.Keep (many : Int) (m m' : Mc) : Prop where
 bs : m'.bs = m.bs
 bits : m'.bits = m.bits
 tot : m'.stk.length + m'.deeds.length <= m.stk.length + m.deeds.length + 3
 act : ∀ a ∈ m'.act, ∃ b ∈ m.act, a.length <= b.length + 1
 al : m'.act.length = m.act.length
 tk : ∀ t ∈ m'.stk, t.OkT many
 wf : m'.Wf
theorem Hb {l : List (List Nat)} {p : Nat} {a b : List Nat} (h : l[p]? = some b) (hl : a.length <= b.length + 1) : ∀ c ∈ l.set p a, ∃ d ∈ l, c.length <= d.length + 1 := fun c hc => by
 rcases lR hc with hc | hc
 ·exact ⟨c, hc, by omega⟩
 ·rw [hc]; exact ⟨b, bS h, hl⟩
theorem pO {l : List (List Nat)} : ∀ c ∈ l, ∃ d ∈ l, c.length <= d.length + 1 := fun c hc => ⟨c, hc, by omega⟩
theorem OkL.b {many : Int} {l : List Stt} {k : Nat} (h : OkL many l k) : R4 many l := ⟨k, h⟩
theorem EC {many : Int} {m0 m : Mc} {p k : Nat} {a : List Nat} {st : Option gN} {way : Int} (hb : m.bs = m0.bs) (hi : m.bits = m0.bits) (ht : m.stk.length + m.deeds.length + 1 <= m0.stk.length + m0.deeds.length + 1) (hact : m.act = m0.act) (ha : m.act[p]? = some (k :: a)) (T : ∀ t ∈ m.stk, t.OkT many) (hst : (Task.call p st).OkT many) (W : m.Wf) : Mc.Keep many m0 (m.leave p a st way) := by
 cases st with
 | none => exact ⟨hb, hi, by simp only [Mc.leave]; omega, by simp only [Mc.leave]; rw [hact] at ha ⊢; exact Hb ha (by simp; omega), by simp [Mc.leave, hact], T, ⟨W.t, W.b⟩⟩
 | some c =>
  refine ⟨hb, hi, ?_, by simp only [Mc.leave]; rw [hact] at ha ⊢; exact Hb ha (by simp; omega), by simp [Mc.leave, hact], fun t h => ?_, ⟨W.t, W.b⟩⟩
  ·simp only [Mc.leave, aK, bP]
   split <;> simp <;> omega
  ·simp only [Mc.leave] at h
   rcases aY.mp h with rfl | h
   ·show R4 many _
    split
    ·exact hst.1
    ·exact hst.2
   ·exact T t h
theorem Ct : ∀ {ts : List Task} {d0 ds : List Deed} {p : Nat} {st : Option gN} {r : List Task}, AA ts d0 = some (ds, p, st, r) -> Task.call p st ∈ ts /\ ∀ t ∈ r, t ∈ ts
 | .call p st :: r, d0, ds, p', st', r', h => by simp [AA] at h; obtain ⟨rfl, rfl, rfl, rfl⟩ := h; exact ⟨by simp, fun t ht => by simp [ht]⟩
 | .close :: r, d0, ds, p', st', r', h => by
  obtain ⟨h1, h2⟩ := Ct (ts := r) (show AA r (d0 ++ [.cl]) = _ from h)
  exact ⟨aM _ h1, fun t ht => aM _ (h2 t ht)⟩
 | .lst _ _ :: r, d0, ds, p', st', r', h => by
  obtain ⟨h1, h2⟩ := Ct (ts := r) (show AA r d0 = _ from h)
  exact ⟨aM _ h1, fun t ht => aM _ (h2 t ht)⟩
 | .again _ :: r, d0, ds, p', st', r', h => by
  obtain ⟨h1, h2⟩ := Ct (ts := r) (show AA r d0 = _ from h)
  exact ⟨aM _ h1, fun t ht => aM _ (h2 t ht)⟩
theorem Ky {many : Int} {m m' : Mc} {s : Stt} {k : Nat} (ho : s.Ok many k) (hB : ∀ b ∈ m.bs, R4 many b) (T : ∀ t ∈ m.stk, t.OkT many) (W : m.Wf) (h : iK s m = .ok m') : Mc.Keep many m m' := by
 cases s with
 | bad => cases h
 | odd x => cases h
 | cmd c => cases h; exact ⟨rfl, rfl, by simp; omega, pO, rfl, T, ⟨W.t, W.b⟩⟩
 | fin w =>
  simp only [iK] at h;cases hu : AA m.stk m.deeds with
  | none => rw [hu] at h; cases h
  | some x =>
   obtain ⟨ds, p, st, r⟩ := x;rw [hu] at h;dsimp only at h;cases ha : m.act[p]? with
   | none => rw [ha] at h; cases h
   | some l =>
    rw [ha] at h;cases l with
    | nil => cases h
    | cons k0 a =>
     cases h;have hl := AD hu;obtain ⟨u1, u2⟩ := Ct hu;exact EC (m0 := m) (m := { m with stk := r, deeds := ds }) rfl rfl (by simp; omega) rfl ha (fun t ht => T t (u2 t ht)) (T _ u1) ⟨W.t, W.b⟩
 | keep b =>
  cases h;refine ⟨rfl, rfl, by simp; omega, pO, rfl, fun t ht => ?_, ⟨W.t, W.b⟩⟩
  simp only [aY] at ht;rcases ht with rfl | rfl | ht
  ·exact ho.2.b
  ·trivial
  ·exact T t ht
 | either x y =>
  simp only [iK] at h;cases hb : m.bits[m.taken]? with
  | none => rw [hb] at h; cases h
  | some b =>
   rw [hb] at h;cases h;have hl := (aH.mp hb).1;refine ⟨rfl, rfl, by simp; omega, pO, rfl, fun t ht => ?_, ⟨hl, W.b⟩⟩
   rcases aY.mp ht with rfl | ht
   ·show R4 many _
    split
    ·exact ho.2.1.b
    ·exact ho.2.2.b
   ·exact T t ht
 | again b =>
  cases h;refine ⟨rfl, rfl, by simp; omega, pO, rfl, fun t ht => ?_, ⟨W.t, W.b⟩⟩
  rcases aY.mp ht with rfl | ht
  ·exact ho.2.b
  ·exact T t ht
 | call g f x y =>
  simp only [iK] at h;cases ha : m.act[g.toNat]? with
  | none => rw [ha] at h; cases h
  | some a =>
   cases hb : m.bs[g.toNat]? with
   | none => rw [ha, hb] at h; cases h
   | some b =>
    rw [ha, hb] at h;dsimp only at h;split at h
    ·cases h
    ·cases h
     refine ⟨rfl, rfl, ?_, ?_, by simp [Mc.enter], fun t ht => ?_, ⟨W.t, W.b⟩⟩
     ·simp only [Mc.enter, aK, bP]
      split <;> simp <;> omega
     ·exact Hb ha (by simp)
     ·simp only [Mc.enter, aY] at ht
      rcases ht with rfl | rfl | ht
      ·exact hB b (bS hb)
      ·exact ⟨ho.2.1.b, ho.2.2.b⟩
      ·exact T t ht
theorem Ml {many : Int} {m m' : Mc} (hB : ∀ b ∈ m.bs, R4 many b) (T : ∀ t ∈ m.stk, t.OkT many) (W : m.Wf) (h : eU m = .ok m') : Mc.Keep many m m' := by
 cases hs : m.stk with
 | nil => simp only [eU, hs] at h; cases h
 | cons t r =>
  have hT := T t (by rw [hs]; exact aV ..)
  have hr : ∀ t ∈ r, t.OkT many := fun t ht => T t (by rw [hs]; exact aM _ ht)
  have hl : m.stk.length = r.length + 1 := by rw [hs]; rfl
  simp only [eU, hs] at h;cases t with
  | lst l i =>
   obtain ⟨k, hlk⟩ := hT;dsimp only at h;cases hi : l[i]? with
   | none => rw [hi] at h; cases h; exact ⟨rfl, rfl, by simp; omega, pO, rfl, hr, ⟨W.t, W.b⟩⟩
   | some s =>
    rw [hi] at h;have kk := Ky (m := { m with stk := .lst l (i + 1) :: r }) (hlk.mem s (bS hi)) hB (fun t ht => by
     rcases aY.mp ht with rfl | ht
     ·exact ⟨k, hlk⟩
     ·exact hr t ht) ⟨W.t, W.b⟩ h
    exact ⟨kk.bs, kk.bits, by have := kk.tot; simp at this; omega, kk.act, kk.al, kk.tk, kk.wf⟩
  | close => cases h; exact ⟨rfl, rfl, by simp; omega, pO, rfl, hr, ⟨W.t, W.b⟩⟩
  | again b =>
   dsimp only at h;cases hb : m.bits[m.taken]? with
   | none => rw [hb] at h; cases h
   | some x =>
    rw [hb] at h;have hbl := (aH.mp hb).1;dsimp only at h;split at h
    ·cases h
     refine ⟨rfl, rfl, by simp; omega, pO, rfl, fun t ht => ?_, ⟨hbl, W.b⟩⟩
     simp only [aY] at ht;rcases ht with rfl | rfl | ht
     ·exact hT
     ·exact hT
     ·exact hr t ht
    ·cases h
     exact ⟨rfl, rfl, by simp; omega, pO, rfl, hr, ⟨hbl, W.b⟩⟩
  | call p st =>
   dsimp only at h;cases ha : m.act[p]? with
   | none => rw [ha] at h; cases h
   | some l =>
    rw [ha] at h;cases l with
    | nil => cases h
    | cons k a =>
     cases h;exact EC (m0 := m) (m := { m with stk := r }) rfl rfl (by simp; omega) rfl ha hr hT ⟨W.t, W.b⟩
def runM : Nat -> Mc -> SR
 | 0, _ => .no
 | k + 1, m => match m.stk with
  | [] => .ok m
  | _ :: _ => match eU m with
   | .ok m' => runM k m'
   | .err i m' => .err i m'
   | .no => .no
theorem IR {S0 : aO} {many : Int} {a b c d e : Option Vl} : ∀ (k fuel : Nat) (m : Mc), k <= fuel -> (∀ b ∈ m.bs, R4 many b) -> (∀ t ∈ m.stk, t.OkT many) -> m.Wf -> m.stk.length + m.deeds.length + 3 * k <= 800000 -> (∀ a ∈ m.act, a.length + k <= 800000) ->
  match runM k m with
  | .ok m' => sN (mB (aU M8 (m1 eW (gZ "Execution" "stack" (aC 5))) (mC (.int 0)))) eX fuel [a, b, c, d, e, some (.cel S0.length)] (eQ S0 m) = .next [a, b, c, d, e, some (.cel S0.length)] (eQ S0 m')
  | .err i m' => ∃ ρ', sN (mB (aU M8 (m1 eW (gZ "Execution" "stack" (aC 5))) (mC (.int 0)))) eX fuel [a, b, c, d, e, some (.cel S0.length)] (eQ S0 m) = .err (mI i) ρ' (eQ S0 m')
  | .no => True
 | 0, fuel, m, _, _, _, _, _, _ => trivial
 | k + 1, fuel, m, hf, hB, hT, W, ht, ha => by
  obtain ⟨f, rfl⟩ : ∃ f, fuel = f + 1 := ⟨fuel - 1, by omega⟩
  unfold runM;cases hs : m.stk with
  | nil =>
   dsimp only;have hl : eW (.cel (S0.length + 2)) (eQ S0 m) = .ok (.dat (.int 0)) (eQ S0 m) := by rw [rW xY, oK, hs]; rfl
   exact O7 (by simp! [fZ, hl])
  | cons t r =>
   dsimp only;have hl : eW (.cel (S0.length + 2)) (eQ S0 m) = .ok (.dat (.int ((r.length + 1 : Nat) : Int))) (eQ S0 m) := by rw [rW xY, oK, hs]; rfl
   have h1 : (mB (aU M8 (m1 eW (gZ "Execution" "stack" (aC 5))) (mC (.int 0)))) [a, b, c, d, e, some (.cel S0.length)] (eQ S0 m) = .ok true (eQ S0 m) := by simp! [fZ, hl, decide_eq_true (show (0 : Int) < ((r.length + 1 : Nat) : Int) by omega)]
   have st := RT (S0 := S0) hT ⟨by omega, by omega, fun a h => by have := ha a h; omega⟩ W
   have hi := Ap (S0 := S0) (m := m) (f := "step") (by decide)
   revert st
   cases q : eU m with
   | no => intro _; trivial
   | ok m' =>
    intro st;have st' : _ = _ := st;have K := Ml hB hT W q;have ih := IR (S0 := S0) (a := a) (b := b) (c := c) (d := d) (e := e) k f m' (by omega) (by rw [K.bs]; exact hB) K.tk K.wf (by have := K.tot; omega) (fun a h => by obtain ⟨b, h1, h2⟩ := K.act a h; have := ha b h1; omega)
    dsimp only;rw [Cs h1 (ρ' := [a, b, c, d, e, some (.cel S0.length)]) (S' := eQ S0 m') (by unfold eX; simp! [jA hi, st'])]
    exact ih
   | err i m' =>
    intro st;have st' : _ = _ := st;dsimp only;refine ⟨[a, b, c, d, e, some (.cel S0.length)], ?_⟩
    rw [sN, h1, nH, if_pos rfl, show eX [a, b, c, d, e, some (.cel S0.length)] (eQ S0 m) = .err (mI i) [a, b, c, d, e, some (.cel S0.length)] (eQ S0 m') by unfold eX; simp! [jA hi, st']]
theorem ED {m : Mc} {p : Nat} {a : List Nat} {st : Option gN} {way : Int} : (m.leave p a st way).bits = m.bits /\ (m.leave p a st way).bs = m.bs := by cases st <;> exact ⟨rfl, rfl⟩
theorem Kz {s : Stt} {m m' : Mc} (h : iK s m = .ok m') : m'.bits = m.bits /\ m'.bs = m.bs := by
 cases s with
 | bad => cases h
 | odd x => cases h
 | cmd c => cases h; exact ⟨rfl, rfl⟩
 | keep b => cases h; exact ⟨rfl, rfl⟩
 | again b => cases h; exact ⟨rfl, rfl⟩
 | fin w =>
  simp only [iK] at h;split at h
  ·split at h
   ·cases h; exact ED
   ·cases h
  ·cases h
 | either x y =>
  simp only [iK] at h;split at h
  ·cases h
  ·cases h; exact ⟨rfl, rfl⟩
 | call g f x y =>
  simp only [iK] at h;split at h
  ·split at h
   ·cases h
   ·cases h; exact ⟨rfl, rfl⟩
  ·cases h
theorem Mm {m m' : Mc} (h : eU m = .ok m') : m'.bits = m.bits /\ m'.bs = m.bs := by
 unfold eU at h;split at h
 ·cases h
 ·split at h
  ·cases h; exact ⟨rfl, rfl⟩
  ·have := Kz h; exact this
 ·cases h; exact ⟨rfl, rfl⟩
 ·split at h
  ·cases h
  ·split at h
   ·cases h; exact ⟨rfl, rfl⟩
   ·cases h; exact ⟨rfl, rfl⟩
 ·split at h
  ·cases h; exact ED
  ·cases h
theorem Dk : ∀ {k : Nat} {m m' : Mc}, runM k m = .ok m' -> m'.bits = m.bits /\ m'.bs = m.bs
 | 0, m, m', h => by cases h
 | k + 1, m, m', h => by
  unfold runM at h;split at h
  ·cases h; exact ⟨rfl, rfl⟩
  ·split at h
   ·rename_i m1 q
    have h1 := Mm q;have h2 := Dk h;exact ⟨h2.1.trans h1.1, h2.2.trans h1.2⟩
   ·cases h
   ·cases h
def zG (bs : List (List Stt)) (bits : List Int) : Mc := ⟨bs, bits, 0, [], [], cD bs.length [], 0⟩
theorem setX {S0 : aO} {fs : List (Str × Vl)} {ext : List Cell} {f : Str} {d : Vl} {ρ : Ev} (hl : fs.length < 1000) : A1 "Execution" f ρ d (.cel S0.length) (S0 ++ (.ins "Execution" fs :: ext)) = .next ρ (S0 ++ (.ins "Execution" (pE f d fs) :: ext)) := by
 rw [EM (fs := fs) (by simp) hl]
 simp
theorem SX {S0 : aO} {bs : List (List Stt)} {bits : List Int} (hl : bs.length <= 10) : G1 true "Execution" iI [.dat (.lst (bls bs)), .dat (.lst (bits.map D.int))] S0 = .ok (.cel S0.length) (eQ S0 (zG bs bits)) := by
 have e : iI [.cel S0.length, .dat (.lst (bls bs)), .dat (.lst (bits.map D.int))] (S0 ++ [.ins "Execution" []]) = .ok (.dat .non) (eQ S0 (zG bs bits)) := by
  rw [CK];unfold kT;have hsz : (bls bs).length <= sizeLine := sz (by rw [BE]; omega)
  have s1 : ∀ {ρ : Ev} {d : Vl} {ext : List Cell} {f : Str}, A1 "Execution" f ρ d (.cel S0.length) (S0 ++ (.ins "Execution" [] :: ext)) = .next ρ (S0 ++ (.ins "Execution" [(f, d)] :: ext)) := setX (by simp)
  simp! [s1, setX, aK, bF, pE, bP, dG, bW, bT, Q8 hsz, BE]
  show _ = Res.ok _ (S0 ++ _)
  simp only [cC, zG, Kd, List.length_replicate, List.map_replicate, bL];rfl
 unfold G1;rw [e];rfl
def startM (bs : List (List Stt)) (bits : List Int) (p : Nat) (b : List Stt) : Mc := (zG bs bits).enter p [] b none
theorem GV {S : aO} {a0 a1 a2 a5 : Option Vl} : ∀ (bs : List Int) (i : Nat), (∀ b ∈ bs, b = 0 \/ b = 1) -> loop (.tp [3, 4]) dU (eC i (bs.map D.int)) [a0, a1, a2, none, none, a5] S = .next [a0, a1, a2, none, none, a5] S
 | [], i, _ => rfl
 | b :: r, i, h => by
  have hb : (decide (0 <= b) && decide (b <= 1)) = true := by rcases h b (aV ..) with rfl | rfl <;> rfl
  rw [aN, eC, loop];simp only [pR, jQ, aK, bF, if_true, bZ, bD];rw [dU];simp! [yV, hb];rw [<- dU];exact GV r (i + 1) fun b hb => h b (aM _ hb)
def Qv (r : SR) (S : aO) : Res Vl := match r with
 | .ok m => if m.taken < m.bits.length then .err (mI (m.taken : Int)) S else .ok (.dat (.tup [.int m.ended, .lst (m.deeds.map Deed.d)])) S
 | .err i _ => .err (mI i) S
 | .no => .stuck
theorem HV {S0 : aO} {m : Mc} : (eQ S0 m).take S0.length = S0 := by simp [eQ]
theorem TR {S0 : aO} {bs : List (List Stt)} {bits : List Int} {p k : Nat} {b : List Stt} (ls : LS S0) (G : Good2 bs) (hb : bs[p]? = some b) (hbits : ∀ b ∈ bits, b = 0 \/ b = 1) (hk : k <= 100000) (hr : runM k (startM bs bits p b) ≠ .no) :
  bU [.dat (fF bs), .dat (.int (p : Int)), .dat (.lst (bits.map D.int))] S0 = Qv (runM k (startM bs bits p b)) S0 := by
 have hp := (aH.mp hb).1;have hl3 := G.l3;have hl : bs.length <= 10 := by omega
 have lsb : (S0.all fun c => c.below S0.length) = true := bV.mpr fun c hc => ls c hc _
 have e1 := JX (S0 := S0) (m := zG bs bits) (p := p) (a := []) (b := b) (st := none) ⟨by simp [zG], by simp [zG], fun a h => by simp [zG] at h; obtain ⟨_, rfl⟩ := h; simp⟩ (by simp [zG, hp]) hb (fun a k h => by simp [zG, hp] at h)
 have hB : ∀ b ∈ bs, R4 (bs.length : Int) b := fun b hb => (G.ok b hb).b
 have hi := Ap (S0 := S0) (m := zG bs bits) (f := "enter") (by decide)
 have hib : ∀ S, rR S "Book" "bodies" (.dat (fF bs)) = true := fun _ => rfl
 have lp := IR (S0 := S0) (many := (bs.length : Int)) (a := some (.dat (fF bs))) (b := some (.dat (.int (p : Int)))) (c := some (.dat (.lst (bits.map D.int)))) (d := none) (e := none) k 1000000 (startM bs bits p b) (by omega) hB (fun t ht => by
  simp only [startM, Mc.enter, zG, aY, dE, or_false] at ht;rcases ht with rfl | rfl
  ·exact hB b (bS hb)
  ·trivial) ⟨gL _, hbits⟩ (by simp [startM, Mc.enter, zG]; omega) (fun a ha => by
  have ha' : a ∈ (cD bs.length ([] : List Nat)).set p [0] := ha;rcases lR ha' with h | h
  ·rw [(List.mem_replicate.mp h).2]; simp; omega
  ·rw [h]; simp; omega)
 rw [nR];unfold gG;simp! [As hl, decide_eq_true (show (0 : Int) <= (p : Int) by omega), decide_eq_true (show (p : Int) < (bs.length : Int) by omega), GV bits 0 hbits, jA (hib S0), Nn G.ok (show 3 <= 9 by omega) hl, SX hl, jA hi, show D.non = LP none from rfl, e1, Bu]
 rw [show eQ S0 ((zG bs bits).enter p [] b none) = eQ S0 (startM bs bits p b) from rfl]
 revert lp hr
 cases q : runM k (startM bs bits p b) with
 | no => intro hr; exact absurd rfl hr
 | err i m' =>
  intro _ lp;obtain ⟨ρ', e2⟩ := lp;simp! [e2];dsimp only [cC, trunc, Qv];rw [HV, if_pos lsb]
 | ok m' =>
  intro _ e2;have e2' : _ = _ := e2;have hbits' : m'.bits = bits := (Dk q).1;simp! [e2', pM, aP]
  by_cases ht : m'.taken < m'.bits.length
  ·simp! [decide_eq_true (show ((m'.taken : Nat) : Int) < (bits.length : Int) by rw [<- hbits']; omega), pM]
   dsimp only [cC, trunc, Qv];rw [HV, if_pos lsb, if_pos ht];rfl
  ·simp! [decide_eq_false (show ¬ ((m'.taken : Nat) : Int) < (bits.length : Int) by rw [<- hbits']; omega), QQ, rY, lV (EV (S0 := S0) (m := m'))]
   dsimp only [cC, trunc, Qv];rw [take_set (by omega), HV, if_neg ht, show (Vl.below S0.length (Vl.dat (D.tup [D.int m'.ended, D.lst (m'.deeds.map Deed.d)])) && S0.all fun c => c.below S0.length) = true by rw [lsb]; rfl, if_pos rfl]
def Bn (n : Nat) (i : Int) : Prop := i.natAbs < 2 ^ n
structure Pen where
 x : Int
 y : Int
 u : Int
 v : Int
 p : Int
 q : Int
def Pen.ns (z : Pen) : List Int := [z.x, z.y, z.u, z.v, z.p, z.q]
abbrev Pen.ds (z : Pen) : List D := [.int z.x, .int z.y, .int z.u, .int z.v, .int z.p, .int z.q]
abbrev Pen.d (z : Pen) : D := .tup z.ds
def DM : Nat -> Int × Int -> Int × Int
 | 0, w => w
 | n + 1, w => DM n (-w.2, w.1)
def Cmd.run : Cmd -> Pen -> Pen
 | .go k, z => { z with x := z.x + k * z.u, y := z.y + k * z.v }
 | .turn k, z => { z with u := (DM k.toNat (z.u, z.v)).1, v := (DM k.toNat (z.u, z.v)).2 }
 | .mirror, z => { z with v := -z.v }
 | .scale k, z => { z with u := k * z.u, v := k * z.v }
 | .aim a b, z => { z with u := a, v := b }
 | .place a b, z => { z with x := a, y := b }
 | .mark, z => { z with p := z.x, q := z.y }
 | .ret, z => { z with x := z.p, y := z.q }
 | .exch, z => ⟨z.p, z.q, z.u, z.v, z.x, z.y⟩
theorem VD {k j : Int} (h : -9 <= k /\ k <= 9) : IntMulOk k j := mulL (by omega) (by omega)
theorem mul9r {k j : Int} (h : -9 <= k /\ k <= 9) : IntMulOk j k := mulR (by omega) (by omega)
def dot (f : Nat -> Int) : Nat -> Int
 | 0 => 0
 | n + 1 => dot f n + f n
theorem mulB {a b : Nat} {i j : Int} (ha : Bn a i) (hb : Bn b j) (h0 : 0 < a) (h1 : 0 < b) (h : a + b <= 1000000) : IntMulOk i j := (wide_mul ha hb h0 h1 h).ok
theorem Bn.mul {a b : Nat} {i j : Int} (ha : Bn a i) (hb : Bn b j) : Bn (a + b) (i * j) := wide_lt ha hb
theorem Bn.zero {a : Nat} : Bn a 0 := by
 show 0 < 2 ^ a
 exact Nat.two_pow_pos a
theorem Bn.dot {a : Nat} {f : Nat -> Int} : ∀ {n : Nat}, (∀ j, j < n -> Bn a (f j)) -> (dot f n).natAbs <= n * 2 ^ a
 | 0, _ => by simp [PH.dot]
 | n + 1, h => by
  have h1 := Bn.dot (n := n) fun j hj => h j (by omega)
  have h2 : (f n).natAbs < 2 ^ a := h n (by omega)
  have e : PH.dot f (n + 1) = PH.dot f n + f n := rfl;rw [e, Nat.succ_mul];omega
theorem Bn.dot7 {a : Nat} {f : Nat -> Int} (h : ∀ j, j < 7 -> Bn a (f j)) : Bn (a + 3) (PH.dot f 7) := by
 have := Bn.dot h;have p : 0 < 2 ^ a := Nat.two_pow_pos a
 show (PH.dot f 7).natAbs < 2 ^ (a + 3)
 rw [Nat.pow_add];omega
def gt (M : List Int) (i : Nat) : Int := M.getD i 0
theorem G3 {M : List Int} {a n : Nat} (h : ∀ x ∈ M, Bn a x) : Bn a (gt M n) := by
 by_cases hn : n < M.length
 ·have e : gt M n = M[n] := by
   unfold gt;rw [bK, cG hn];rfl
  rw [e];exact h _ (pY hn)
 ·have e : gt M n = 0 := by
   unfold gt;rw [bK, cJ (by omega)]
   rfl
  rw [e];exact Bn.zero
theorem IX {M : List Int} {n : Nat} (h : M.length = n) : (aX n).map (gt M) = M := by
 apply List.ext_getElem
 ·simp [h]
 ·intro i h1 h2
  rw [List.getElem_map, List.getElem_range];unfold gt;rw [bK, cG h2];rfl
def rT (M : List Int) (z : Pen) (i : Nat) : Int := dot (fun j => gt M (7 * i + j) * gt ((1 : Int) :: z.ns) j) 7
theorem kQ {f g : Nat -> Int} : ∀ {n : Nat}, (∀ k, k < n -> f k = g k) -> dot f n = dot g n
 | 0, _ => rfl
 | n + 1, h => by
  show dot f n + f n = dot g n + g n
  rw [kQ fun k hk => h k (by omega), h n (by omega)]
theorem Ja : ∀ n : Nat, dot (fun _ => 0) n = 0
 | 0 => rfl
 | n + 1 => by
  show dot (fun _ => 0) n + 0 = 0
  rw [Ja n]; rfl
theorem MB (f g : Nat -> Int) : ∀ n : Nat, dot (fun k => f k + g k) n = dot f n + dot g n
 | 0 => rfl
 | n + 1 => by
  show dot (fun k => f k + g k) n + (f n + g n) = dot f n + f n + (dot g n + g n)
  rw [MB f g n]; omega
theorem Jc (c : Int) (f : Nat -> Int) : ∀ n : Nat, dot (fun k => c * f k) n = c * dot f n
 | 0 => by simp [dot]
 | n + 1 => by
  show dot (fun k => c * f k) n + c * f n = c * (dot f n + f n)
  rw [Jc c f n, Int.mul_add]
theorem Jb (c : Nat -> Int) (b : Nat -> Nat -> Int) (a : Nat -> Int) (m : Nat) : ∀ n : Nat, dot (fun k => c k * dot (fun l => b k l * a l) m) n = dot (fun l => dot (fun k => c k * b k l) n * a l) m
 | 0 => by
  show 0 = dot (fun l => 0 * a l) m
  rw [kQ (g := fun _ => 0) fun k _ => Int.zero_mul _, Ja]
 | n + 1 => by
  show dot (fun k => c k * dot (fun l => b k l * a l) m) n + c n * dot (fun l => b n l * a l) m = dot (fun l => (dot (fun k => c k * b k l) n + c n * b n l) * a l) m
  rw [Jb c b a m n, <- Jc, <- MB];exact kQ fun l _ => by rw [Int.add_mul, Int.mul_assoc]
def delta (i j : Nat) : Int := if i = j then 1 else 0
theorem CF (x : Nat -> Int) (j : Nat) : ∀ n : Nat, dot (fun k => x k * delta k j) n = if j < n then x j else 0
 | 0 => rfl
 | n + 1 => by
  show dot (fun k => x k * delta k j) n + x n * delta n j = _
  rw [CF x j n];unfold delta
  by_cases h : n = j
  ·subst h
   rw [if_neg (by omega), if_pos rfl, if_pos (by omega)]; omega
  ·rw [if_neg h, tK, Int.add_zero]
   by_cases h2 : j < n
   ·rw [if_pos h2, if_pos (by omega)]
   ·rw [if_neg h2, if_neg (by omega)]
@[irreducible] def mx (f : Nat -> Nat -> Int) : List Int := (aX 49).map fun t => f (t / 7) (t % 7)
theorem E8 (f : Nat -> Nat -> Int) : (mx f).length = 49 := by
 unfold mx;simp
theorem Po {f : Nat -> Int} {n t : Nat} (h : t < n) : gt ((aX n).map f) t = f t := by
 unfold gt;rw [bK, cL, mE h];rfl
theorem EK {f : Nat -> Nat -> Int} {i j : Nat} (hi : i < 7) (hj : j < 7) : gt (mx f) (7 * i + j) = f i j := by
 unfold mx;rw [Po (by omega), show (7 * i + j) / 7 = i by omega, show (7 * i + j) % 7 = j by omega]
theorem VC {f g : Nat -> Nat -> Int} (h : ∀ i j, i < 7 -> j < 7 -> f i j = g i j) : mx f = mx g := by
 unfold mx
 apply iQ
 intro t ht;have := eR.mp ht;exact h _ _ (by omega) (by omega)
theorem UI {M : List Int} (h : M.length = 49) : mx (fun i j => gt M (7 * i + j)) = M := by
 rw [<- IX h];unfold mx
 apply iQ
 intro t ht;have ht := eR.mp ht;rw [IX h]
 show gt M (7 * (t / 7) + t % 7) = gt M t
 rw [show 7 * (t / 7) + t % 7 = t by omega]
theorem mx_eq {M N : List Int} (hM : M.length = 49) (hN : N.length = 49) (h : ∀ i j, i < 7 -> j < 7 -> gt M (7 * i + j) = gt N (7 * i + j)) : M = N := by
 rw [<- UI hM, <- UI hN];exact VC h
theorem P3 {f : Nat -> Nat -> Int} {a : Nat} (h : ∀ i j, i < 7 -> j < 7 -> Bn a (f i j)) : ∀ x ∈ mx f, Bn a x := fun x hx => by
 unfold mx at hx;obtain ⟨t, ht, rfl⟩ := oI.mp hx;have := eR.mp ht;exact h _ _ (by omega) (by omega)
def rows (f : Nat -> Nat -> Int) (n : Nat) : List Int := (aX n).flatMap fun i => (aX 7).map (f i)
theorem Bq (f : Nat -> Nat -> Int) (n : Nat) : rows f (n + 1) = rows f n ++ (aX 7).map (f n) := by
 unfold rows;rw [show aX (n + 1) = aX n ++ [n] from FL, List.flatMap_append]
 simp only [List.flatMap_cons, List.flatMap_nil, cY]
theorem IT (f : Nat -> Nat -> Int) : ∀ n, (rows f n).length = 7 * n
 | 0 => rfl
 | n + 1 => by rw [Bq, bP, IT f n]; simp; omega
theorem IS (f : Nat -> Nat -> Int) : ∀ n, rows f n = (aX (7 * n)).map fun t => f (t / 7) (t % 7)
 | 0 => rfl
 | n + 1 => by
  rw [Bq, IS f n, show 7 * (n + 1) = 7 * n + 7 by omega, List.range_add, cU, jP]
  congr 1
  apply iQ
  intro j hj;have := eR.mp hj
  show f n j = f ((7 * n + j) / 7) ((7 * n + j) % 7)
  rw [show (7 * n + j) / 7 = n by omega, show (7 * n + j) % 7 = j by omega]
theorem La (f : Nat -> Nat -> Int) : rows f 7 = mx f := by
 unfold mx;exact IS f 7
def tD (A B : List Int) : List Int := mx fun i j => dot (fun k => gt B (7 * i + k) * gt A (7 * k + j)) 7
theorem CG (A B : List Int) : (tD A B).length = 49 := E8 _
theorem Ji {A B : List Int} {a b : Nat} (ha : ∀ x ∈ A, Bn a x) (hb : ∀ x ∈ B, Bn b x) : ∀ x ∈ tD A B, Bn (a + b + 3) x := P3 fun i j _ _ => Bn.dot7 fun k _ => by
 rw [Nat.add_comm a b];exact Bn.mul (G3 hb) (G3 ha)
@[irreducible] def unitM : List Int := mx delta
theorem wX : unitM.length = 49 := by
 unfold unitM;exact E8 _
theorem MY : ((aX 49).map fun t : Nat => (if decide ((0 + (t : Int)) % 8 = 0) = true then (1 : Int) else 0)) = unitM := by
 unfold unitM mx
 decide
def zeroP : Pen := ⟨0, 0, 0, 0, 0, 0⟩
def qA (j : Nat) : Pen := ⟨delta 0 j, delta 1 j, delta 2 j, delta 3 j, delta 4 j, delta 5 j⟩
def vc (z : Pen) (i : Nat) : Int := gt ((1 : Int) :: z.ns) i
def kZ (r : Pen -> Pen) (i j : Nat) : Int := if j = 0 then vc (r zeroP) i else vc (r (qA (j - 1))) i - vc (r zeroP) i
@[irreducible] def probeM (r : Pen -> Pen) : List Int := mx (kZ r)
theorem Dm (r : Pen -> Pen) : (probeM r).length = 49 := by
 unfold probeM;exact E8 _
def MatOf (r : Pen -> Pen) (M : List Int) : Prop := M.length = 49 /\ ∀ z i, i < 7 -> vc (r z) i = rT M z i
theorem Li {j : Nat} (h : j < 7) : j = 0 \/ j = 1 \/ j = 2 \/ j = 3 \/ j = 4 \/ j = 5 \/ j = 6 := by omega
theorem Kf (M : List Int) (i : Nat) : rT M zeroP i = gt M (7 * i) := by
 simp [rT, dot, zeroP, Pen.ns, gt]
theorem Kg (A B : List Int) (z w : Pen) (hw : ∀ k, k < 7 -> vc w k = rT A z k) (i : Nat) (hi : i < 7) : rT (tD A B) z i = rT B w i := by
 unfold rT;rw [kQ (g := fun j => dot (fun k => gt B (7 * i + k) * gt A (7 * k + j)) 7 * vc z j) fun j hj => by
  unfold tD;rw [EK hi hj];rfl]
 rw [<- Jb (fun k => gt B (7 * i + k)) (fun k j => gt A (7 * k + j)) (fun j => vc z j) 7 7]
 exact kQ fun k hk => by
  show _ * rT A z k = _ * vc w k
  rw [hw k hk]
theorem MatOf.comp {r s : Pen -> Pen} {A B : List Int} (h : MatOf r A) (k : MatOf s B) : MatOf (fun z => s (r z)) (tD A B) := ⟨CG _ _, fun z i hi => by rw [k.2 _ _ hi, Kg A B z (r z) (fun l hl => h.2 _ _ hl) i hi]⟩
theorem MatOf.unit : MatOf (fun z => z) unitM := ⟨wX, fun z i hi => by
 unfold rT;rw [kQ (g := fun j => vc z j * delta j i) fun j hj => by
  unfold unitM;rw [EK hi hj, DI];unfold delta
  by_cases e : i = j
  ·rw [if_pos e, if_pos e.symm]; rfl
  ·rw [if_neg e, if_neg fun z => e z.symm, tK, tK]]
 rw [CF, if_pos hi]⟩
theorem MatOf.of {r : Pen -> Pen} (h : ∀ z i, i < 7 -> vc (r z) i = dot (fun j => kZ r i j * vc z j) 7) : MatOf r (probeM r) := ⟨Dm r, fun z i hi => by
 rw [h z i hi];unfold rT;exact kQ fun j hj => by
  unfold probeM;rw [EK hi hj];rfl⟩
def Cmd.mat (m : Cmd) : List Int := probeM m.run
theorem Cmd.matOf {m : Cmd} (ok : m.Ok) : MatOf m.run m.mat := MatOf.of fun z i hi => by
 cases m with
 | turn k =>
  have hk : k = 1 \/ k = 2 \/ k = 3 := by have := ok.1; have := ok.2; omega
  rcases hk with e | e | e <;> subst e <;> rcases Li hi with h | h | h | h | h | h | h <;> subst h <;> simp [dot, kZ, vc, gt, Cmd.run, zeroP, qA, delta, Pen.ns, DM]
 | _ => rcases Li hi with h | h | h | h | h | h | h <;> subst h <;> simp [dot, kZ, vc, gt, Cmd.run, zeroP, qA, delta, Pen.ns]
theorem Cmd.mat_bd {m : Cmd} (ok : m.Ok) : ∀ x ∈ m.mat, Bn 5 x := by
 unfold Cmd.mat probeM;refine P3 fun i j hi hj => ?_
 cases m with
 | turn k =>
  have hk : k = 1 \/ k = 2 \/ k = 3 := by have := ok.1; have := ok.2; omega
  rcases hk with e | e | e <;> subst e <;> rcases Li hi with h | h | h | h | h | h | h <;> subst h <;> rcases Li hj with h | h | h | h | h | h | h <;> subst h <;> simp [Bn, kZ, vc, gt, Cmd.run, zeroP, qA, delta, Pen.ns, DM]
 | go k =>
  have := ok.1; have := ok.2;rcases Li hi with h | h | h | h | h | h | h <;> subst h <;> rcases Li hj with h | h | h | h | h | h | h <;> subst h <;> simp [Bn, kZ, vc, gt, Cmd.run, zeroP, qA, delta, Pen.ns] <;> omega
 | scale k =>
  have := ok.1; have := ok.2;rcases Li hi with h | h | h | h | h | h | h <;> subst h <;> rcases Li hj with h | h | h | h | h | h | h <;> subst h <;> simp [Bn, kZ, vc, gt, Cmd.run, zeroP, qA, delta, Pen.ns] <;> omega
 | aim a b =>
  have := ok.1.1; have := ok.1.2; have := ok.2.1; have := ok.2.2;rcases Li hi with h | h | h | h | h | h | h <;> subst h <;> rcases Li hj with h | h | h | h | h | h | h <;> subst h <;> simp [Bn, kZ, vc, gt, Cmd.run, zeroP, qA, delta, Pen.ns] <;> omega
 | place a b =>
  have := ok.1.1; have := ok.1.2; have := ok.2.1; have := ok.2.2;rcases Li hi with h | h | h | h | h | h | h <;> subst h <;> rcases Li hj with h | h | h | h | h | h | h <;> subst h <;> simp [Bn, kZ, vc, gt, Cmd.run, zeroP, qA, delta, Pen.ns] <;> omega
 | _ => rcases Li hi with h | h | h | h | h | h | h <;> subst h <;> rcases Li hj with h | h | h | h | h | h | h <;> subst h <;> simp [Bn, kZ, vc, gt, Cmd.run, zeroP, qA, delta, Pen.ns]
theorem fJ {i j k l m n : Nat} {a b c d e f : D} {ρ : Ev} {S : aO} : Pd (.tp [i, j, k, l, m, n]) ρ (.dat (.tup [a, b, c, d, e, f])) S = .next ((((((ρ.set i (some (.dat a))).set j (some (.dat b))).set k (some (.dat c))).set l (some (.dat d))).set m (some (.dat e))).set n (some (.dat f))) S := rfl
theorem J5 {z : Pen} {S : aO} : uE [.dat z.d] S = .ok (.dat (.bl true)) S := by
 rw [BR];unfold sL;simp! [zK, iJ, pR, dZ, sz, aK, bF, bZ, bD];rfl
theorem FN {S : aO} {a0 a1 a2 a3 a6 a7 a8 : Option Vl} : ∀ (n : Nat) (lo : Int) (w : Int × Int), loop (.nm 9) mQ (iC lo n) [a0, a1, a2, a3, some (.dat (.int w.1)), some (.dat (.int w.2)), a6, a7, a8, none] S = .next [a0, a1, a2, a3, some (.dat (.int (DM n w).1)), some (.dat (.int (DM n w).2)), a6, a7, a8, none] S
 | 0, lo, w => rfl
 | n + 1, lo, w => by
  have := FN (S := S) (a0 := a0) (a1 := a1) (a2 := a2) (a3 := a3) (a6 := a6) (a7 := a7) (a8 := a8) n (lo + 1) (-w.2, w.1);rw [rG, loop];simp only [pR, jQ];rw [mQ];simp! [if_true];rw [<- mQ];exact this
theorem xX {c : Cmd} {z : Pen} {S : aO} (h : c.Ok) : oD [.dat z.d, .dat c.d] S = .ok (.dat (c.run z).d) S := by
 rw [L7];unfold vU;cases c with
 | go k =>
  simp! [fJ, Pen.d, Pen.ds, Cmd.d, cO, eZ, oE (VD h)];rfl
 | turn k =>
  obtain ⟨h1, h2⟩ := h;simp! [fJ, Pen.d, Pen.ds, Cmd.d, cO, eZ, kP (show -(2 ^ 62) <= k by omega) (show k < 2 ^ 62 by omega), FN (k.toNat) 0 (z.u, z.v)]
  rfl
 | mirror => simp! [fJ, Pen.d, Pen.ds, Cmd.d, cO]; rfl
 | scale k =>
  simp! [fJ, Pen.d, Pen.ds, Cmd.d, cO, eZ, oE (VD (show -9 <= k /\ k <= 9 by have := h.1; have := h.2; omega))]
  rfl
 | aim a b => simp! [fJ, Pen.d, Pen.ds, Cmd.d, cO, eZ, lL]; rfl
 | place a b => simp! [fJ, Pen.d, Pen.ds, Cmd.d, cO, eZ, lL]; rfl
 | mark => simp! [fJ, Pen.d, Pen.ds, Cmd.d, cO]; rfl
 | ret => simp! [fJ, Pen.d, Pen.ds, Cmd.d, cO]; rfl
 | exch => simp! [fJ, Pen.d, Pen.ds, Cmd.d, cO]; rfl
def mN (S0 : aO) (xs ys : List D) : aO := S0 ++ [.lst xs, .lst ys]
section
variable {S0 : aO} {xs ys : List D}
theorem LI : (mN S0 xs ys)[S0.length]? = some (.lst xs) := by simp [mN]
theorem OB : (mN S0 xs ys)[S0.length + 1]? = some (.lst ys) := by simp [mN]
theorem Ul {c : List D} : (mN S0 xs ys).set S0.length (.lst c) = mN S0 c ys := by simp [mN]
theorem OA {c : List D} : (mN S0 xs ys).set (S0.length + 1) (.lst c) = mN S0 xs c := by
 rw [mN, dN _ _ (by omega), show S0.length + 1 - S0.length = 1 by omega]; rfl
theorem Hv {c : Cell} : ((mN S0 xs ys).set S0.length c).take S0.length = S0 := by simp [mN]
theorem Hy {ρ : Ev} {b : FE} {d : D} (F : xs.length < 5000000) (hb : b ρ (mN S0 xs ys) = .ok (.dat d) (mN S0 xs ys)) : vL b ρ (.cel S0.length) (mN S0 xs ys) = .ok (.dat .non) (mN S0 (xs ++ [d]) ys) := by
 rw [lW LI, hb, dX, nI LI (Hl (by omega)), Ul]
theorem Hx {ρ : Ev} {b : FE} {d : D} (F : ys.length < 5000000) (hb : b ρ (mN S0 xs ys) = .ok (.dat d) (mN S0 xs ys)) : vL b ρ (.cel (S0.length + 1)) (mN S0 xs ys) = .ok (.dat .non) (mN S0 xs (ys ++ [d])) := by
 rw [lW OB, hb, dX, nI OB (Hl (by omega)), OA]
theorem Hw {d : D} : sD (.cel (S0.length + 1)) (mN S0 xs (ys ++ [d])) = .ok (.dat d) (mN S0 xs ys) := by
 simp only [sD, OB];rw [show (ys ++ [d])[(ys ++ [d]).length - 1]? = some d by simp]
 dsimp only;rw [lF, OA]
theorem LH : S0 ++ [.lst xs] ++ [.lst ys] = mN S0 xs ys := by simp [mN]
end
theorem Qg {a b c d e f : D} : cutD [a, b, c, d, e, f] none (some 4) = [a, b, c, d] := by
 unfold cutD;rw [HT.sIx_none, show ((4 : Int)) = ((4 : Nat) : Int) from rfl, HT.sIx_nat]
 simp
theorem Ud {a b c d e f : D} : cutD [a, b, c, d, e, f] (some 4) none = [e, f] := by
 unfold cutD;rw [HT.sIx_none, show ((4 : Int)) = ((4 : Nat) : Int) from rfl, HT.sIx_nat]
 simp
structure Ps where
 pens : List Pen
 z : Pen
 stk : List Pen
def G0 (t z : Pen) : Pen := ⟨t.x, t.y, t.u, t.v, z.p, z.q⟩
def EZ : Deed -> Ps -> Option Ps
 | .cmd c, s => some ⟨s.pens ++ [c.run s.z], c.run s.z, s.stk⟩
 | .op, s => some ⟨s.pens, s.z, s.z :: s.stk⟩
 | .cl, s => match s.stk with
  | [] => none
  | t :: k => some ⟨s.pens, G0 t s.z, k⟩
def lC : List Deed -> Ps -> Option Ps
 | [], s => some s
 | d :: r, s => match EZ d s with
  | none => none
  | some s' => lC r s'
def Deed.Ok : Deed -> Prop
 | .cmd c => c.Ok
 | _ => True
theorem DB {c : Cmd} {S : aO} : cH (.dat c.d) (.dat (.int 0)) S = .ok (.dat (.str c.word)) S := by
 cases c <;> exact cO
theorem yJ {c : Cmd} {w : Str} (h : w = "open" \/ w = "close" \/ w = "hold" \/ w = "shut") : decide (c.word = w) = false := by
 rcases h with rfl | rfl | rfl | rfl <;> cases c <;> rfl
def t4 (z : Pen) : D := .tup [.int z.x, .int z.y, .int z.u, .int z.v]
theorem Cy {S0 : aO} {a0 : Option Vl} : ∀ (ds : List Deed) (s s' : Ps), (∀ d ∈ ds, d.Ok) -> lC ds s = some s' -> s.pens.length + s.stk.length + ds.length <= 1000000 ->
  loop (.nm 4) fK (ds.map Deed.d) [a0, some (.dat s.z.d), some (.cel S0.length), some (.cel (S0.length + 1)), none] (mN S0 (s.pens.map Pen.d) (uT t4 s.stk)) = .next [a0, some (.dat s'.z.d), some (.cel S0.length), some (.cel (S0.length + 1)), none] (mN S0 (s'.pens.map Pen.d) (uT t4 s'.stk))
 | [], s, s', _, h, _ => by cases h; rfl
 | d :: r, s, s', ok, h, hl => by
  rw [aK] at hl;have okd := ok d (aV ..);rw [aN, loop];simp only [pR, jQ];rw [fK];cases d with
  | cmd c =>
   have ih := Cy (S0 := S0) (a0 := a0) r ⟨s.pens ++ [c.run s.z], c.run s.z, s.stk⟩ s' (fun d hd => ok d (aM _ hd)) h (by simp; omega)
   simp! [Deed.d, DB, yJ (c := c) (w := "open") (.inl rfl), yJ (c := c) (w := "close") (.inr (.inl rfl)), xX (show c.Ok from okd), Hy (d := (c.run s.z).d) (S0 := S0) (xs := s.pens.map Pen.d) (ys := uT t4 s.stk) (by rw [aP]; omega)]
   rw [<- fK, <- ih];simp only [cU, aN, bL]
  | op =>
   have ih := Cy (S0 := S0) (a0 := a0) r ⟨s.pens, s.z, s.z :: s.stk⟩ s' (fun d hd => ok d (aM _ hd)) h (by simp; omega)
   have hb : ∀ {x : Option Vl}, Bv false (aC 1) qJ (gM (mC (.int 4))) [a0, some (.dat s.z.d), some (.cel S0.length), some (.cel (S0.length + 1)), x] (mN S0 (s.pens.map Pen.d) (uT t4 s.stk)) = .ok (.dat (t4 s.z)) (mN S0 (s.pens.map Pen.d) (uT t4 s.stk)) := by
    intro x;simp! [Pen.d, Pen.ds, Qg];rfl
   simp! [Deed.d, cO, Hx (by rw [oK]; omega) hb]
   rw [<- fK, <- ih];simp only [rvD_cons, t4]
  | cl =>
   cases hk : s.stk with
   | nil => simp [lC, EZ, hk] at h
   | cons t k =>
    simp only [lC, EZ, hk] at h;have ih := Cy (S0 := S0) (a0 := a0) r ⟨s.pens, G0 t s.z, k⟩ s' (fun d hd => ok d (aM _ hd)) h (by simp; rw [hk] at hl; simp at hl; omega)
    rw [rvD_cons];simp! [Deed.d, cO, Hw, Ud, t4, nL, aK, bF, sz, bW, bT];rw [<- fK, <- ih];rfl
theorem UH {S : aO} {ds : List Deed} {z : Pen} {s' : Ps} (ls : LS S) (ok : ∀ d ∈ ds, d.Ok) (h : lC ds ⟨[], z, []⟩ = some s') (hl : ds.length <= 900000) :
  lK [.dat (.lst (ds.map Deed.d)), .dat z.d] S = .ok (.dat (.tup [.lst (s'.pens.map Pen.d), s'.z.d])) S := by
 have lp := Cy (S0 := S) (a0 := some (.dat (.lst (ds.map Deed.d)))) ds ⟨[], z, []⟩ s' ok h (by simp; omega)
 have lsb : (S.all fun c => c.below S.length) = true := bV.mpr fun c hc => ls c hc _
 simp only [bL, uT, List.reverse_nil] at lp;rw [FG];unfold oV;simp! [bP, aK, bF, lQ, LH, lp, lV (LI (S0 := S))];dsimp only [cC, trunc];rw [Hv, show (Vl.below S.length (Vl.dat (D.tup [D.lst (s'.pens.map Pen.d), s'.z.d])) && S.all fun c => c.below S.length) = true by rw [lsb]; rfl, if_pos rfl]
def Deed.l : Deed -> D
 | .cmd c => c.d
 | .op => .tup [.str "hold"]
 | .cl => .tup [.str "shut"]
theorem SO {a b c : D} {r : List D} {S : aO} : cH (.dat (.lst (a :: b :: c :: r))) (.dat (.int 2)) S = .ok (.dat c) S := wH (atI_nat (j := 2) rfl)
theorem S7 {c : Cmd} {z : Pen} {S : aO} (h : c.Ok) : Af [.dat z.d, .dat c.d] S = .ok (.dat (c.run z).d) S := by
 rw [RA];unfold BL;cases c with
 | go k =>
  simp! [fJ, Pen.d, Pen.ds, Cmd.d, cO, eZ, lL, nL, aK, bF, sz, bW, bT, oE (VD h)];rfl
 | turn k =>
  obtain ⟨h1, h2⟩ := h;rcases (by omega : k = 1 \/ k = 2 \/ k = 3) with rfl | rfl | rfl
  ·simp! [fJ, Pen.d, Pen.ds, Cmd.d, cO, eZ, lL, C1, FB, SO, nL, aK, bF, sz, bW, bT, Int.sub_self]
   rfl
  ·simp! [fJ, Pen.d, Pen.ds, Cmd.d, cO, eZ, lL, C1, FB, SO, nL, aK, bF, sz, bW, bT, show (2 : Int) - 1 = 1 from rfl]
   rfl
  ·simp! [fJ, Pen.d, Pen.ds, Cmd.d, cO, eZ, lL, C1, FB, SO, nL, aK, bF, sz, bW, bT, show (3 : Int) - 1 = 2 from rfl]
   show Res.ok (Vl.dat (D.tup [.int z.x, .int z.y, .int z.v, .int (- z.u), .int z.p, .int z.q])) S = Res.ok (Vl.dat (D.tup [.int z.x, .int z.y, .int (- -z.v), .int (- z.u), .int z.p, .int z.q])) S
   rw [Int.neg_neg]
 | mirror => simp! [fJ, Pen.d, Pen.ds, Cmd.d, cO, eZ, lL, nL, aK, bF, sz, bW, bT]; rfl
 | scale k =>
  simp! [fJ, Pen.d, Pen.ds, Cmd.d, cO, eZ, lL, nL, aK, bF, sz, bW, bT, oE (mul9r (show -9 <= k /\ k <= 9 by have := h.1; have := h.2; omega))]
  show Res.ok (Vl.dat (D.tup [.int z.x, .int z.y, .int (z.u * k), .int (z.v * k), .int z.p, .int z.q])) S = Res.ok (Vl.dat (D.tup [.int z.x, .int z.y, .int (k * z.u), .int (k * z.v), .int z.p, .int z.q])) S
  rw [DI z.u, DI z.v]
 | aim a b => simp! [fJ, Pen.d, Pen.ds, Cmd.d, cO, eZ, lL, nL, aK, bF, sz, bW, bT]; rfl
 | place a b => simp! [fJ, Pen.d, Pen.ds, Cmd.d, cO, eZ, lL, nL, aK, bF, sz, bW, bT]; rfl
 | mark => simp! [fJ, Pen.d, Pen.ds, Cmd.d, cO, eZ, lL, nL, aK, bF, sz, bW, bT]; rfl
 | ret => simp! [fJ, Pen.d, Pen.ds, Cmd.d, cO, eZ, lL, nL, aK, bF, sz, bW, bT]; rfl
 | exch => simp! [fJ, Pen.d, Pen.ds, Cmd.d, cO, eZ, lL, nL, aK, bF, sz, bW, bT]; rfl
theorem D7 {S0 : aO} {a0 : Option Vl} : ∀ (ds : List Deed) (s s' : Ps), (∀ d ∈ ds, d.Ok) -> lC ds s = some s' -> s.pens.length + s.stk.length + ds.length <= 1000000 ->
  loop (.nm 4) lU (ds.map Deed.l) [a0, some (.dat s.z.d), some (.cel S0.length), some (.cel (S0.length + 1)), none] (mN S0 (s.pens.map Pen.d) (uT Pen.d s.stk)) = .next [a0, some (.dat s'.z.d), some (.cel S0.length), some (.cel (S0.length + 1)), none] (mN S0 (s'.pens.map Pen.d) (uT Pen.d s'.stk))
 | [], s, s', _, h, _ => by cases h; rfl
 | d :: r, s, s', ok, h, hl => by
  rw [aK] at hl;have okd := ok d (aV ..);rw [aN, loop];simp only [pR, jQ];rw [lU];cases d with
  | cmd c =>
   have ih := D7 (S0 := S0) (a0 := a0) r ⟨s.pens ++ [c.run s.z], c.run s.z, s.stk⟩ s' (fun d hd => ok d (aM _ hd)) h (by simp; omega)
   simp! [Deed.l, DB, yJ (c := c) (w := "hold") (.inr (.inr (.inl rfl))), yJ (c := c) (w := "shut") (.inr (.inr (.inr rfl))), S7 (show c.Ok from okd), Hy (d := (c.run s.z).d) (S0 := S0) (xs := s.pens.map Pen.d) (ys := uT Pen.d s.stk) (by rw [aP]; omega)]
   rw [<- lU, <- ih];simp only [cU, aN, bL]
  | op =>
   have ih := D7 (S0 := S0) (a0 := a0) r ⟨s.pens, s.z, s.z :: s.stk⟩ s' (fun d hd => ok d (aM _ hd)) h (by simp; omega)
   simp! [Deed.l, cO, Hx (d := s.z.d) (S0 := S0) (xs := s.pens.map Pen.d) (ys := uT Pen.d s.stk) (by rw [oK]; omega)]
   rw [<- lU, <- ih];simp only [rvD_cons]
  | cl =>
   cases hk : s.stk with
   | nil => simp [lC, EZ, hk] at h
   | cons t k =>
    simp only [lC, EZ, hk] at h;have ih := D7 (S0 := S0) (a0 := a0) r ⟨s.pens, G0 t s.z, k⟩ s' (fun d hd => ok d (aM _ hd)) h (by simp; rw [hk] at hl; simp at hl; omega)
    rw [rvD_cons];simp! [Deed.l, cO, Hw, Ud, Qg, nL, aK, bF, sz, bW, bT];rw [<- lU, <- ih];rfl
theorem P9 {S : aO} {ds : List Deed} {z : Pen} {s' : Ps} (ls : LS S) (ok : ∀ d ∈ ds, d.Ok) (h : lC ds ⟨[], z, []⟩ = some s') (hl : ds.length <= 900000) :
  xR [.dat (.lst (ds.map Deed.l)), .dat z.d] S = .ok (.dat (.lst [.lst (s'.pens.map Pen.d), s'.z.d])) S := by
 have lp := D7 (S0 := S) (a0 := some (.dat (.lst (ds.map Deed.l)))) ds ⟨[], z, []⟩ s' ok h (by simp; omega)
 have lsb : (S.all fun c => c.below S.length) = true := bV.mpr fun c hc => ls c hc _
 simp only [bL, uT, List.reverse_nil] at lp;rw [R9];unfold BK;simp! [bP, aK, bF, lQ, LH, lp, lV (LI (S0 := S))];dsimp only [cC, trunc];rw [Hv, show (Vl.below S.length (Vl.dat (D.lst [D.lst (s'.pens.map Pen.d), s'.z.d])) && S.all fun c => c.below S.length) = true by rw [lsb]; rfl, if_pos rfl]
abbrev mD (M : List Int) : D := .lst (M.map D.int)
theorem Pp {M : List Int} {i : Nat} (h : i < M.length) : (M.map D.int)[i]? = some (.int (gt M i)) := by
 rw [cL, cG h]
 show some (D.int M[i]) = some (D.int (M.getD i 0))
 rw [bK, cG h];rfl
theorem ixM {M : List Int} {t : Int} {n : Nat} {S : aO} (e : t = (n : Int)) (h : n < M.length) : cH (.dat (mD M)) (.dat (.int t)) S = .ok (.dat (.int (gt M n))) S := by
 rw [e];exact wH (atI_nat (Pp h))
theorem Te {M : List Int} {lo hi : Option Int} : cutD (M.map D.int) lo hi = ((M.drop (HT.sIx M.length 0 lo)).take (HT.sIx M.length M.length hi - HT.sIx M.length 0 lo)).map D.int := by
 unfold cutD;rw [aP, <- Jw, <- Ba]
theorem cut7 {M : List Int} {a b : Int} {k : Nat} (h : 7 * k + 7 <= M.length) (ha : a = ((7 * k : Nat) : Int)) (hb : b = ((7 * k + 7 : Nat) : Int)) : cutD (M.map D.int) (some a) (some b) = ((aX 7).map fun j => gt M (7 * k + j)).map D.int := by
 subst ha hb;rw [Te, HT.sIx_nat, HT.sIx_nat, Ga (by omega), Ga (by omega)]
 rw [show (M.drop (7 * k)).take (7 * k + 7 - 7 * k) = (aX 7).map fun j => gt M (7 * k + j) from ?_]
 apply List.ext_getElem
 ·simp; omega
 ·intro i h1 h2
  simp only [aP, List.length_range] at h2;rw [List.getElem_take, List.getElem_drop, List.getElem_map, List.getElem_range];unfold gt;rw [bK, cG (by omega)]
  rfl
theorem LD {f g : Nat -> D} : ∀ {l : List Nat}, zR (l.map f) (l.map g) = l.map fun j => .tup [f j, g j]
 | [] => rfl
 | x :: r => by rw [aN, aN, zR, LD]; rfl
theorem g_zip {a b : FE} {ρ : Ev} {S : aO} {xs ys : List D} (ha : a ρ S = .ok (.dat (.lst xs)) S) (hb : b ρ S = .ok (.dat (.lst ys)) S) : P4 a b ρ S = .ok (zR xs ys) S := by
 unfold P4;rw [ha, dX, hb, dX]
theorem CV {S : aO} : oC [] S = .ok (.dat (mD unitM)) S := by
 rw [L6];unfold vT vQ;simp! [kP (show -(2 ^ 62) <= (49 : Int) by decide) (show (49 : Int) < 2 ^ 62 by decide)]
 rw [show iC 0 49 = (aX 49).map (fun k : Nat => D.int (0 + (k : Int))) from rfl]
 rw [jV (g := fun k : Nat => D.int (if decide ((0 + (k : Int)) % 8 = 0) = true then 1 else 0)) (sz (by decide)) fun k _ => ⟨_, rfl, ?_⟩]
 ·dsimp only [newL, cC]
  rw [show (aX 49).map (fun k : Nat => D.int (if decide ((0 + (k : Int)) % 8 = 0) = true then 1 else 0)) = ((aX 49).map (fun k : Nat => (if decide ((0 + (k : Int)) % 8 = 0) = true then (1 : Int) else 0))).map D.int by rw [jP]; rfl, MY]
  rfl
 ·simp! [rV (show (0 : Int) < 8 by decide)]
def IU (A B : List Int) (i k : Nat) : List Int := (aX 7).map fun j => dot (fun l => gt B (7 * i + l) * gt A (7 * l + j)) k
theorem Oj {A B : List Int} {i : Nat} : IU A B i 0 = [0, 0, 0, 0, 0, 0, 0] := rfl
theorem MF {S : aO} {A B : List Int} {a b i : Nat} {a2 : Option Vl} (hA : A.length = 49) (hB : B.length = 49) (ba : ∀ x ∈ A, Bn a x) (bb : ∀ x ∈ B, Bn b x) (a0 : 0 < a) (b0 : 0 < b) (hab : a + b <= 1000000) (hi : i < 7) : ∀ (n k : Nat), n + k = 7 ->
  loop (.nm 5) kI (iC (k : Int) n) [some (.dat (mD A)), some (.dat (mD B)), a2, some (.dat (.int (i : Int))), some (.dat (mD (IU A B i k))), none, none, none, none] S = .next [some (.dat (mD A)), some (.dat (mD B)), a2, some (.dat (.int (i : Int))), some (.dat (mD (IU A B i 7))), none, none, none, none] S
 | 0, k, h => by
  obtain rfl : k = 7 := by omega
  rfl
 | n + 1, k, h => by
  have ih := MF (S := S) (a2 := a2) hA hB ba bb a0 b0 hab hi n (k + 1) (by omega)
  rw [rG, loop];simp only [pR, jQ];rw [kI];have e1 : IU A B i (k + 1) = (aX 7).map fun j => dot (fun l => gt B (7 * i + l) * gt A (7 * l + j)) k + gt B (7 * i + k) * gt A (7 * k + j) := rfl
  have m7 : ∀ {x : Nat}, IntMulOk (7 : Int) (x : Int) := mulL (by decide) (by decide)
  have ix := ixM (M := B) (t := 7 * (i : Int) + (k : Int)) (n := 7 * i + k) (S := S) (by omega) (by omega)
  simp! [oE m7, ix]
  by_cases hc : gt B (7 * i + k) = 0
  ·simp! [hc]
   rw [<- kI, show ((k : Int) + 1) = ((k + 1 : Nat) : Int) by omega, <- ih, e1]
   simp only [hc, Int.zero_mul, Int.add_zero];rfl
  ·have hz : (P4 (aC 4) (Bv false (aC 0) (gM (aU qN (mC (.int 7)) (aC 5))) (gM (aU (dY false) (aU qN (mC (.int 7)) (aC 5)) (mC (.int 7)))))) [some (.dat (mD A)), some (.dat (mD B)), a2, some (.dat (.int (i : Int))), some (.dat (mD (IU A B i k))), some (.dat (.int (k : Int))), some (.dat (.int (gt B (7 * i + k)))), none, none] S = .ok ((aX 7).map fun j => .tup [.int (dot (fun l => gt B (7 * i + l) * gt A (7 * l + j)) k), .int (gt A (7 * k + j))]) S := by
    rw [g_zip (xs := (IU A B i k).map D.int) (ys := ((aX 7).map fun j => gt A (7 * k + j)).map D.int) (by simp! [if_true]) (by simp! [oE m7, cut7 (M := A) (a := 7 * (k : Int)) (b := 7 * (k : Int) + 7) (k := k) (by omega) (by omega) (by omega)])]
    rw [IU, jP, jP, LD];rfl
   simp! [decide_eq_false hc, hz];rw [jV (g := fun j : Nat => D.int (dot (fun l => gt B (7 * i + l) * gt A (7 * l + j)) k + gt B (7 * i + k) * gt A (7 * k + j))) (sz (by decide)) fun j hj => ⟨_, rfl, ?_⟩]
   ·simp! [if_true]
    rw [<- kI, show ((k : Int) + 1) = ((k + 1 : Nat) : Int) by omega, <- ih, e1]
    simp only [mD, jP];rfl
   ·simp! [jQ, oE (mulB (G3 bb) (G3 ba) b0 a0 (by omega))]
theorem lst7 {cl : Bool} {S : aO} {a b c d e f g : D} : KR cl [.dat a, .dat b, .dat c, .dat d, .dat e, .dat f, .dat g] S = newL cl [a, b, c, d, e, f, g] S := rfl
theorem Jh {S : aO} {A B : List Int} {a b : Nat} (hA : A.length = 49) (hB : B.length = 49) (ba : ∀ x ∈ A, Bn a x) (bb : ∀ x ∈ B, Bn b x) (a0 : 0 < a) (b0 : 0 < b) (hab : a + b <= 1000000) : ∀ (n i : Nat), n + i = 7 ->
  loop (.nm 3) mR (iC (i : Int) n) [some (.dat (mD A)), some (.dat (mD B)), some (.dat (mD (rows (fun i j => dot (fun k => gt B (7 * i + k) * gt A (7 * k + j)) 7) i))), none, none, none, none, none, none] S = .next [some (.dat (mD A)), some (.dat (mD B)), some (.dat (mD (tD A B))), none, none, none, none, none, none] S
 | 0, i, h => by
  obtain rfl : i = 7 := by omega
  rw [La];rfl
 | n + 1, i, h => by
  have ih := Jh (S := S) hA hB ba bb a0 b0 hab n (i + 1) (by omega)
  have inn := MF (S := S) (i := i) (a2 := some (.dat (mD (rows (fun i j => dot (fun k => gt B (7 * i + k) * gt A (7 * k + j)) 7) i)))) hA hB ba bb a0 b0 hab (by omega) 7 0 rfl
  rw [Oj, nK] at inn;simp only [mD, aN, bL] at inn;rw [rG, loop];simp only [pR, jQ];rw [mR];simp! [lst7, kP (show -(2 ^ 62) <= (7 : Int) by decide) (show (7 : Int) < 2 ^ 62 by decide), inn, pV, aP, IT, IU, List.length_range, sz (show 7 * i + 7 <= 1000 by omega)]
  rw [<- mR, show ((i : Int) + 1) = ((i + 1 : Nat) : Int) by omega, <- ih, Bq]
  simp only [mD, cU]
theorem Cg {S : aO} {A B : List Int} {a b : Nat} (hA : A.length = 49) (hB : B.length = 49) (ba : ∀ x ∈ A, Bn a x) (bb : ∀ x ∈ B, Bn b x) (a0 : 0 < a) (b0 : 0 < b) (hab : a + b <= 1000000) :
  rM [.dat (mD A), .dat (mD B)] S = .ok (.dat (mD (tD A B))) S := by
 have lp := Jh (S := S) hA hB ba bb a0 b0 hab 7 0 rfl;rw [show rows (fun i j => dot (fun k => gt B (7 * i + k) * gt A (7 * k + j)) 7) 0 = [] from rfl, nK] at lp
 rw [L8];unfold vV;simp! [kP (show -(2 ^ 62) <= (7 : Int) by decide) (show (7 : Int) < 2 ^ 62 by decide), show D.lst [] = mD [] from rfl, lp]
 rfl
def sV (M : List Int) : List Int := mx fun i j => if i = 0 \/ 4 < i then gt M (7 * i + j) else gt M 0 * delta i j
theorem Bz (M : List Int) : (sV M).length = 49 := E8 _
def Lr (M : List Int) : List Int := M.take 7 ++ ((unitM.drop 7).take 28).map (gt M 0 * ·) ++ M.drop 35
theorem G4 {A B : List Int} {t : Nat} : gt (A ++ B) t = if t < A.length then gt A t else gt B (t - A.length) := by
 unfold gt;rw [bK, bK, bK, List.getElem?_append]
 by_cases h : t < A.length
 ·rw [if_pos h, if_pos h]
 ·rw [if_neg h, if_neg h]
theorem Lx {A : List Int} {n t : Nat} (h : t < n) : gt (A.take n) t = gt A t := by
 unfold gt;rw [bK, bK, fG, if_pos h]
theorem Ly {A : List Int} {n t : Nat} : gt (A.drop n) t = gt A (n + t) := by
 unfold gt;rw [bK, bK, List.getElem?_drop]
theorem Vg {A : List Int} {c : Int} {t : Nat} : gt (A.map (c * ·)) t = c * gt A t := by
 unfold gt;rw [bK, bK, cL];cases A[t]? with
 | none => simp
 | some x => rfl
theorem PU {M : List Int} (h : M.length = 49) : Lr M = sV M := by
 have l1 : (M.take 7).length = 7 := by rw [cX, h]; rfl
 have l2 : (((unitM.drop 7).take 28).map (gt M 0 * ·)).length = 28 := by rw [aP, cX, pZ, wX]; rfl
 refine mx_eq ?_ (Bz M) fun i j hi hj => ?_
 ·unfold Lr
  rw [bP, bP, l1, l2, pZ, h]
 ·unfold Lr sV
  rw [EK hi hj, G4, bP, l1, l2, G4, l1]
  by_cases h0 : i = 0
  ·rw [if_pos (by omega), if_pos (by omega), if_pos (.inl h0), Lx (by omega)]
  ·by_cases h4 : 4 < i
   ·rw [if_neg (by omega), if_pos (.inr h4), Ly, show 35 + (7 * i + j - (7 + 28)) = 7 * i + j by omega]
   ·rw [if_pos (by omega), if_neg (by omega), if_neg (by omega), Vg, Lx (by omega), Ly, show 7 + (7 * i + j - 7) = 7 * i + j by omega]
    unfold unitM;rw [EK hi hj]
theorem DL {x : Int} (h : x ∈ unitM) : x = 0 \/ x = 1 := by
 unfold unitM mx at h;obtain ⟨t, _, rfl⟩ := oI.mp h;unfold delta
 by_cases e : t / 7 = t % 7
 ·right; rw [if_pos e]
 ·left; rw [if_neg e]
theorem SL {S : aO} {M : List Int} (h : M.length = 49) : oN [.dat (mD M)] S = .ok (.dat (mD (sV M))) S := by
 rw [FH];unfold oW;have i0 := ixM (M := M) (t := 0) (n := 0) (S := S) rfl (by omega)
 have c1 : cutD (unitM.map D.int) (some 7) (some 35) = ((unitM.drop 7).take 28).map D.int := by
  rw [Te, show ((7 : Int)) = ((7 : Nat) : Int) from rfl, show ((35 : Int)) = ((35 : Nat) : Int) from rfl, HT.sIx_nat, HT.sIx_nat, wX]
  rfl
 have c2 : cutD (M.map D.int) none (some 7) = (M.take 7).map D.int := by
  rw [Te, HT.sIx_none, show ((7 : Int)) = ((7 : Nat) : Int) from rfl, HT.sIx_nat, h]
  rfl
 have c3 : cutD (M.map D.int) (some 35) none = (M.drop 35).map D.int := by
  rw [Te, HT.sIx_none, show ((35 : Int)) = ((35 : Nat) : Int) from rfl, HT.sIx_nat, h]
  rw [show min 35 49 = 35 from rfl, yI (by simp; omega)]
 simp! [i0, CV, c1];rw [jV (g := fun x : Int => D.int (gt M 0 * x)) (sz (by simp; omega)) fun x hx => ⟨_, rfl, ?_⟩]
 ·rw [show (List.map (fun x : Int => D.int (gt M 0 * x)) ((unitM.drop 7).take 28)) = (((unitM.drop 7).take 28).map (gt M 0 * ·)).map D.int by rw [jP]; rfl]
  have l1 : (M.take 7).length = 7 := by rw [cX, h]; rfl
  have l2 : (((unitM.drop 7).take 28).map (gt M 0 * ·)).length = 28 := by rw [aP, cX, pZ, wX]; rfl
  have q1 : ∀ {cl : Bool}, dY cl (.dat (.lst ((M.take 7).map D.int))) (.dat (.lst ((((unitM.drop 7).take 28).map (gt M 0 * ·)).map D.int))) S = newL cl ((M.take 7).map D.int ++ (((unitM.drop 7).take 28).map (gt M 0 * ·)).map D.int) S := pV (by rw [aP, aP, l1, l2]; exact sz (by decide))
  have q2 : ∀ {cl : Bool}, dY cl (.dat (.lst ((M.take 7).map D.int ++ (((unitM.drop 7).take 28).map (gt M 0 * ·)).map D.int))) (.dat (.lst ((M.drop 35).map D.int))) S = newL cl ((M.take 7).map D.int ++ (((unitM.drop 7).take 28).map (gt M 0 * ·)).map D.int ++ (M.drop 35).map D.int) S := pV (by rw [bP, aP, aP, l1, l2, aP, pZ, h]; exact sz (by decide))
  simp! [c2, c3, q1, q2];rw [<- cU, <- cU]
  show Res.ok (Vl.dat (mD (Lr M))) S = _
  rw [PU h]
 ·have hs : x = 0 \/ x = 1 := DL (List.mem_of_mem_drop (lE hx))
  simp! [oE (show IntMulOk (gt M 0) x from mulR (by omega) (by omega))]
theorem Nb {k j : Nat} : (if decide ((0 + (k : Int)) = (j : Int)) = true then (1 : Int) else 0) = delta k j := by
 unfold delta
 by_cases h : k = j
 ·subst h; simp
 ·rw [decide_eq_false (by omega), if_neg h]; rfl
theorem RK {cl : Bool} {j : Nat} {S : aO} {a0 a1 a2 a4 a5 a6 a7 a8 : Option Vl} : zK cl (.nm 6) gO (m1 uK (aU fT (aC 6) (aC 3))) [a0, a1, a2, some (.dat (.int (j : Int))), a4, a5, a6, a7, a8] [6] (iC 0 6) S = newL cl (qA j).ds S := by
 rw [show iC 0 6 = (aX 6).map (fun k : Nat => D.int (0 + (k : Int))) from rfl, jV (g := fun k : Nat => D.int (delta k j)) (sz (by decide)) fun k _ => ⟨_, rfl, ?_⟩]
 ·rfl
 ·simp! [if_true]
  rw [Nb]
theorem IV {S : aO} : EG (.dat (.int 6)) S = .ok (iC 0 6) S := by rw [kP (by decide) (by decide)]; rfl
theorem rng7 {S : aO} : EG (.dat (.int 7)) S = .ok (iC 0 7) S := by rw [kP (by decide) (by decide)]; rfl
theorem ixP {z : Pen} {t : Int} {n : Nat} {S : aO} (e : t = (n : Int)) (h : n < 6) : cH (.dat z.d) (.dat (.int t)) S = .ok (.dat (.int (gt z.ns n))) S := by
 rw [e];exact G5 (atI_nat (Pp (M := z.ns) h))
def uN (r : Pen -> Pen) (j : Nat) : D := .lst ((aX 7).map fun i => D.int (kZ r i j))
theorem Ik {S : aO} {c : Cmd} (h : c.Ok) : ∀ (n j : Nat), n + j = 6 ->
  loop (.nm 3) lH (iC (j : Int) n) [some (.dat c.d), some (.dat (c.run zeroP).d), some (.cel S.length), none, none, none, none, none, none] (S ++ [.lst ((aX (j + 1)).map (uN c.run))]) = .next [some (.dat c.d), some (.dat (c.run zeroP).d), some (.cel S.length), none, none, none, none, none, none] (S ++ [.lst ((aX 7).map (uN c.run))])
 | 0, j, e => by
  obtain rfl : j = 6 := by omega
  rfl
 | n + 1, j, e => by
  have ih := Ik (S := S) h n (j + 1) (by omega)
  rw [rG, loop];simp only [pR, jQ];rw [lH];have hb : ∀ {T : aO} {a3 a4 a6 : Option Vl}, BX false (kX (mC (.int 6))) (.nm 6) gO oR [6] [some (.dat c.d), some (.dat (c.run zeroP).d), some (.cel S.length), a3, a4, some (.dat (c.run (qA j)).d), a6, none, none] T = .ok (.dat (.lst ((aX 6).map fun i => D.int (gt (c.run (qA j)).ns i - gt (c.run zeroP).ns i)))) T := by
   intro T a3 a4 a6;simp! [IV];rw [show iC 0 6 = (aX 6).map (fun k : Nat => D.int (0 + (k : Int))) from rfl, jV (g := fun i : Nat => D.int (gt (c.run (qA j)).ns i - gt (c.run zeroP).ns i)) (sz (by decide)) fun k hk => ⟨_, rfl, ?_⟩]
   ·rfl
   ·unfold oR
    simp! [ixP (z := c.run (qA j)) (t := 0 + (k : Int)) (n := k) (by omega) (eR.mp hk), ixP (z := c.run zeroP) (t := 0 + (k : Int)) (n := k) (by omega) (eR.mp hk)]
  have hg : (S ++ [.lst ((aX (j + 1)).map (uN c.run))])[S.length]? = some (.lst ((aX (j + 1)).map (uN c.run))) := by simp
  have ha : ∀ {b : FE} {ρ : Ev} {d : D}, b ρ (S ++ [.lst ((aX (j + 1)).map (uN c.run))]) = .ok (.dat d) (S ++ [.lst ((aX (j + 1)).map (uN c.run))]) -> vL b ρ (.cel S.length) (S ++ [.lst ((aX (j + 1)).map (uN c.run))]) = .ok (.dat .non) (S ++ [.lst ((aX (j + 1)).map (uN c.run) ++ [d])]) := by
   intro b ρ d hd;rw [lW hg, hd, dX, nI hg (Hl (by simp; omega))]
   simp
  simp! [IV, RK, show D.tup (qA j).ds = (qA j).d from rfl, xX h]
  rw [ha (d := uN c.run (j + 1)) (by simp! [hb]; rw [pV (by simp; exact sz (by decide))]; rfl)]
  simp! [if_true];rw [<- lH, show ((j : Int) + 1) = ((j + 1 : Nat) : Int) by omega, <- ih, FL (n := j + 1), cU]
  rfl
theorem Fy {i i1 : Nat} {mj : FI} {e : FE} {vs1 : List Nat} {ρ : Ev} {S : aO} {f : Nat -> D} {ys : List Nat} {g : Nat -> Nat -> D} {f1 : Nat -> D} : ∀ (xs : List Nat), (∀ x ∈ xs, mj (ρ.set i (some (.dat (f x)))) S = .ok (ys.map f1) S) -> (∀ x ∈ xs, ∀ y ∈ ys, e ((wipeE (ρ.set i (some (.dat (f x)))) vs1).set i1 (some (.dat (f1 y)))) S = .ok (.dat (g x y)) S) ->
  zJ (.nm i) gO mj (.nm i1) gO e vs1 ρ (xs.map f) S = .ok (xs.flatMap fun x => ys.map (g x)) S
 | [], _, _ => rfl
 | x :: r, h1, h2 => by
  have ih := Fy (i := i) (i1 := i1) (mj := mj) (e := e) (vs1 := vs1) (ρ := ρ) (S := S) (f := f) (ys := ys) (g := g) (f1 := f1) r (fun x hx => h1 x (aM _ hx)) fun x hx => h2 x (aM _ hx)
  rw [aN, zJ];simp only [pR, gO, if_true];rw [h1 x (aV ..)];dsimp only;have q : iJ (.nm i1) gO e (wipeE (ρ.set i (some (.dat (f x)))) vs1) (ys.map f1) S = .ok (ys.map (g x)) S := Ao fun y hy => ⟨_, rfl, h2 x (aV ..) y hy⟩
  rw [q];dsimp only;rw [ih];rfl
theorem NN {xs : List D} {t : Int} {n : Nat} {d : D} {S : aO} (e : t = (n : Int)) (h : xs[n]? = some d) : cH (.dat (.lst xs)) (.dat (.int t)) S = .ok (.dat d) S := by
 rw [e];exact wH (atI_nat h)
theorem Mb {T : aO} {n : Nat} {c : Cell} {d : D} (h : (T.all fun c => c.below T.length) = true) (hn : n = T.length) : trunc n (.ok (.dat d) (T ++ [c])) = .ok (.dat d) T := by
 subst hn;unfold trunc;dsimp only;rw [List.take_left, h];rfl
theorem KI {S : aO} {c : Cmd} (lb : (S.all fun c => c.below S.length) = true) (h : c.Ok) : pH [.dat c.d] S = .ok (.dat (mD c.mat)) S := by
 have lp := Ik (S := S) h 6 0 rfl;rw [nK] at lp;have ex := xX (c := c) (z := zeroP) (S := S) h;rw [Jq];unfold tE;have hg : (S ++ [.lst ((aX 7).map (uN c.run))])[S.length]? = some (.lst ((aX 7).map (uN c.run))) := by simp
 have hst : (eB true (aB (eB false (aB (mC (.int 1)) (P5 (aC 1) aL))) aL)) [some (.dat c.d), some (.dat (c.run zeroP).d), none, none, none, none, none, none, none] S = .ok (.cel S.length) (S ++ [.lst ((aX (0 + 1)).map (uN c.run))]) := rfl;have hz : (bX (aB (mC (.int 0)) (aB (mC (.int 0)) (aB (mC (.int 0)) (aB (mC (.int 0)) (aB (mC (.int 0)) (aB (mC (.int 0)) aL))))))) [some (.dat c.d), none, none, none, none, none, none, none, none] S = .ok (.dat zeroP.d) S := rfl;have l2 : (P7 false (kX (mC (.int 7))) (.nm 7) gO (kX (mC (.int 7))) (.nm 8) gO (aU cH (aU cH (aC 2) (aC 8)) (aC 7)) [7, 8] [8]) [some (.dat c.d), some (.dat (c.run zeroP).d), some (.cel S.length), none, none, none, none, none, none] (S ++ [.lst ((aX 7).map (uN c.run))]) = .ok (.dat (mD c.mat)) (S ++ [.lst ((aX 7).map (uN c.run))]) := by
  unfold P7;simp! [rng7];rw [show iC 0 7 = (aX 7).map (fun k : Nat => D.int (0 + (k : Int))) from rfl]
  rw [Fy (ys := aX 7) (f1 := fun k : Nat => D.int (0 + (k : Int))) (g := fun i j => D.int (kZ c.run i j)) (aX 7)]
  ·dsimp only
   rw [show (aX 7).flatMap (fun x => (aX 7).map fun j => D.int (kZ c.run x j)) = (rows (kZ c.run) 7).map D.int by rw [rows, List.map_flatMap]; simp only [jP]; rfl, La, if_pos (by rw [aP, E8]; exact sz (by decide))]
   rw [show mx (kZ c.run) = c.mat by unfold Cmd.mat probeM; rfl]
  ·intro x hx
   simp! [rng7];rfl
  ·intro x hx y hy
   have hx := eR.mp hx;have hy := eR.mp hy;have i1 : cH (.cel S.length) (.dat (.int (0 + (y : Int)))) (S ++ [.lst ((aX 7).map (uN c.run))]) = .ok (.dat (uN c.run y)) (S ++ [.lst ((aX 7).map (uN c.run))]) := QG hg (by rw [Int.zero_add]; exact atI_nat (by rw [cL, mE hy]; rfl))
   have i2 : cH (.dat (uN c.run y)) (.dat (.int (0 + (x : Int)))) (S ++ [.lst ((aX 7).map (uN c.run))]) = .ok (.dat (.int (kZ c.run x y))) (S ++ [.lst ((aX 7).map (uN c.run))]) := NN (n := x) (by omega) (by rw [cL, mE hx]; rfl)
   simp! [wipeE, i1, i2]
 simp only [UW, Ub, Ua, UX, Pw, Kr, Kq, HI, HH, Pz, dX, hz];simp! [Kb h, hz, ex, hst, IV, lp, l2];rw [cC, Mb lb rfl]
theorem NG {S : aO} {c : Cmd} (ls : LS S) (h : c.Ok) : pH [.dat c.d] S = .ok (.dat (mD c.mat)) S := KI (bV.mpr fun c hc => ls c hc _) h
structure Ms where
 m : List Int
 stk : List (List Int)
def xZ : Deed -> Ms -> Option Ms
 | .cmd c, s => some ⟨tD s.m c.mat, s.stk⟩
 | .op, s => some ⟨unitM, s.m :: s.stk⟩
 | .cl, s => match s.stk with
  | [] => none
  | P :: k => some ⟨tD P (sV s.m), k⟩
def lY : List Deed -> Ms -> Option Ms
 | [], s => some s
 | d :: r, s => match xZ d s with
  | none => none
  | some s' => lY r s'
def oG : List Deed -> Nat
 | [] => 0
 | .cmd _ :: r => oG r + 1
 | _ :: r => oG r
def MbL : List (List Int) -> Nat -> Prop
 | [], _ => True
 | M :: k, n => ∃ a, 0 < a /\ a <= n /\ M.length = 49 /\ (∀ x ∈ M, Bn a x) /\ MbL k (n - a)
theorem MbL.mono : ∀ {l : List (List Int)} {n m : Nat}, MbL l n -> n <= m -> MbL l m
 | [], _, _, _, _ => trivial
 | M :: k, n, m, ⟨a, h0, h1, h2, h3, h4⟩, h => ⟨a, h0, by omega, h2, h3, h4.mono (by omega)⟩
theorem O9 : ∀ x ∈ unitM, Bn 1 x := fun x hx => by
 rcases DL hx with rfl | rfl <;> (unfold Bn; decide)
theorem Lq {M : List Int} {a : Nat} (h : ∀ x ∈ M, Bn a x) : ∀ x ∈ sV M, Bn a x := P3 fun i j _ _ => by
 by_cases e : i = 0 \/ 4 < i
 ·rw [if_pos e]; exact G3 h
 ·rw [if_neg e]
  unfold delta
  by_cases e2 : i = j
  ·rw [if_pos e2, Int.mul_one]; exact G3 h
  ·rw [if_neg e2, tK]; exact Bn.zero
theorem HX {d : Deed} {s s' : Ms} {n : Nat} (ok : d.Ok) (h : MbL (s.m :: s.stk) n) (e : xZ d s = some s') : MbL (s'.m :: s'.stk) (n + 8) := by
 obtain ⟨a, h0, h1, h2, h3, h4⟩ := h;cases d with
 | cmd c =>
  cases e;exact ⟨a + 5 + 3, by omega, by omega, CG _ _, Ji h3 (Cmd.mat_bd ok), h4.mono (by omega)⟩
 | op =>
  cases e;exact ⟨1, by omega, by omega, wX, O9, a, h0, by omega, h2, h3, h4.mono (by omega)⟩
 | cl =>
  unfold xZ at e;dsimp only at e;cases hk : s.stk with
  | nil => rw [hk] at e; cases e
  | cons P k =>
   rw [hk] at e h4;cases e;obtain ⟨b, g0, g1, g2, g3, g4⟩ := h4;exact ⟨b + a + 3, by omega, by omega, CG _ _, Ji g3 (Lq h3), g4.mono (by omega)⟩
section
variable {S0 : aO} {xs : List D}
theorem wD : (S0 ++ [Cell.lst xs])[S0.length]? = some (.lst xs) := by simp
theorem Ic {c : Cell} : (S0 ++ [Cell.lst xs]).set S0.length c = S0 ++ [c] := by simp
theorem Ru {ρ : Ev} {b : FE} {d : D} (F : xs.length < 5000000) (hb : b ρ (S0 ++ [.lst xs]) = .ok (.dat d) (S0 ++ [.lst xs])) : vL b ρ (.cel S0.length) (S0 ++ [.lst xs]) = .ok (.dat .non) (S0 ++ [.lst (xs ++ [d])]) := by
 rw [lW wD, hb, dX, nI wD (Hl (by omega)), Ic]
theorem Rr {d : D} : sD (.cel S0.length) (S0 ++ [.lst (xs ++ [d])]) = .ok (.dat d) (S0 ++ [.lst xs]) := by
 simp only [sD, wD];rw [show (xs ++ [d])[(xs ++ [d]).length - 1]? = some d by simp]
 dsimp only;rw [lF, Ic]
end
theorem Gq {S0 : aO} {a0 a1 a2 a3 a4 : Option Vl} (ls : LS S0) : ∀ (ds : List Deed) (s s' : Ms) (n k : Nat), (∀ d ∈ ds, d.Ok) -> lY ds s = some s' -> MbL (s.m :: s.stk) n -> n + 8 * ds.length <= 900000 -> s.stk.length + ds.length <= 900000 ->
  loop (.nm 8) gD (ds.map Deed.d) [a0, a1, a2, a3, a4, some (.dat (mD s.m)), some (.cel S0.length), some (.dat (.int (k : Int))), none] (S0 ++ [.lst (uT mD s.stk)]) = .next [a0, a1, a2, a3, a4, some (.dat (mD s'.m)), some (.cel S0.length), some (.dat (.int ((k + oG ds : Nat) : Int))), none] (S0 ++ [.lst (uT mD s'.stk)])
 | [], s, s', n, k, _, h, _, _, _ => by cases h; rfl
 | d :: r, s, s', n, k, ok, h, hm, hn, hl => by
  rw [aK] at hn hl;have okd := ok d (aV ..);have okr : ∀ d ∈ r, d.Ok := fun d hd => ok d (aM _ hd)
  obtain ⟨a, h0, h1, h2, h3, h4⟩ := id hm;rw [aN, loop];simp only [pR, jQ];rw [gD];cases d with
  | cmd c =>
   have ih := Gq (S0 := S0) (a0 := a0) (a1 := a1) (a2 := a2) (a3 := a3) (a4 := a4) ls r ⟨tD s.m c.mat, s.stk⟩ s' (n + 8) (k + 1) okr h (HX okd hm rfl) (by omega) (by dsimp only; omega)
   simp! [Deed.d, DB, yJ (c := c) (w := "open") (.inl rfl), yJ (c := c) (w := "close") (.inr (.inl rfl)), NG ls.app (show c.Ok from okd), Cg h2 (show c.mat.length = 49 from Dm _) h3 (Cmd.mat_bd (show c.Ok from okd)) h0 (by decide) (by omega : a + 5 <= 1000000)]
   rw [<- gD, show ((k + oG (Deed.cmd c :: r) : Nat) : Int) = ((k + 1 + oG r : Nat) : Int) by simp [oG]; omega, <- ih]
   rfl
  | op =>
   have ih := Gq (S0 := S0) (a0 := a0) (a1 := a1) (a2 := a2) (a3 := a3) (a4 := a4) ls r ⟨unitM, s.m :: s.stk⟩ s' (n + 8) k okr h (HX okd hm rfl) (by omega) (by simp; omega)
   simp! [Deed.d, cO, Ru (d := mD s.m) (S0 := S0) (xs := uT mD s.stk) (by rw [oK]; omega), CV]
   rw [<- gD, show ((k + oG (Deed.op :: r) : Nat) : Int) = ((k + oG r : Nat) : Int) from rfl, <- ih]
   simp only [rvD_cons]
  | cl =>
   cases hk : s.stk with
   | nil => simp [lY, xZ, hk] at h
   | cons P q =>
    have e1 : xZ .cl s = some ⟨tD P (sV s.m), q⟩ := by simp [xZ, hk]
    simp only [lY, xZ, hk] at h;rw [hk] at h4 hl;obtain ⟨b, g0, g1, g2, g3, g4⟩ := h4;have ih := Gq (S0 := S0) (a0 := a0) (a1 := a1) (a2 := a2) (a3 := a3) (a4 := a4) ls r ⟨tD P (sV s.m), q⟩ s' (n + 8) k okr h (HX okd hm e1) (by omega) (by simp at hl ⊢; omega)
    rw [rvD_cons];simp! [Deed.d, cO, Rr, SL h2, Cg g2 (Bz s.m) g3 (Lq h3) g0 h0 (by omega : b + a <= 1000000)]
    rw [<- gD, show ((k + oG (Deed.cl :: r) : Nat) : Int) = ((k + oG r : Nat) : Int) from rfl, <- ih]
theorem V2 {S : aO} {x0 x1 x2 : Vl} {w : Int} {ds : List Deed} {z : Pen} {s' : Ps} (ls : LS S) (he : bU [x0, x1, x2] S = .ok (.dat (.tup [.int w, .lst (ds.map Deed.d)])) S) (ok : ∀ d ∈ ds, d.Ok) (h : lC ds ⟨[], z, []⟩ = some s') (hl : ds.length <= 900000) :
  xQ [x0, x1, x2, .dat z.d] S = .ok (.dat (.tup [.int w, s'.z.d, .int (s'.pens.length : Int)])) S := by
 rw [E_ran];unfold Ci;simp! [he, J5, UH ls ok h hl, aP];rfl
theorem SC {f : Pen -> Pen} {M : List Int} (h : MatOf f M) : gt M 0 = 1 := by
 have := h.2 zeroP 0 (by decide)
 rw [Kf] at this;exact this.symm
theorem MatOf.kept {f : Pen -> Pen} {M : List Int} (h : MatOf f M) : MatOf (fun y => G0 y (f y)) (sV M) := ⟨Bz M, fun z i hi => by
 by_cases e : i = 0 \/ 4 < i
 ·have e2 : rT (sV M) z i = rT M z i := by
   unfold rT;refine kQ fun j hj => ?_
   unfold sV;rw [EK hi hj, if_pos e]
  rw [e2, <- h.2 z i hi];rcases (by omega : i = 0 \/ i = 5 \/ i = 6) with rfl | rfl | rfl <;> rfl
 ·have e2 : rT (sV M) z i = vc z i := by
   unfold rT;rw [kQ (g := fun j => vc z j * delta j i) fun j hj => by
    unfold sV;rw [EK hi hj, if_neg e, SC h, Int.one_mul, DI];unfold delta
    by_cases e3 : i = j
    ·rw [if_pos e3, if_pos e3.symm]; rfl
    ·rw [if_neg e3, if_neg fun z => e3 z.symm, tK, tK]]
   rw [CF, if_pos hi]
  rw [e2];rcases (by omega : i = 1 \/ i = 2 \/ i = 3 \/ i = 4) with rfl | rfl | rfl | rfl <;> rfl⟩
inductive Chain : List (List Int) -> (Pen -> List Pen) -> Prop
 | nil : Chain [] (fun _ => [])
 | cons {P : List Int} {k : List (List Int)} {ts : Pen -> List Pen} {f : Pen -> Pen} : MatOf f P -> Chain k ts -> Chain (P :: k) (fun z => f ((ts z).headD z) :: ts z)
def Inv (s : Ms) (p : Pen -> Ps) : Prop := ∃ (ts : Pen -> List Pen) (f : Pen -> Pen), Chain s.stk ts /\ MatOf f s.m /\ ∀ z, (p z).stk = ts z /\ (p z).z = f ((ts z).headD z)
theorem Nd {d : Deed} {s s' : Ms} {p : Pen -> Ps} (ok : d.Ok) (I : Inv s p) (h : xZ d s = some s') : ∃ p' : Pen -> Ps, (∀ z, EZ d (p z) = some (p' z)) /\ Inv s' p' /\ ∀ z, (p' z).pens.length = (p z).pens.length + oG [d] := by
 obtain ⟨ts, f, C, hf, hz⟩ := I;cases d with
 | cmd c =>
  cases h;exact ⟨fun z => ⟨(p z).pens ++ [c.run (p z).z], c.run (p z).z, (p z).stk⟩, fun z => rfl, ⟨ts, fun z => c.run (f z), C, hf.comp (Cmd.matOf ok), fun z => ⟨(hz z).1, by dsimp only; rw [(hz z).2]⟩⟩, fun z => by simp [oG]⟩
 | op =>
  cases h;exact ⟨fun z => ⟨(p z).pens, (p z).z, (p z).z :: (p z).stk⟩, fun z => rfl, ⟨_, fun z => z, .cons hf C, MatOf.unit, fun z => ⟨by dsimp only; rw [(hz z).1, (hz z).2], by dsimp only; rw [(hz z).2]; rfl⟩⟩, fun z => rfl⟩
 | cl =>
  unfold xZ at h;dsimp only at h;obtain ⟨m, stk⟩ := s;cases C with
  | nil => cases h
  | @cons P k ts g hg C2 =>
   cases h;refine ⟨fun z => ⟨(p z).pens, G0 (g ((ts z).headD z)) (p z).z, ts z⟩, fun z => ?_, ⟨ts, fun y => G0 (g y) (f (g y)), C2, hg.comp hf.kept, fun z => ⟨rfl, by dsimp only; rw [(hz z).2]; rfl⟩⟩, fun z => rfl⟩
   dsimp only [EZ];rw [(hz z).1]
theorem Nh {d : Deed} {r : List Deed} : oG (d :: r) = oG [d] + oG r := by
 cases d <;> simp [oG] <;> omega
theorem EY : ∀ {ds : List Deed} {s s' : Ms} {p : Pen -> Ps}, (∀ d ∈ ds, d.Ok) -> Inv s p -> lY ds s = some s' -> ∃ p' : Pen -> Ps, (∀ z, lC ds (p z) = some (p' z)) /\ Inv s' p' /\ ∀ z, (p' z).pens.length = (p z).pens.length + oG ds
 | [], s, s', p, _, I, h => by cases h; exact ⟨p, fun z => rfl, I, fun z => rfl⟩
 | d :: r, s, s', p, ok, I, h => by
  unfold lY at h;cases e : xZ d s with
  | none => rw [e] at h; cases h
  | some s1 =>
   rw [e] at h;obtain ⟨p1, h1, I1, n1⟩ := Nd (ok d (aV ..)) I e;obtain ⟨p2, h2, I2, n2⟩ := EY (fun d hd => ok d (aM _ hd)) I1 h
   exact ⟨p2, fun z => by unfold lC; rw [h1 z]; exact h2 z, I2, fun z => by rw [n2, n1, Nh (d := d) (r := r)]; omega⟩
theorem Nc {ds : List Deed} {s' : Ms} (ok : ∀ d ∈ ds, d.Ok) (h : lY ds ⟨unitM, []⟩ = some s') (hs : s'.stk = []) : ∃ p' : Pen -> Ps, (∀ z, lC ds ⟨[], z, []⟩ = some (p' z)) /\ MatOf (fun z => (p' z).z) s'.m /\ ∀ z, (p' z).pens.length = oG ds := by
 obtain ⟨p', h1, ⟨ts, f, C, hf, hz⟩, n⟩ := EY (p := fun z => ⟨[], z, []⟩) ok ⟨_, fun z => z, .nil, MatOf.unit, fun z => ⟨rfl, rfl⟩⟩ h
 refine ⟨p', h1, ?_, fun z => by rw [n]; simp⟩
 rw [hs] at C;cases C;rw [show (fun z => (p' z).z) = f from funext fun z => (hz z).2]
 exact hf
theorem pw40 {S : aO} : JP (.dat (.int 10)) (.dat (.int 40)) S = .ok (.dat (.int 10000000000000000000000000000000000000000)) S := rfl
theorem dw10 (a : Int) : IntMulOk a 69621 := mulR (by decide) (by decide)
theorem Fp {S : aO} {p : Nat} {ks : List Int} (hP : PoolAt S p ks) : ∃ (d : Int) (ks' : List Int), iU [.cel p] S = .ok (.dat (.int d)) (S.set p (PL ks')) /\ Bn 137 d /\ ks'.length = ks.length := by
 obtain ⟨d1, k1, e1, h0, h1, l1⟩ := gA hP (k := 3) (by decide) (by decide)
 have P1 := hP.next l1;rw [L9];unfold vW
 by_cases hd : d1 = 0
 ·subst hd
  obtain ⟨d2, k2, e2, h2, h3, l2⟩ := gA P1 (k := 9) (by decide) (by decide)
  simp only [gI] at e2;simp! [e1, e2];exact ⟨d2 - 4, k2, rfl, by unfold Bn; omega, by omega⟩
 ·obtain ⟨u, hu⟩ : ∃ u, k1[0]? = some u := ⟨k1[0]'(by have := hP.2; omega), by simp [show 0 < k1.length by have := hP.2; omega]⟩
  have hl2 : 2 <= k1.length := P1.2;have hp1 := Bi (d := .lst ((k1.set 0 (u + 1)).map D.int)) P1.1;rw [gI] at hp1;have e2 : (sU (fun x y => x + y) (aC 0) (mC (.int 0)) (mC (.int 1))) [some (.cel p), some (.dat (.int d1)), none, none] (S.set p (PL k1)) = .next [some (.cel p), some (.dat (.int d1)), none, none] (S.set p (PL (k1.set 0 (u + 1)))) := by
   rw [Ej rfl rfl rfl P1.1 rfl hu, gI]
  have hn : (1 : Int) + (u + 1) % ((k1.length : Int) - 1) = ((1 + ((u + 1) % ((k1.length : Int) - 1)).toNat : Nat) : Int) := by
   have := iD (u + 1) (show ((k1.length : Int) - 1) ≠ 0 by omega)
   omega
  have hlt : 1 + ((u + 1) % ((k1.length : Int) - 1)).toNat < k1.length := by
   have := jZ (u + 1) (show 0 < ((k1.length : Int) - 1) by omega)
   have := iD (u + 1) (show ((k1.length : Int) - 1) ≠ 0 by omega)
   omega
  generalize hj : 1 + ((u + 1) % ((k1.length : Int) - 1)).toNat = j at hn hlt;obtain ⟨c, hc⟩ : ∃ c, (k1.set 0 (u + 1))[j]? = some c := ⟨(k1.set 0 (u + 1))[j]'(by simpa using hlt), by simp [hlt]⟩
  have h00 : (k1.set 0 (u + 1))[0]? = some (u + 1) := by
   rw [aT, if_pos rfl, if_pos (by omega)]
  have lk1 : (k1.set 0 (u + 1)).length = k1.length := by simp
  have P2 : PoolAt (S.set p (PL (k1.set 0 (u + 1)))) p (k1.set 0 (u + 1)) := ⟨hp1, by rw [lk1]; exact hl2⟩
  obtain ⟨d3, k3, e3, h4, h5, l3⟩ := gA P2 (k := 2) (by decide) (by decide)
  rw [gI] at e3;generalize hk : k1.set 0 (u + 1) = kk at *;simp! [e1, decide_eq_false hd, e2, sX (k := 0) (n := 0) hp1 rfl h00, rW hp1, aP, lk1, rV (show (0 : Int) < (k1.length : Int) - 1 by omega), hn, sX hp1 rfl hc, oE (dw2 _), oE (dw10 _), pw40, rV (show (0 : Int) < 10000000000000000000000000000000000000000 by decide), e3]
  have b0 := iD (c * 48271 + (u + 1) * 69621) (show (10000000000000000000000000000000000000000 : Int) ≠ 0 by decide)
  have b1 := jZ (c * 48271 + (u + 1) * 69621) (show (0 : Int) < 10000000000000000000000000000000000000000 by decide)
  generalize (c * 48271 + (u + 1) * 69621) % 10000000000000000000000000000000000000000 = v at b0 b1;rcases (by omega : d3 = 0 \/ d3 = 1) with rfl | rfl
  ·simp! [if_true]
   exact ⟨v, k3, rfl, by unfold Bn; omega, by omega⟩
  ·simp! [if_true]
   exact ⟨5 - v, k3, rfl, by unfold Bn; omega, by omega⟩
theorem Fj {S : aO} {p : Nat} {ks : List Int} (h : PoolAt S p ks) : S.set p (PL ks) = S := by
 obtain ⟨h1, _⟩ := h;obtain ⟨hp, e⟩ := aH.mp h1;rw [show (PL ks : Cell) = S[p] from e.symm, List.set_getElem_self]
theorem Ln {α : Type} {f : α -> D} {md : FD} {P : α -> Prop} {p : Nat} {a1 : Option Vl} (hmd : ∀ {S : aO} {ks : List Int}, PoolAt S p ks -> ∃ (x : α) (ks' : List Int), md [.cel p] S = .ok (.dat (f x)) (S.set p (PL ks')) /\ P x /\ ks'.length = ks.length) : ∀ (ds : List D) (S : aO) (ks : List Int), PoolAt S p ks ->
  ∃ (xs : List α) (ks' : List Int), iJ (.nm 2) gO (bE md (aB (aC 0) aL)) [some (.cel p), a1, none] ds S = .ok (xs.map f) (S.set p (PL ks')) /\ xs.length = ds.length /\ (∀ x ∈ xs, P x) /\ ks'.length = ks.length
 | [], S, ks, h => ⟨[], ks, by rw [Fj h]; rfl, rfl, (fun x hx => by cases hx), rfl⟩
 | d :: r, S, ks, h => by
  obtain ⟨x, k1, e1, hx, l1⟩ := hmd h;obtain ⟨xs, k2, e2, hl, hxs, l2⟩ := Ln (a1 := a1) hmd r _ _ (h.next l1);rw [gI] at e2;refine ⟨x :: xs, k2, ?_, by simp [hl], fun y hy => ?_, by omega⟩
  ·rw [iJ]
   simp only [pR, Lz, if_true];simp! [e1];rw [e2];rfl
  ·rcases aY.mp hy with rfl | hy
   ·exact hx
   ·exact hxs y hy
theorem V5 {S : aO} {p : Nat} {ks : List Int} (hP : PoolAt S p ks) : ∃ (z : Pen) (ks' : List Int), D0 [.cel p] S = .ok (.dat z.d) (S.set p (PL ks')) /\ (∀ x ∈ z.ns, Bn 137 x) /\ ks'.length = ks.length := by
 obtain ⟨ns, k1, e1, hl, hb, l1⟩ := Ln (f := D.int) (md := iU) (P := Bn 137) (a1 := none) Fp (iC 0 6) S ks hP;rw [U1];unfold DD;simp! [IV];have e2 : zK false (.nm 2) gO (bE iU (aB (aC 0) aL)) [some (.cel p), none, none] [2] (iC 0 6) S = .ok (.dat (.lst (ns.map D.int))) (S.set p (PL k1)) := by
  unfold zK;rw [if_pos (sz (by decide)), show wipeE [some (Vl.cel p), none, none] [2] = [some (Vl.cel p), none, none] from rfl, e1]
  rfl
 match ns, hl, hb, e2 with
 | [a, b, c, d, e, f], _, hb, e2 =>
  simp! [e2, aN, bL, C1, FB, SO, NN (xs := [.int a, .int b, .int c, .int d, .int e, .int f]) (t := 3) (n := 3) rfl rfl, NN (xs := [.int a, .int b, .int c, .int d, .int e, .int f]) (t := 4) (n := 4) rfl rfl, NN (xs := [.int a, .int b, .int c, .int d, .int e, .int f]) (t := 5) (n := 5) rfl rfl];exact ⟨⟨a, b, c, d, e, f⟩, k1, rfl, hb, l1⟩
mutual
def D.Sm : D -> Prop
 | .int i => -9 <= i /\ i <= 9
 | .str x => (reprText x).length <= 20
 | .lst xs => D.Sms xs
 | .tup xs => D.Sms xs
 | .ins _ _ _ => False
 | .dct => False
 | .opq _ => False
 | _ => True
def D.Sms : List D -> Prop
 | [] => True
 | x :: r => D.Sm x /\ D.Sms r
end
mutual
def D.tx : D -> Nat
 | .lst xs => D.txs xs + 3
 | .tup xs => D.txs xs + 3
 | _ => 20
def D.txs : List D -> Nat
 | [] => 0
 | x :: r => D.tx x + 2 + D.txs r
end
theorem Pk {i : Int} (h : -9 <= i /\ i <= 9) : ((toString i : String) : Str).length <= 20 /\ i.natAbs.log2 < 1920 := by
 obtain ⟨h1, h2⟩ := h;rcases (by omega : i = -9 \/ i = -8 \/ i = -7 \/ i = -6 \/ i = -5 \/ i = -4 \/ i = -3 \/ i = -2 \/ i = -1 \/ i = 0 \/ i = 1 \/ i = 2 \/ i = 3 \/ i = 4 \/ i = 5 \/ i = 6 \/ i = 7 \/ i = 8 \/ i = 9) with rfl | rfl | rfl | rfl | rfl | rfl | rfl | rfl | rfl | rfl | rfl | rfl | rfl | rfl | rfl | rfl | rfl | rfl | rfl <;> decide +kernel
mutual
theorem FV : ∀ (d : D) (p : PyData), d.Sm -> d.py = some p -> p.shown.length <= d.tx /\ p.showable = true /\ p.hasDict = false
 | .non, p, _, e => by cases e; exact ⟨by decide +kernel, rfl, rfl⟩
 | .bl b, p, _, e => by cases e; cases b <;> exact ⟨by decide +kernel, rfl, rfl⟩
 | .int i, p, h, e => by
  cases e;exact ⟨(Pk h).1, decide_eq_true (Pk h).2, rfl⟩
 | .str x, p, h, e => by cases e; exact ⟨h, rfl, rfl⟩
 | .lst xs, p, h, e => by
  simp only [D.py] at e;cases q : D.pys xs with
  | none => rw [q] at e; cases e
  | some ps =>
   rw [q] at e;cases e;obtain ⟨h1, h2, h3⟩ := Bh xs ps h q;refine ⟨?_, h2, h3⟩
   have := listText_len_le (PyData.shownAll ps)
   show (listText (PyData.shownAll ps)).length <= D.txs xs + 3
   omega
 | .tup xs, p, h, e => by
  simp only [D.py] at e;cases q : D.pys xs with
  | none => rw [q] at e; cases e
  | some ps =>
   rw [q] at e;cases e;obtain ⟨h1, h2, h3⟩ := Bh xs ps h q;refine ⟨?_, h2, h3⟩
   have := tupleText_len_le (PyData.shownAll ps)
   show (tupleText (PyData.shownAll ps)).length <= D.txs xs + 3
   omega
 | .ins _ _ _, p, h, e => h.elim
 | .dct, p, h, e => h.elim
 | .opq _, p, h, e => h.elim
theorem Bh : ∀ (xs : List D) (ps : List PyData), D.Sms xs -> D.pys xs = some ps -> ((PyData.shownAll ps).map (·.length)).sum + 2 * (PyData.shownAll ps).length <= D.txs xs /\ PyData.showableAll ps = true /\ PyData.hasDictAll ps = false
 | [], ps, _, e => by cases e; exact ⟨cE _, rfl, rfl⟩
 | x :: r, ps, h, e => by
  simp only [D.pys] at e;cases q1 : D.py x with
  | none => rw [q1] at e; cases e
  | some p =>
   cases q2 : D.pys r with
   | none => rw [q1, q2] at e; cases e
   | some ps' =>
    rw [q1, q2] at e;cases e;obtain ⟨a1, a2, a3⟩ := FV x p h.1 q1;obtain ⟨b1, b2, b3⟩ := Bh r ps' h.2 q2;refine ⟨?_, ?_, ?_⟩
    ·simp only [PyData.shownAll, aN, List.sum_cons, aK, D.txs]
     omega
    ·simp only [PyData.showableAll, a2, b2, BZ]
    ·simp only [PyData.hasDictAll, a3, b3, Jv]
end
mutual
theorem st_sm {many : Int} (hm : many <= 9) : ∀ (s : Stt) (k : Nat), s.Ok many k -> s.d.Sm /\ s.d.tx + 2 <= 150 * s.size
 | .cmd c, k, h => by
  cases c with
  | go z => exact ⟨⟨by show (reprText _).length <= 20; decide +kernel, h, trivial⟩, by simp [Stt.d, Cmd.d, D.tx, D.txs, Stt.size]⟩
  | turn z => exact ⟨⟨by show (reprText _).length <= 20; decide +kernel, ⟨by have := h.1; omega, by have := h.2; omega⟩, trivial⟩, by simp [Stt.d, Cmd.d, D.tx, D.txs, Stt.size]⟩
  | scale z => exact ⟨⟨by show (reprText _).length <= 20; decide +kernel, ⟨by have := h.1; omega, by have := h.2; omega⟩, trivial⟩, by simp [Stt.d, Cmd.d, D.tx, D.txs, Stt.size]⟩
  | aim a b => exact ⟨⟨by show (reprText _).length <= 20; decide +kernel, h.1, h.2, trivial⟩, by simp [Stt.d, Cmd.d, D.tx, D.txs, Stt.size]⟩
  | place a b => exact ⟨⟨by show (reprText _).length <= 20; decide +kernel, h.1, h.2, trivial⟩, by simp [Stt.d, Cmd.d, D.tx, D.txs, Stt.size]⟩
  | mirror => exact ⟨⟨by show (reprText _).length <= 20; decide +kernel, trivial⟩, by simp [Stt.d, Cmd.d, D.tx, D.txs, Stt.size]⟩
  | mark => exact ⟨⟨by show (reprText _).length <= 20; decide +kernel, trivial⟩, by simp [Stt.d, Cmd.d, D.tx, D.txs, Stt.size]⟩
  | ret => exact ⟨⟨by show (reprText _).length <= 20; decide +kernel, trivial⟩, by simp [Stt.d, Cmd.d, D.tx, D.txs, Stt.size]⟩
  | exch => exact ⟨⟨by show (reprText _).length <= 20; decide +kernel, trivial⟩, by simp [Stt.d, Cmd.d, D.tx, D.txs, Stt.size]⟩
 | .fin w, k, h => ⟨⟨by show (reprText _).length <= 20; decide +kernel, ⟨by have := h.1; omega, by have := h.2; omega⟩, trivial⟩, by simp [Stt.d, D.tx, D.txs, Stt.size]⟩
 | .bad, k, h => ⟨⟨by show (reprText _).length <= 20; decide +kernel, trivial⟩, by simp [Stt.d, D.tx, D.txs, Stt.size]⟩
 | .odd x, k, h => h.elim
 | .keep b, k, h => by
  obtain ⟨h1, h2⟩ := wZ hm b (k - 1) h.2;exact ⟨⟨by show (reprText _).length <= 20; decide +kernel, h1, trivial⟩, by simp [Stt.d, D.tx, D.txs, Stt.size]; omega⟩
 | .again b, k, h => by
  obtain ⟨h1, h2⟩ := wZ hm b (k - 1) h.2;exact ⟨⟨by show (reprText _).length <= 20; decide +kernel, h1, trivial⟩, by simp [Stt.d, D.tx, D.txs, Stt.size]; omega⟩
 | .either a b, k, h => by
  obtain ⟨h1, h2⟩ := wZ hm a (k - 1) h.2.1;obtain ⟨h3, h4⟩ := wZ hm b (k - 1) h.2.2;exact ⟨⟨by show (reprText _).length <= 20; decide +kernel, h1, h3, trivial⟩, by simp [Stt.d, D.tx, D.txs, Stt.size]; omega⟩
 | .call g f a b, k, h => by
  obtain ⟨h1, h2⟩ := wZ hm a (k - 1) h.2.1;obtain ⟨h3, h4⟩ := wZ hm b (k - 1) h.2.2;exact ⟨⟨by show (reprText _).length <= 20; decide +kernel, ⟨by have := h.1.2.1; omega, by have := h.1.2.2; omega⟩, trivial, ⟨h1, h3, trivial⟩, trivial⟩, by simp [Stt.d, D.tx, D.txs, Stt.size]; omega⟩
theorem wZ {many : Int} (hm : many <= 9) : ∀ (l : List Stt) (k : Nat), OkL many l k -> D.Sms (bR l) /\ D.txs (bR l) <= 150 * cQ l
 | [], k, h => ⟨trivial, by simp [bR, D.txs]⟩
 | s :: r, k, h => by
  obtain ⟨h1, h2⟩ := st_sm hm s k h.1.1;obtain ⟨h3, h4⟩ := wZ hm r k h.2;exact ⟨⟨h1, h3⟩, by simp only [bR, D.txs, cQ]; omega⟩
end
theorem Mj {many : Int} {l : List Stt} {k : Nat} {S : aO} (hm : many <= 9) (h : OkL many l k) (hk : k <= 20) (hl : l.length <= 1000) (hs : cQ l <= 1000) : ∃ z, FC (.dat (.lst (bR l))) S = .ok (.dat (.str z)) S := by
 obtain ⟨h1, h2⟩ := kF l k h;obtain ⟨p, e1, e2, e3⟩ := UG (.lst (bR l)) ⟨by rw [fE]; exact hl, h1⟩
 obtain ⟨h3, h4⟩ := wZ hm l k h;obtain ⟨a1, a2, a3⟩ := FV (.lst (bR l)) p h3 e1;have hd : isDisplay p = true := by
  simp only [D.py] at e1;cases q : D.pys (bR l) with
  | none => rw [q] at e1; cases e1
  | some ps => rw [q] at e1; cases e1; rfl
 refine ⟨p.shown, ?_⟩
 unfold FC;rw [show wN S (.dat (.lst (bR l))) = some p from e1]
 dsimp only;rw [if_pos ⟨a2, a3, hd, by rw [e3]; simp only [D.ht]; omega, bY a1 (by simp only [D.tx]; exact bY (show D.txs (bR l) + 3 <= 150003 by omega) (by decide))⟩]
mutual
/-- all lists within have eight statements at most -/
def Stt.Lb : Stt -> Prop
 | .keep b => b.length <= 8 /\ R5 b
 | .again b => b.length <= 8 /\ R5 b
 | .either a b => (a.length <= 8 /\ R5 a) /\ b.length <= 8 /\ R5 b
 | .call _ _ a b => (a.length <= 8 /\ R5 a) /\ b.length <= 8 /\ R5 b
 | _ => True
def R5 : List Stt -> Prop
 | [] => True
 | s :: r => s.Lb /\ R5 r
end
mutual
theorem lb_S : ∀ {s : Stt}, s.size <= 9 -> s.Lb
 | .cmd c, h => trivial
 | .fin w, h => trivial
 | .keep b, h => by
  have h : cQ b + 1 <= 9 := h;exact ⟨bY (gR b) (by omega), KO (by omega)⟩
 | .again b, h => by
  have h : cQ b + 1 <= 9 := h;exact ⟨bY (gR b) (by omega), KO (by omega)⟩
 | .either a b, h => by
  have h : cQ a + cQ b + 1 <= 9 := h;exact ⟨⟨bY (gR a) (by omega), KO (by omega)⟩, bY (gR b) (by omega), KO (by omega)⟩
 | .call g f a b, h => by
  have h : cQ a + cQ b + 1 <= 9 := h;exact ⟨⟨bY (gR a) (by omega), KO (by omega)⟩, bY (gR b) (by omega), KO (by omega)⟩
 | .bad, h => trivial
 | .odd _, h => trivial
theorem KO : ∀ {l : List Stt}, cQ l <= 8 -> R5 l
 | [], h => trivial
 | s :: r, h => by
  have h : s.size + cQ r <= 8 := h;exact ⟨lb_S (by omega), KO (by omega)⟩
end
mutual
theorem Stt.Gd.okb {many : Int} : ∀ {s : Stt} {n : Nat}, s.Gd many n -> s.Lb -> s.Ok many n
 | .cmd c, n, h, _ => h
 | .fin c, n, h, _ => h
 | .keep b, n, h, l => ⟨h.1, GdL.okb h.2 l.2 (bY l.1 (by decide))⟩
 | .again b, n, h, l => ⟨h.1, GdL.okb h.2 l.2 (bY l.1 (by decide))⟩
 | .either a b, n, h, l => ⟨h.1, GdL.okb h.2.1 l.1.2 (bY l.1.1 (by decide)), GdL.okb h.2.2 l.2.2 (bY l.2.1 (by decide))⟩
 | .call g f a b, n, h, l => ⟨h.1, GdL.okb h.2.1 l.1.2 (bY l.1.1 (by decide)), GdL.okb h.2.2 l.2.2 (bY l.2.1 (by decide))⟩
 | .bad, n, h, _ => h.elim
 | .odd _, n, h, _ => h.elim
theorem GdL.okb {many : Int} : ∀ {l : List Stt} {n : Nat}, GdL many l n -> R5 l -> l.length <= 10 -> OkL many l n
 | [], n, _, _, _ => trivial
 | s :: r, n, h, l8, hl => by
  simp only [aK] at hl;exact ⟨⟨Stt.Gd.okb h.1 l8.1, by omega⟩, GdL.okb h.2 l8.2 (by omega)⟩
end
theorem PN : ∀ {l : List Stt}, R5 l -> ∀ s ∈ l, s.Lb
 | x :: r, h, s, hs => by
  rcases aY.mp hs with rfl | hs
  ·exact h.1
  ·exact PN h.2 s hs
def SG (many : Int) (s : Stt) : Prop := ∃ k, k <= 3 /\ s.Gd many k /\ s.size <= 12 /\ s.Lb
def BG (many : Int) (l : List Stt) : Prop := l.length <= 8 /\ ∀ s ∈ l, SG many s
theorem Kj {many : Int} : ∀ {l : List Stt} {k : Nat}, GdL many l k -> ∀ s ∈ l, s.Gd many k
 | x :: r, k, h, s, hs => by
  rcases aY.mp hs with rfl | hs
  ·exact h.1
  ·exact Kj h.2 s hs
theorem BG.of {many : Int} {l : List Stt} {k : Nat} (h : GdL many l k) (hk : k <= 3) (hl : l.length <= 8) (hs : cQ l <= 12) (hb : R5 l) : BG many l := ⟨hl, fun s hm => ⟨k, hk, Kj h s hm, by have := DU hm; omega, PN hb s hm⟩⟩
theorem SG.keep {many : Int} {b : List Stt} (h : SG many (.keep b)) : BG many b := by
 obtain ⟨k, hk, h1, h2, h3⟩ := h;exact BG.of h1.2 (by omega) h3.1 (by simp [Stt.size] at h2; omega) h3.2
theorem SG.again {many : Int} {b : List Stt} (h : SG many (.again b)) : BG many b := by
 obtain ⟨k, hk, h1, h2, h3⟩ := h;exact BG.of h1.2 (by omega) h3.1 (by simp [Stt.size] at h2; omega) h3.2
theorem SG.either {many : Int} {a b : List Stt} (h : SG many (.either a b)) : BG many a /\ BG many b := by
 obtain ⟨k, hk, h1, h2, h3⟩ := h;simp [Stt.size] at h2;exact ⟨BG.of h1.2.1 (by omega) h3.1.1 (by omega) h3.1.2, BG.of h1.2.2 (by omega) h3.2.1 (by omega) h3.2.2⟩
theorem SG.call {many g : Int} {f : Bool} {a b : List Stt} (h : SG many (.call g f a b)) : (0 <= g /\ g < many) /\ BG many a /\ BG many b := by
 obtain ⟨k, hk, h1, h2, h3⟩ := h;simp [Stt.size] at h2;exact ⟨h1.1.2, BG.of h1.2.1 (by omega) h3.1.1 (by omega) h3.1.2, BG.of h1.2.2 (by omega) h3.2.1 (by omega) h3.2.2⟩
theorem SG.cmd {many : Int} {c : Cmd} (h : SG many (.cmd c)) : c.Ok := by
 obtain ⟨k, hk, h1, h2⟩ := h;exact h1
theorem SG.fin {many w : Int} (h : SG many (.fin w)) : w = 0 \/ w = 1 := by
 obtain ⟨k, hk, h1, h2⟩ := h;have := h1.1; have := h1.2;omega
theorem SG.noodd {many : Int} {s : Stt} (h : SG many s) : s.isOdd = false := by
 obtain ⟨k, hk, h1, h2⟩ := h;cases s with
 | odd x => exact h1.elim
 | _ => rfl
theorem str_ok {many : Int} {a b : List Stt} {S : aO} (hm : many <= 9) (h : SG many (.either a b)) : ∃ z, FC (.dat (.lst (bR a))) S = .ok (.dat (.str z)) S := by
 obtain ⟨k, hk, h1, h2, h3⟩ := h;simp [Stt.size] at h2;exact Mj hm (GdL.okb h1.2.1 h3.1.2 (bY h3.1.1 (by decide))) (by omega) (bY (gR a) (by omega)) (by omega)
inductive LT where
 | st (s : Stt) | shut | out (c : gN) (w : Int)
def LT.d : LT -> D
 | .st s => s.d
 | .shut => .tup [.str "shut"]
 | .out c w => .tup [.str "out", Ue c, .int w]
def LT.word : LT -> Str
 | .st s => s.word
 | .shut => "shut"
 | .out _ _ => "out"
def LT.Ok (many : Int) : LT -> Prop
 | .st s => SG many s
 | .shut => True
 | .out c w => (0 <= c.1 /\ c.1 < many) /\ BG many c.2.2.1 /\ BG many c.2.2.2 /\ (w = 0 \/ w = 1)
def iM (l : List Stt) : List LT := l.map LT.st
structure Lm where
 bits : List Int
 extra : Nat
 taken : Nat
 way : Int
 deeds : List Deed
 opens : List (Nat × Nat)
 todo : List LT
def Lf (o : Nat × Nat) : D := .tup [.int (o.1 : Int), .int (o.2 : Int)]
def lmF (n : Nat) (bs : List (List Stt)) (m : Lm) : List (Str × Vl) := [("bodies", .dat (.lst (bls bs))), ("bits", .cel n), ("extra", .dat (.int (m.extra : Int))), ("taken", .dat (.int (m.taken : Int))), ("way", .dat (.int m.way)), ("deeds", .cel (n + 1)), ("opens", .cel (n + 2)), ("todo", .dat (.lst (m.todo.map LT.d)))]
def eP (S0 : aO) (bs : List (List Stt)) (m : Lm) : aO := S0 ++ [.lst (m.bits.map D.int), .lst (m.deeds.map Deed.l), .lst (uT Lf m.opens), .dct (lmF S0.length bs m)]
section
variable {S0 : aO} {bs : List (List Stt)} {m : Lm}
theorem oQ : (eP S0 bs m)[S0.length]? = some (.lst (m.bits.map D.int)) := by simp [eP]
theorem rP : (eP S0 bs m)[S0.length + 1]? = some (.lst (m.deeds.map Deed.l)) := by
 rw [eP, bC (by omega), show S0.length + 1 - S0.length = 1 by omega]; rfl
theorem Ak : (eP S0 bs m)[S0.length + 2]? = some (.lst (uT Lf m.opens)) := by
 rw [eP, bC (by omega), show S0.length + 2 - S0.length = 2 by omega]; rfl
theorem lB : (eP S0 bs m)[S0.length + 3]? = some (.dct (lmF S0.length bs m)) := by
 rw [eP, bC (by omega), show S0.length + 3 - S0.length = 3 by omega]; rfl
theorem SH {xs : List Int} : (eP S0 bs m).set S0.length (.lst (xs.map D.int)) = eP S0 bs { m with bits := xs } := by simp [eP, lmF]
theorem Lk {xs : List Deed} : (eP S0 bs m).set (S0.length + 1) (.lst (xs.map Deed.l)) = eP S0 bs { m with deeds := xs } := by
 rw [eP, dN _ _ (by omega), show S0.length + 1 - S0.length = 1 by omega]; rfl
theorem Lj {xs : List (Nat × Nat)} : (eP S0 bs m).set (S0.length + 2) (.lst (uT Lf xs)) = eP S0 bs { m with opens := xs } := by
 rw [eP, dN _ _ (by omega), show S0.length + 2 - S0.length = 2 by omega]; rfl
theorem Aj {fs : List (Str × Vl)} : (eP S0 bs m).set (S0.length + 3) (.dct fs) = S0 ++ [.lst (m.bits.map D.int), .lst (m.deeds.map Deed.l), .lst (uT Lf m.opens), .dct fs] := by
 rw [eP, dN _ _ (by omega), show S0.length + 3 - S0.length = 3 by omega]; rfl
abbrev lv (S0 : aO) : Vl := .cel (S0.length + 3)
theorem NK : dJ (lv S0) (.dat (.str "bodies")) (eP S0 bs m) = .ok (.dat (.lst (bls bs))) (eP S0 bs m) := nJ lB rfl
theorem An : dJ (lv S0) (.dat (.str "bits")) (eP S0 bs m) = .ok (.cel S0.length) (eP S0 bs m) := nJ lB rfl
theorem Ir : dJ (lv S0) (.dat (.str "extra")) (eP S0 bs m) = .ok (.dat (.int (m.extra : Int))) (eP S0 bs m) := nJ lB rfl
theorem nE : dJ (lv S0) (.dat (.str "taken")) (eP S0 bs m) = .ok (.dat (.int (m.taken : Int))) (eP S0 bs m) := nJ lB rfl
theorem VP : dJ (lv S0) (.dat (.str "way")) (eP S0 bs m) = .ok (.dat (.int m.way)) (eP S0 bs m) := nJ lB rfl
theorem pK : dJ (lv S0) (.dat (.str "deeds")) (eP S0 bs m) = .ok (.cel (S0.length + 1)) (eP S0 bs m) := nJ lB rfl
theorem EB : dJ (lv S0) (.dat (.str "opens")) (eP S0 bs m) = .ok (.cel (S0.length + 2)) (eP S0 bs m) := nJ lB rfl
theorem vJ : dJ (lv S0) (.dat (.str "todo")) (eP S0 bs m) = .ok (.dat (.lst (m.todo.map LT.d))) (eP S0 bs m) := nJ lB rfl
theorem Ip : ((lmF S0.length bs m).map Prod.fst).Nodup := by
 show (["bodies", "bits", "extra", "taken", "way", "deeds", "opens", "todo"] : List Str).Nodup
 decide +kernel
theorem Ah {ρ : Ev} {ts : List LT} : xU ρ (.dat (.lst (ts.map LT.d))) (lv S0) (.dat (.str "todo")) (eP S0 bs m) = .next ρ (eP S0 bs { m with todo := ts }) := by
 unfold xU;rw [C5 lB (by show 8 < 1000; decide) Ip, Aj]
 rfl
theorem VM {ρ : Ev} {w : Int} : xU ρ (.dat (.int w)) (lv S0) (.dat (.str "way")) (eP S0 bs m) = .next ρ (eP S0 bs { m with way := w }) := by
 unfold xU;rw [C5 lB (by show 8 < 1000; decide) Ip, Aj]
 rfl
theorem Im {ρ : Ev} {v : FE} (hv : v ρ (eP S0 bs m) = .ok (.dat (.int 1)) (eP S0 bs m)) : xV JR v ρ (lv S0) (.dat (.str "taken")) (eP S0 bs m) = .next ρ (eP S0 bs { m with taken := m.taken + 1 }) := by
 unfold xV;rw [nE];dsimp only;rw [hv, nH];unfold HD JR;dsimp only;rw [C5 lB (by show 8 < 1000; decide) Ip, Aj]
 rfl
theorem P8 {ρ : Ev} {v : FE} {k : Nat} (he : m.extra = k + 1) (hv : v ρ (eP S0 bs m) = .ok (.dat (.int 1)) (eP S0 bs m)) : xV JO v ρ (lv S0) (.dat (.str "extra")) (eP S0 bs m) = .next ρ (eP S0 bs { m with extra := k }) := by
 unfold xV;rw [Ir];dsimp only;rw [hv, nH];unfold HD JO;dsimp only;rw [C5 lB (by show 8 < 1000; decide) Ip, Aj, he, show (((k + 1 : Nat) : Int) - 1) = (k : Int) by omega]
 rfl
theorem EA {ρ : Ev} {v : FE} {ds : List Deed} (hl : m.deeds.length + ds.length <= 1000000) (hv : v ρ (eP S0 bs m) = .ok (.dat (.lst (ds.map Deed.l))) (eP S0 bs m)) : xV Kv v ρ (lv S0) (.dat (.str "deeds")) (eP S0 bs m) = .next ρ (eP S0 bs { m with deeds := m.deeds ++ ds }) := by
 unfold xV;rw [pK];dsimp only;rw [hv, nH];unfold HD Kv;dsimp only;rw [rP];dsimp only;rw [aP, aP, if_pos (bY hl (by decide))]
 dsimp only;rw [<- cU, Lk, C5 lB (by show 8 < 1000; decide) Ip, Aj]
 rfl
theorem EF {ρ : Ev} {b : FE} {t : Deed} (F : m.deeds.length < 1000000) (hb : b ρ (eP S0 bs m) = .ok (.dat t.l) (eP S0 bs m)) : vL b ρ (.cel (S0.length + 1)) (eP S0 bs m) = .ok (.dat .non) (eP S0 bs { m with deeds := m.deeds ++ [t] }) := by
 rw [lW rP, hb, dX, nI rP (by rw [aP]; exact Hl (by omega)), show m.deeds.map Deed.l ++ [t.l] = (m.deeds ++ [t]).map Deed.l by simp, Lk]
theorem SI {ρ : Ev} {b : FE} {t : Int} (F : m.bits.length < 1000000) (hb : b ρ (eP S0 bs m) = .ok (.dat (.int t)) (eP S0 bs m)) : vL b ρ (.cel S0.length) (eP S0 bs m) = .ok (.dat .non) (eP S0 bs { m with bits := m.bits ++ [t] }) := by
 rw [lW oQ, hb, dX, nI oQ (by rw [aP]; exact Hl (by omega)), show m.bits.map D.int ++ [.int t] = (m.bits ++ [t]).map D.int by simp, SH]
theorem PQ {ρ : Ev} {b : FE} {t : Nat × Nat} (F : m.opens.length < 1000000) (hb : b ρ (eP S0 bs m) = .ok (.dat (Lf t)) (eP S0 bs m)) : vL b ρ (.cel (S0.length + 2)) (eP S0 bs m) = .ok (.dat .non) (eP S0 bs { m with opens := t :: m.opens }) := by
 rw [lW Ak, hb, dX, nI Ak (by rw [oK]; exact Hl (by omega)), <- rvD_cons, Lj]
theorem PB {t : Nat × Nat} {r : List (Nat × Nat)} (h : m.opens = t :: r) : sD (.cel (S0.length + 2)) (eP S0 bs m) = .ok (.dat (Lf t)) (eP S0 bs { m with opens := r }) := by
 have e := Ak (S0 := S0) (bs := bs) (m := m);rw [h, rvD_cons] at e;simp only [sD, e];rw [show (uT Lf r ++ [Lf t])[(uT Lf r ++ [Lf t]).length - 1]? = some (Lf t) by simp]
 dsimp only;rw [lF, Lj]
end
def strOf (l : List Stt) : Str := match D.py (.lst (bR l)) with
 | some p => p.shown
 | none => ""
theorem Us {many : Int} {a b : List Stt} {S : aO} (hm : many <= 9) (h : SG many (.either a b)) : FC (.dat (.lst (bR a))) S = .ok (.dat (.str (strOf a))) S := by
 obtain ⟨z, e⟩ := str_ok (S := S) hm h;have e' := e;unfold FC at e';rw [show wN S (.dat (.lst (bR a))) = D.py (.lst (bR a)) from rfl] at e'
 unfold strOf;split at e'
 ·rename_i p q
  try rw [q]
  try dsimp only
  split at e'
  ·cases e'; exact e
  ·cases e'
 ·cases e'
def Qa : Stt -> Int
 | .either a _ => if (!(Builtin.Str.occurrences (strOf a) "call" 0 (strOf a).length 1).isEmpty) = true then 1 else 0
 | _ => 0
theorem Qb (s : Stt) : Qa s = 0 \/ Qa s = 1 := by
 unfold Qa;split
 ·split
  ·exact .inr rfl
  ·exact .inl rfl
 ·exact .inl rfl
def tV (s : Stt) (m : Lm) : Option (Int × Lm) := if m.taken = m.bits.length then (match m.extra with
  | 0 => none
  | k + 1 => some (Qa s, { m with extra := k, bits := m.bits ++ [Qa s], taken := m.taken + 1 }))
 else match m.bits[m.taken]? with
  | some b => some (b, { m with taken := m.taken + 1 })
  | none => none
def asks : Stt -> Bool
 | .either _ _ => true
 | .again _ => true
 | _ => false
theorem WZ {S0 : aO} {bs : List (List Stt)} {m : Lm} {s : Stt} {many : Int} (hm : many <= 9) (hs : SG many s) (ha : asks s = true) (ht : m.taken <= m.bits.length) (hl : m.bits.length < 100000) :
  D6 [lv S0, .dat s.d] (eP S0 bs m) = match tV s m with
   | none => .ok (.dat (.int 2)) (eP S0 bs m)
   | some (b, m') => .ok (.dat (.int b)) (eP S0 bs m') := by
 rw [U3];unfold DF;unfold tV
 by_cases h1 : m.taken = m.bits.length
 ·rw [if_pos h1]
  simp! [uU, An, nE, rW oQ, aP, decide_eq_true (show (m.taken : Int) = (m.bits.length : Int) by omega), Ir]
  cases h2 : m.extra with
  | zero =>
   simp! [uU];rfl
  | succ k =>
   dsimp only;have i0 : ∀ {S : aO}, cH (.dat s.d) (.dat (.int 0)) S = .ok (.dat (.str s.word)) S := HF hs.noodd;have hap : ∀ {m : Lm}, (m1 uK (pJ (aU fT (aU cH (aC 1) (mC (.int 0))) (mC (.str "either"))) (aU QY (mC (.str "call")) (m1 FC (aU cH (aC 1) (mC (.int 1))))))) [some (lv S0), some (.dat s.d), some (.cel S0.length)] (eP S0 bs m) = .ok (.dat (.int (Qa s))) (eP S0 bs m) := by
    intro m;cases s with
    | either a b =>
     simp! [uU, cO, eZ, Stt.d, Us hm hs];rfl
    | again b =>
     simp! [uU, i0, Stt.word];rfl
    | _ => cases ha
   simp! [uU, decide_eq_false (show ¬ (((k + 1 : Nat) : Int) = 0) by omega), P8 (k := k) h2, SI (m := { m with extra := k }) (t := Qa s) (by dsimp only; omega) hap, Im (m := { m with extra := k, bits := m.bits ++ [Qa s] }), nE]
   have i1 : cH (.cel S0.length) (.dat (.int (((m.taken + 1 : Nat) : Int) - 1))) (eP S0 bs { m with extra := k, bits := m.bits ++ [Qa s], taken := m.taken + 1 }) = .ok (.dat (.int (Qa s))) (eP S0 bs { m with extra := k, bits := m.bits ++ [Qa s], taken := m.taken + 1 }) := sX (n := m.taken) oQ (by omega) (by rw [h1]; simp)
   simp! [uU, i1];rfl
 ·rw [if_neg h1]
  obtain ⟨b, hb⟩ : ∃ b, m.bits[m.taken]? = some b := ⟨m.bits[m.taken]'(by omega), by simp [show m.taken < m.bits.length by omega]⟩
  rw [hb];simp! [uU, An, nE, rW oQ, aP, decide_eq_false (show ¬ (m.taken : Int) = (m.bits.length : Int) by omega), Im]
  have i1 : cH (.cel S0.length) (.dat (.int (((m.taken + 1 : Nat) : Int) - 1))) (eP S0 bs { m with taken := m.taken + 1 }) = .ok (.dat (.int b)) (eP S0 bs { m with taken := m.taken + 1 }) := sX (n := m.taken) oQ (by omega) hb
  simp! [uU, i1];rfl
inductive LR where
 | ok (blk : List LT) (m : Lm) | non (m : Lm) | no
def lD : List LT -> Option (List Deed × gN × List LT)
 | [] => none
 | .out c _ :: r => some ([], c, r)
 | .shut :: r => (match lD r with
  | some (ds, c, q) => some (.cl :: ds, c, q)
  | none => none)
 | .st _ :: r => lD r
def EI : LT -> Bool
 | .shut => true
 | _ => false
def Pi : LT -> Bool
 | .out _ _ => true
 | _ => false
theorem BC : ∀ {ts : List LT} {ds : List Deed} {c : gN} {r : List LT}, lD ts = some (ds, c, r) -> ∃ pre w, ts = pre ++ .out c w :: r /\ (∀ t ∈ pre, Pi t = false) /\ (pre.filter EI).map LT.d = ds.map Deed.l /\ ds.length <= pre.length
 | [], ds, c, r, h => by cases h
 | .out c' w :: q, ds, c, r, h => by cases h; exact ⟨[], w, rfl, (fun t h => by cases h), rfl, cE _⟩
 | .shut :: q, ds, c, r, h => by
  simp only [lD] at h;cases e : lD q with
  | none => rw [e] at h; cases h
  | some x =>
   obtain ⟨ds', c', q'⟩ := x;rw [e] at h;cases h;obtain ⟨pre, w, h1, h2, h3, h4⟩ := BC e;refine ⟨.shut :: pre, w, by rw [h1]; rfl, fun t ht => ?_, ?_, by simp; omega⟩
   ·rcases aY.mp ht with rfl | ht
    ·rfl
    ·exact h2 t ht
   ·rw [nW rfl, aN, h3]
    rfl
 | .st s :: q, ds, c, r, h => by
  obtain ⟨pre, w, h1, h2, h3, h4⟩ := BC (ts := q) h;refine ⟨.st s :: pre, w, by rw [h1]; rfl, fun t ht => ?_, ?_, by simp; omega⟩
  ·rcases aY.mp ht with rfl | ht
   ·rfl
   ·exact h2 t ht
  ·rw [nX (by simp [EI]), h3]
theorem KM {t : LT} {many : Int} {S : aO} (h : t.Ok many) : cH (.dat t.d) (.dat (.int 0)) S = .ok (.dat (.str t.word)) S := by
 cases t with
 | st s => exact HF (SG.noodd h)
 | shut => exact cO
 | out c w => exact cO
theorem Fx {t : Tg} {mt : FT} {e : FE} {ρ : Ev} {S : aO} {f g : LT -> D} {p : LT -> Bool} : ∀ {xs : List LT}, (∀ x ∈ xs, ∃ ρ1, pR t (.dat (f x)) ρ = some ρ1 /\ mt ρ1 S = .ok (p x) S /\ e ρ1 S = .ok (.dat (g x)) S) -> iJ t mt e ρ (xs.map f) S = .ok ((xs.filter p).map g) S
 | [], _ => rfl
 | x :: xs, h => by
  obtain ⟨ρ1, h1, h2, h3⟩ := h x (aV ..);have ih := Fx (xs := xs) fun y hy => h y (aM _ hy)
  rw [aN, iJ];simp only [h1, h2];cases q : p x with
  | true =>
   rw [nW q];simp only [if_true, h3, ih, aN]
  | false =>
   rw [nX (by rw [q]; decide)]
   simp only [CL, if_false, ih]
def allWords : List Str := ["go", "turn", "mirror", "scale", "aim", "place", "mark", "return", "exchange", "end", "keep", "again", "either", "call", "shut", "out"]
theorem O6 {t : LT} {many : Int} (h : t.Ok many) : t.word ∈ allWords := by
 cases t with
 | shut => simp [allWords, LT.word]
 | out c w => simp [allWords, LT.word]
 | st s =>
  cases s with
  | cmd c => cases c <;> simp [allWords, LT.word, Stt.word, Cmd.word]
  | odd x => exact (by obtain ⟨k, _, h, _⟩ := h; exact h.elim)
  | bad => exact (by obtain ⟨k, _, h, _⟩ := h; exact h.elim)
  | _ => simp [allWords, LT.word, Stt.word]
theorem RJ {t : LT} {many : Int} (h : t.Ok many) : PyData.strOk t.word = true := bV.mp (show allWords.all PyData.strOk = true by decide +kernel) _ (O6 h)
theorem O5 {t : LT} {many : Int} (h : t.Ok many) : (t.word == ("out" : Str)) = Pi t := by
 cases t with
 | shut => rfl
 | out c w => rfl
 | st s =>
  cases s with
  | cmd c => cases c <;> rfl
  | odd x => exact (by obtain ⟨k, _, h, _⟩ := h; exact h.elim)
  | bad => rfl
  | _ => rfl
theorem MV {t : LT} {many : Int} (h : t.Ok many) : decide (t.word = ("shut" : Str)) = EI t := by
 cases t with
 | shut => rfl
 | out c w => rfl
 | st s =>
  cases s with
  | cmd c => cases c <;> rfl
  | odd x => exact (by obtain ⟨k, _, h, _⟩ := h; exact h.elim)
  | bad => rfl
  | _ => rfl
theorem Hr {many : Int} : ∀ {ts : List LT}, (∀ t ∈ ts, t.Ok many) -> D.pys (ts.map fun t => .str t.word) = some (ts.map fun t => .str t.word) /\ PyData.canLayAll0 (ts.map fun t => PyData.str t.word) = true /\ PyData.depthAll (ts.map fun t => PyData.str t.word) = 0
 | [], _ => ⟨rfl, rfl, rfl⟩
 | t :: r, h => by
  obtain ⟨h1, h2, h3⟩ := Hr (ts := r) fun t ht => h t (aM _ ht)
  refine ⟨?_, ?_, ?_⟩
  ·rw [aN, D.pys, h1]
   rfl
  ·rw [aN, PyData.canLayAll0, h2, BZ]
   exact RJ (h t (aV ..))
  ·rw [aN, PyData.depthAll, h3]
   rfl
theorem Pg {as bs : List PyData} {z d : PyData} (h1 : ∀ x ∈ as, PyData.eqv x d = false) (h2 : PyData.eqv z d = true) : Ph (as ++ z :: bs) d = some as.length := by
 unfold Ph;rw [Ey];refine ⟨by simp [h2], aX as.length, (aX bs.length).map (as.length + 1 + ·), ?_, fun j hj => ?_⟩
 ·rw [bP, aK, show as.length + (bs.length + 1) = as.length + 1 + bs.length by omega, List.range_add, FL, dG]
  rfl
 ·have hj := eR.mp hj
  rw [aJ hj, cG hj];simp [h1 _ (pY hj)]
theorem NO {pre r : List LT} {c : gN} {w : Int} {many : Int} {S : aO} (h : ∀ t ∈ pre ++ .out c w :: r, t.Ok many) (hn : ∀ t ∈ pre, Pi t = false) : A3 (.dat (.lst ((pre ++ .out c w :: r).map fun t => .str t.word))) (.dat (.str "out")) S = .ok (.dat (.int (pre.length : Int))) S := by
 obtain ⟨h1, h2, h3⟩ := Hr h;have e : wN S (.dat (.lst ((pre ++ .out c w :: r).map fun t => .str t.word))) = some (.list ((pre ++ .out c w :: r).map fun t => .str t.word)) := by
  show D.py (.lst _) = _
  rw [D.py, h1]
 unfold A3;rw [e];dsimp only [wN, D.py];rw [if_pos ⟨by unfold SeqAt.shaped; rw [show PyData.canLay0 (.list ((pre ++ .out c w :: r).map fun t => .str t.word)) = true from h2, Bool.true_and]; exact decide_eq_true (by show PyData.depthAll _ + 1 <= 64; rw [h3]; decide), by decide +kernel⟩]
 rw [cU, aN, Pg (as := pre.map fun t => .str t.word)]
 ·simp
 ·intro x hx
  obtain ⟨t, ht, rfl⟩ := oI.mp hx
  show (t.word == ("out" : Str)) = false
  rw [O5 (h t (qS _ ht)), hn t ht]
 ·show (("out" : Str) == "out") = true
  decide +kernel
def cK (bs : List (List Stt)) (t : LT) (m : Lm) : LR := match t with
 | .st (.cmd c) => .ok [] { m with deeds := m.deeds ++ [.cmd c] }
 | .st (.keep b) => .ok (iM b ++ [.shut]) { m with deeds := m.deeds ++ [.op] }
 | .st (.either x y) => (match tV (.either x y) m with
  | none => .non m
  | some (b, m') => .ok (iM (if b = 0 then x else y)) m')
 | .st (.again b) => (match tV (.again b) m with
  | none => .non m
  | some (c, m') => .ok (if c = 0 then [] else iM b ++ [.st (.again b)]) m')
 | .st (.call g f x y) => if (g.toNat, m.taken) ∈ m.opens then .non m else (match bs[g.toNat]? with
  | some b => .ok (iM b ++ [.out (g, f, x, y) 0]) { m with opens := (g.toNat, m.taken) :: m.opens, deeds := m.deeds ++ (if f then [.op] else []) }
  | none => .no)
 | .st (.fin w) => (match lD m.todo with
  | some (ds, c, r) => .ok [.out c w] { m with deeds := m.deeds ++ ds, todo := r }
  | none => .no)
 | .out c w => (match m.opens with
  | _ :: o => .ok (iM (if w = 0 then c.2.2.1 else c.2.2.2)) { m with opens := o, way := w, deeds := m.deeds ++ (if c.2.1 then [.cl] else []) }
  | [] => .no)
 | .shut => .ok [] { m with deeds := m.deeds ++ [.cl] }
 | _ => .no
def Uj (r : Res Vl) (S0 : aO) (bs : List (List Stt)) (x : LR) : Prop := match x with
 | .ok blk m => r = .ok (.dat (.lst (blk.map LT.d))) (eP S0 bs m)
 | .non m => r = .ok (.dat .non) (eP S0 bs m)
 | .no => True
theorem DR {l : List Stt} : (iM l).map LT.d = bR l := by
 rw [sE, iM, jP];rfl
structure Lm.Fit (m : Lm) : Prop where
 t : m.taken <= m.bits.length
 b : m.bits.length < 100000
 d : m.deeds.length < 400000
 o : m.opens.length < 100000
 q : m.todo.length < 400000
 bit : ∀ b ∈ m.bits, b = 0 \/ b = 1
theorem EE {s : Stt} {m m' : Lm} {b : Int} (F : m.Fit) (h : tV s m = some (b, m')) : b = 0 \/ b = 1 := by
 unfold tV at h;split at h
 ·split at h
  ·cases h
  ·cases h; exact Qb s
 ·split at h
  ·rename_i q
   cases h;exact F.bit _ (bS q)
  ·cases h
theorem Nf {c : Cmd} : decide (c.word = ("either" : Str)) = false := by cases c <;> rfl
theorem Qe {c : Cmd} : decide (c.word = ("again" : Str)) = false := by cases c <;> rfl
theorem Tc {c : Cmd} : decide (c.word = ("keep" : Str)) = false := by cases c <;> rfl
theorem ME {c : Cmd} : decide (c.word = ("call" : Str)) = false := by cases c <;> rfl
theorem Td {c : Cmd} : decide (c.word = ("end" : Str)) = false := by cases c <;> rfl
theorem WY {c : Cmd} : decide (c.word = ("out" : Str)) = false := by cases c <;> rfl
def KE (o : Nat × Nat) : PyData := .tuple [.int (o.1 : Int), .int (o.2 : Int)]
theorem IZ : ∀ {os : List (Nat × Nat)}, D.pys (os.map Lf) = some (os.map KE) /\ PyData.canLayAll0 (os.map KE) = true /\ PyData.depthAll (os.map KE) <= 1
 | [] => ⟨rfl, rfl, gL _⟩
 | o :: r => by
  obtain ⟨h1, h2, h3⟩ := IZ (os := r);refine ⟨?_, ?_, ?_⟩
  ·rw [aN, D.pys, h1]
   rfl
  ·rw [aN, PyData.canLayAll0, h2]
   rfl
  ·rw [aN, PyData.depthAll]
   simp only [KE, PyData.depth, PyData.depthAll];omega
theorem J9 {S0 : aO} {bs : List (List Stt)} {m : Lm} {g : Nat} : fIn false (.dat (.tup [.int (g : Int), .int (m.taken : Int)])) (.cel (S0.length + 2)) (eP S0 bs m) = .ok (.dat (.bl (decide ((g, m.taken) ∈ m.opens)))) (eP S0 bs m) := by
 obtain ⟨h1, h2, h3⟩ := IZ (os := m.opens.reverse);have e1 : wN (eP S0 bs m) (.dat (.tup [.int (g : Int), .int (m.taken : Int)])) = some (KE (g, m.taken)) := rfl;have e2 : wN (eP S0 bs m) (.cel (S0.length + 2)) = some (.list (m.opens.reverse.map KE)) := by
  unfold wN;dsimp only;rw [Ak];dsimp only;rw [D.py, show uT Lf m.opens = m.opens.reverse.map Lf from rfl, h1]
 have hs : shp (KE (g, m.taken)) (.list (m.opens.reverse.map KE)) = true := by
  unfold shp SeqAt.shaped;rw [show PyData.canLay0 (.list (m.opens.reverse.map KE)) = true from h2, show decide ((PyData.list (m.opens.reverse.map KE)).depth <= 64) = true from decide_eq_true (by show PyData.depthAll _ + 1 <= 64; omega)]
  rfl
 have ha : ((m.opens.reverse.map KE).any fun z => PyData.eqv z (KE (g, m.taken))) = decide ((g, m.taken) ∈ m.opens) := by
  rw [Bool.eq_iff_iff, List.any_eq_true, decide_eq_true_iff]
  constructor
  ·rintro ⟨z, hz, he⟩
   obtain ⟨o, ho, rfl⟩ := oI.mp hz;simp only [KE, PyData.eqv, PyData.eqvAll, BZ, jE, beq_iff_eq] at he;have : o = (g, m.taken) := by
    obtain ⟨o1, o2⟩ := o;simp only at he;rw [show o1 = g by omega, show o2 = m.taken by omega]
   rw [<- this]
   simpa using ho
  ·intro h
   exact ⟨KE (g, m.taken), O0 (by simpa using h), by simp [KE, PyData.eqv, PyData.eqvAll]⟩
 unfold fIn;rw [e1, e2];dsimp only;rw [if_pos hs, ha];rfl
theorem Qi {xs : List D} {n : Nat} : cutD xs none (some (n : Int)) = xs.take n := by
 unfold cutD;rw [HT.sIx_none, HT.sIx_nat];simp
theorem Qj {xs : List D} {n : Nat} : cutD xs (some (n : Int)) none = xs.drop n := by
 unfold cutD;rw [HT.sIx_none, HT.sIx_nat, yI (by simp)]
 by_cases h : n <= xs.length
 ·rw [Ga h]
 ·rw [Nat.min_eq_right (by omega), pX, LC (by omega)]
theorem Lw {x : Deed} {f : Bool} : cutD [x.l] none (some (if f = true then 1 else 0)) = (if f then [x] else []).map Deed.l := by
 cases f with
 | true => exact Qi (n := 1)
 | false => exact Qi (n := 0)
section
variable {S0 : aO} {bs : List (List Stt)} {m : Lm} {many : Int}
theorem OM {c : Cmd} (F : m.Fit) : Uj (kE [lv S0, .dat (LT.st (.cmd c)).d] (eP S0 bs m)) S0 bs (cK bs (.st (.cmd c)) m) := by
 have Fd := F.d;have e1 := EF (S0 := S0) (bs := bs) (m := m) (t := .cmd c) (ρ := [some (lv S0), some (.dat c.d), some (.dat (.str c.word)), none, none, none, none]) (b := aC 1) (by omega) rfl
 show _ = _
 rw [kG];unfold hW;simp! [uU, LT.d, Stt.d, DB, Nf, Qe, Tc, ME, Td, WY, pK, e1];rfl
theorem Mg (F : m.Fit) : Uj (kE [lv S0, .dat LT.shut.d] (eP S0 bs m)) S0 bs (cK bs .shut m) := by
 have Fd := F.d;have e1 := EF (S0 := S0) (bs := bs) (m := m) (t := .cl) (ρ := [some (lv S0), some (.dat (.tup [.str "shut"])), some (.dat (.str "shut")), none, none, none, none]) (b := aC 1) (by omega) rfl
 show _ = _
 rw [kG];unfold hW;simp! [uU, LT.d, cO, pK, e1];rfl
theorem Mh {b : List Stt} (F : m.Fit) (h : SG many (.keep b)) : Uj (kE [lv S0, .dat (LT.st (.keep b)).d] (eP S0 bs m)) S0 bs (cK bs (.st (.keep b)) m) := by
 have Fd := F.d;have hb := h.keep.1;have e1 := EF (S0 := S0) (bs := bs) (m := m) (t := .op) (ρ := [some (lv S0), some (.dat (.tup [.str "keep", .lst (bR b)])), some (.dat (.str "keep")), none, none, none, none]) (b := bX (aB (mC (.str "hold")) aL)) (by omega) rfl
 have ad : ∀ {S : aO} {z : D}, dY false (.dat (.lst (bR b))) (.dat (.lst [z])) S = newL false (bR b ++ [z]) S := pV (by rw [fE]; exact sz (by simp; omega))
 show _ = _
 rw [kG];unfold hW;simp! [uU, LT.d, Stt.d, cO, eZ, pK, e1, ad];rw [cU, DR];rfl
theorem OJ {c : gN} {w : Int} (F : m.Fit) (h : (LT.out c w).Ok many) : Uj (kE [lv S0, .dat (LT.out c w).d] (eP S0 bs m)) S0 bs (cK bs (.out c w) m) := by
 have Fd := F.d;unfold cK;dsimp only;cases ho : m.opens with
 | nil => trivial
 | cons o r =>
  show _ = _
  obtain ⟨_, _, _, hw⟩ := h;have e1 := EA (S0 := S0) (bs := bs) (m := { m with opens := r, way := w }) (ds := if c.2.1 then [.cl] else []) (ρ := [some (lv S0), some (.dat (LT.out c w).d), some (.dat (.str "out")), none, none, none, none]) (v := Bv false (eB false (aB (bX (aB (mC (.str "shut")) aL)) aL)) qJ (gM (m1 uK (aU cH (aU cH (aC 1) (mC (.int 1))) (mC (.int 2)))))) (by dsimp only; split <;> simp <;> omega) (by
   simp! [uU, LT.d, eZ, Pf, show D.tup [D.str (Str.ofString "shut")] = Deed.cl.l from rfl, Lw])
  rw [kG];unfold hW;simp! [uU, LT.d, cO, eZ, lL, EB, PB ho, VM, KY];simp only [LT.d] at e1;simp! [uU, e1, eZ, lL, KY];rcases hw with rfl | rfl
  ·simp! [uU, C1]
   rw [DR];rfl
  ·simp! [uU, FB]
   rw [DR];rfl
theorem IC {s : Stt} (hm : many <= 9) (F : m.Fit) (h : SG many s) (ha : asks s = true) : Uj (kE [lv S0, .dat (LT.st s).d] (eP S0 bs m)) S0 bs (cK bs (.st s) m) := by
 have eb := WZ (S0 := S0) (bs := bs) hm h ha F.t F.b;cases q : tV s m with
 | none =>
  rw [q] at eb;dsimp only at eb;cases s with
  | either x y =>
   unfold cK;dsimp only;rw [q]
   show _ = _
   rw [kG];unfold hW;simp only [Stt.d] at eb;simp! [uU, LT.d, Stt.d, cO, eb];rfl
  | again b =>
   unfold cK;dsimp only;rw [q]
   show _ = _
   rw [kG];unfold hW;simp only [Stt.d] at eb;simp! [uU, LT.d, Stt.d, cO, eb];rfl
  | _ => cases ha
 | some x =>
  obtain ⟨b, m'⟩ := x;have hbit := EE F q;rw [q] at eb;dsimp only at eb;cases s with
  | either x y =>
   unfold cK;dsimp only;rw [q]
   show _ = _
   rw [kG];unfold hW;simp only [Stt.d] at eb;rcases hbit with rfl | rfl
   ·simp! [uU, LT.d, Stt.d, cO, eb, eZ]
    rw [DR];rfl
   ·simp! [uU, LT.d, Stt.d, cO, eb, lL]
    rw [DR];rfl
  | again b =>
   have hb := h.again.1;unfold cK;dsimp only;rw [q]
   show _ = _
   rw [kG];unfold hW;simp only [Stt.d] at eb;have ad : ∀ {S : aO}, dY false (.dat (.lst (bR b))) (.dat (.lst [.tup [.str "again", .lst (bR b)]])) S = newL false (bR b ++ [.tup [.str "again", .lst (bR b)]]) S := pV (by rw [fE]; exact sz (by simp; omega))
   rcases hbit with rfl | rfl
   ·simp! [uU, LT.d, Stt.d, cO, eb, eZ, ad, C1]
    rfl
   ·simp! [uU, LT.d, Stt.d, cO, eb, eZ, ad, FB]
    rw [cU, DR];rfl
  | _ => cases ha
end
section
variable {S0 : aO} {bs : List (List Stt)} {m : Lm} {many : Int}
theorem Mi {g : Int} {f : Bool} {x y : List Stt} (F : m.Fit) (h : SG many (.call g f x y)) (hB : ∀ b ∈ bs, b.length <= 1000) : Uj (kE [lv S0, .dat (LT.st (.call g f x y)).d] (eP S0 bs m)) S0 bs (cK bs (.st (.call g f x y)) m) := by
 have Fd := F.d;have Fo := F.o;obtain ⟨⟨g0, g1⟩, hx, hy⟩ := h.call;obtain ⟨n, rfl⟩ : ∃ n : Nat, g = (n : Int) := ⟨g.toNat, by omega⟩
 unfold cK;dsimp only;rw [kU]
 by_cases hin : (n, m.taken) ∈ m.opens
 ·rw [if_pos hin]
  show _ = _
  rw [kG];unfold hW;simp! [uU, LT.d, Stt.d, cO, eZ, nE, EB, J9, decide_eq_true hin];rfl
 ·rw [if_neg hin]
  cases hb : bs[n]? with
  | none => trivial
  | some b =>
   have hbl := hB b (bS hb);have ib : ∀ {S : aO}, cH (.dat (.lst (bls bs))) (.dat (.int (n : Int))) S = .ok (.dat (.lst (bR b))) S := fun {S} => NN (n := n) rfl (by rw [bls, cL, hb]; rfl)
   have e0 := PQ (S0 := S0) (bs := bs) (m := m) (t := (n, m.taken)) (ρ := [some (lv S0), some (.dat (Stt.call (n : Int) f x y).d), some (.dat (.str "call")), none, none, none, none]) (b := bX (aB (aU cH (aC 1) (mC (.int 1))) (aB (aU dJ (aC 0) (mC (.str "taken"))) aL))) (by omega) (by
    simp! [uU, Stt.d, eZ, nE];rfl)
   have e1 := EA (S0 := S0) (bs := bs) (m := { m with opens := (n, m.taken) :: m.opens }) (ds := if f then [.op] else []) (ρ := [some (lv S0), some (.dat (Stt.call (n : Int) f x y).d), some (.dat (.str "call")), none, none, none, none]) (v := Bv false (eB false (aB (bX (aB (mC (.str "hold")) aL)) aL)) qJ (gM (m1 uK (aU cH (aC 1) (mC (.int 2)))))) (by dsimp only; split <;> simp <;> omega) (by
    simp! [uU, Stt.d, lL, show D.tup [D.str (Str.ofString "hold")] = Deed.op.l from rfl, Lw])
   have ad : ∀ {S : aO} {z : D}, dY false (.dat (.lst (bR b))) (.dat (.lst [z])) S = newL false (bR b ++ [z]) S := pV (by rw [fE]; exact zD (Hl (by simp; omega)))
   show _ = _
   simp only [Stt.d] at e0 e1;rw [kG];unfold hW;simp! [uU, LT.d, Stt.d, cO, eZ, nE, EB, J9, decide_eq_false hin, e0, e1, NK, ib, ad];rw [cU, DR];rfl
theorem O4 {ts : List LT} {S : aO} {a0 a1 a2 a3 a4 a5 : Option Vl} (h : ∀ t ∈ ts, t.Ok many) (hl : ts.length < 400000) : zK false (.nm 6) gO (aU cH (aC 6) (mC (.int 0))) [a0, a1, a2, a3, a4, a5, none] [6] (ts.map LT.d) S = .ok (.dat (.lst (ts.map fun t => .str t.word))) S := by
 unfold zK;rw [aP, if_pos (zD (Hl (by omega))), Ao (f := LT.d) (g := fun t => .str t.word) fun t ht => ⟨_, rfl, by
  have := KM (S := S) (h t ht);simp! [uU, this]⟩]
 rfl
theorem Re {ts : List LT} {S : aO} {a0 a1 a2 a3 a4 a5 : Option Vl} (h : ∀ t ∈ ts, t.Ok many) (hl : ts.length < 400000) : zK false (.nm 6) (mB (aU fT (aU cH (aC 6) (mC (.int 0))) (mC (.str "shut")))) (aC 6) [a0, a1, a2, a3, a4, a5, none] [6] (ts.map LT.d) S = .ok (.dat (.lst ((ts.filter EI).map LT.d))) S := by
 unfold zK;rw [aP, if_pos (zD (Hl (by omega))), Fx (f := LT.d) (g := LT.d) (p := EI) fun t ht => ⟨_, rfl, by
  have := KM (S := S) (h t ht);simp! [uU, this, MV (h t ht)], rfl⟩]
 rfl
theorem OK {w : Int} (F : m.Fit) (hw : w = 0 \/ w = 1) (T : ∀ t ∈ m.todo, t.Ok many) : Uj (kE [lv S0, .dat (LT.st (.fin w)).d] (eP S0 bs m)) S0 bs (cK bs (.st (.fin w)) m) := by
 have Fd := F.d;have Fq := F.q;unfold cK;dsimp only;cases hc : lD m.todo with
 | none => trivial
 | some z =>
  obtain ⟨ds, c, r⟩ := z;obtain ⟨pre, w', h1, h2, h3, h4⟩ := BC hc;have hpl : pre.length < 400000 := by rw [h1] at Fq; simp at Fq; omega
  have T' : ∀ t ∈ pre ++ .out c w' :: r, t.Ok many := by rw [<- h1]; exact T
  have Tp : ∀ t ∈ pre, t.Ok many := fun t ht => T' t (qS _ ht)
  have hix := fun {S : aO} => NO (S := S) T' h2
  have hl := fun {S : aO} {a0 a1 a2 a3 a4 a5 : Option Vl} => O4 (S := S) (a0 := a0) (a1 := a1) (a2 := a2) (a3 := a3) (a4 := a4) (a5 := a5) T' (by rw [<- h1]; exact Fq)
  have hsh := fun {S : aO} {a0 a1 a2 a3 a4 a5 : Option Vl} => Re (S := S) (a0 := a0) (a1 := a1) (a2 := a2) (a3 := a3) (a4 := a4) (a5 := a5) Tp hpl
  have htk : (List.map LT.d (pre ++ .out c w' :: r)).take pre.length = pre.map LT.d := by simp
  have htd : (List.map LT.d (pre ++ .out c w' :: r)).drop (pre.length + 1) = r.map LT.d := by
   rw [cU, aN, List.drop_append];simp
  have hat : (List.map LT.d (pre ++ .out c w' :: r))[pre.length]? = some (LT.out c w').d := by simp
  have h5 : ∀ {S : aO}, cH (.dat (.lst (List.map LT.d (pre ++ .out c w' :: r)))) (.dat (.int (pre.length : Int))) S = .ok (.dat (LT.out c w').d) S := fun {S} => NN (n := pre.length) rfl hat
  have h6 : cutD (List.map LT.d (pre ++ .out c w' :: r)) (some ((pre.length : Int) + 1)) none = r.map LT.d := by
   rw [show ((pre.length : Int) + 1) = ((pre.length + 1 : Nat) : Int) by omega, Qj, htd]
  have h7 : cutD (List.map LT.d (pre ++ .out c w' :: r)) none (some (pre.length : Int)) = pre.map LT.d := by rw [Qi, htk]
  have lgt := vJ (S0 := S0) (bs := bs) (m := m);rw [h1] at lgt;have e1 := EA (S0 := S0) (bs := bs) (m := m) (ds := ds) (ρ := [some (lv S0), some (.dat (Stt.fin w).d), some (.dat (.str "end")), none, some (.dat (.lst (List.map LT.d (pre ++ .out c w' :: r)))), some (.dat (.int (pre.length : Int))), none]) (v := (BX false (jU (Bv false (aC 4) qJ (gM (aC 5)))) (.nm 6) (mB (aU fT (aU cH (aC 6) (mC (.int 0))) (mC (.str "shut")))) (aC 6) [6])) (by omega) (by
   simp! [uU, h7, hsh];rw [h3])
  show _ = _
  simp only [Stt.d] at e1;rw [kG];unfold hW;simp! [uU, LT.d, Stt.d, cO, lgt, hl, hix, e1, h6, Ah, h5, eZ];rfl
theorem RR {t : LT} (hm : many <= 9) (F : m.Fit) (h : t.Ok many) (T : ∀ t ∈ m.todo, t.Ok many) (hB : ∀ b ∈ bs, b.length <= 1000) : Uj (kE [lv S0, .dat t.d] (eP S0 bs m)) S0 bs (cK bs t m) := by
 cases t with
 | shut => exact Mg F
 | out c w => exact OJ F h
 | st s =>
  cases s with
  | cmd c => exact OM F
  | fin w => exact OK F (SG.fin h) T
  | keep b => exact Mh F h
  | again b => exact IC hm F h rfl
  | either a b => exact IC hm F h rfl
  | call g f x y => exact Mi F h hB
  | bad => trivial
  | odd x => trivial
end
inductive LF where
 | fin (m : Lm) | long (m : Lm) | never (m : Lm) | short (m : Lm) | no (m : Lm)
def isCall : LT -> Bool
 | .st (.call _ _ _ _) => true
 | _ => false
def cW (bs : List (List Stt)) : Nat -> Lm -> LF
 | 0, m => if m.todo = [] then .fin m else .long m
 | k + 1, m => match m.todo with
  | [] => .fin m
  | t :: r => match cK bs t { m with todo := r } with
   | .ok blk m' => cW bs k { m' with todo := blk ++ m'.todo }
   | .non m' => if isCall t = true then .never m' else .short m'
   | .no => .no m
structure Lm.Inv (many : Int) (k : Nat) (m : Lm) : Prop where
 T : ∀ t ∈ m.todo, t.Ok many
 bit : ∀ b ∈ m.bits, b = 0 \/ b = 1
 t : m.taken <= m.bits.length
 b : m.bits.length + k < 90000
 o : m.opens.length + k < 90000
 d : m.deeds.length + m.todo.length + 12 * k < 400000
theorem Lm.Inv.fit {many : Int} {k : Nat} {m : Lm} (h : m.Inv many k) : m.Fit := ⟨h.t, by have := h.b; omega, by have := h.d; omega, by have := h.o; omega, by have := h.d; omega, h.bit⟩
theorem Lm.Inv.pop {many : Int} {k : Nat} {m : Lm} {t : LT} {r : List LT} (h : m.Inv many k) (e : m.todo = t :: r) : ({ m with todo := r } : Lm).Inv many k /\ t.Ok many := ⟨⟨fun t ht => h.T t (by rw [e]; exact aM _ ht), h.bit, h.t, h.b, h.o, by have := h.d; rw [e] at this; simp at this; simp; omega⟩, h.T t (by rw [e]; exact aV ..)⟩
theorem vK {s : Stt} {m m' : Lm} {b : Int} (h : tV s m = some (b, m')) : m'.todo = m.todo /\ m'.deeds = m.deeds /\ m'.opens = m.opens /\ m'.way = m.way /\ m'.taken = m.taken + 1 /\ m'.bits[m.taken]? = some b /\ (∃ x, m'.bits = m.bits ++ x /\ x.length <= 1 /\ ∀ y ∈ x, y = 0 \/ y = 1) := by
 unfold tV at h;split at h
 ·rename_i ht
  split at h
  ·cases h
  ·cases h
   exact ⟨rfl, rfl, rfl, rfl, rfl, by rw [ht]; simp, _, rfl, by simp, fun y hy => by rw [bI.mp hy]; exact Qb s⟩
 ·split at h
  ·rename_i q
   cases h;exact ⟨rfl, rfl, rfl, rfl, rfl, q, [], by simp, by simp, fun y hy => by cases hy⟩
  ·cases h
theorem Iv {many : Int} {k : Nat} {s : Stt} {m m' : Lm} {b : Int} {blk : List LT} (I : m.Inv many (k + 1)) (hb : ∀ t ∈ blk, t.Ok many) (hl : blk.length <= 9) (h : tV s m = some (b, m')) (hlt : m.taken < m'.bits.length) : ({ m' with todo := blk ++ m'.todo } : Lm).Inv many k := by
 obtain ⟨h1, h2, h3, _, h4, _, x, h5, h6, h7⟩ := vK h;have := I.b; have := I.o; have := I.d;refine ⟨fun t ht => ?_, fun y hy => ?_, ?_, ?_, ?_, ?_⟩
 ·simp only [h1] at ht
  rcases dD.mp ht with ht | ht
  ·exact hb t ht
  ·exact I.T t ht
 ·simp only [h5] at hy
  rcases dD.mp hy with hy | hy
  ·exact I.bit y hy
  ·exact h7 y hy
 ·simp only [h4]; omega
 ·simp only [h5, bP]; omega
 ·simp only [h3]; omega
 ·simp only [h1, h2, bP]; omega
theorem Lp {s : Stt} {m m' : Lm} {b : Int} (h : tV s m = some (b, m')) : m.taken < m'.bits.length := by
 obtain ⟨_, _, _, _, _, h6, _⟩ := vK h;exact (aH.mp h6).1
theorem AH {l : List Stt} {many : Int} (h : BG many l) : ∀ t ∈ iM l, t.Ok many := fun t ht => by
 obtain ⟨s, h1, rfl⟩ := oI.mp ht;exact h.2 s h1
theorem yO {l : List Stt} : (iM l).length = l.length := by simp [iM]
theorem hI {bs : List (List Stt)} {many : Int} {k : Nat} {m m' : Lm} {t : LT} {blk : List LT} (hB : ∀ b ∈ bs, BG many b) (I : m.Inv many (k + 1)) (ht : t.Ok many) (h : cK bs t m = .ok blk m') : ({ m' with todo := blk ++ m'.todo } : Lm).Inv many k := by
 have Ib := I.b; have Io := I.o; have Id := I.d;have app : ∀ {blk : List LT}, (∀ t ∈ blk, t.Ok many) -> ∀ t ∈ blk ++ m.todo, t.Ok many := fun {blk} hb t ht => by
  rcases dD.mp ht with ht | ht
  ·exact hb t ht
  ·exact I.T t ht
 cases t with
 | shut =>
  cases h;exact ⟨I.T, I.bit, I.t, by dsimp only; omega, by dsimp only; omega, by simp; omega⟩
 | out c w =>
  obtain ⟨hg, hx, hy, hw⟩ := ht;unfold cK at h;dsimp only at h;split at h
  ·rename_i q
   cases h;have hq := congrArg Ew q;have hz : BG many (if w = 0 then c.2.2.1 else c.2.2.2) := by split <;> assumption
   have := hz.1;refine ⟨app (AH hz), I.bit, I.t, by dsimp only; omega, by simp at hq; dsimp only; omega, ?_⟩
   have hcl : (if c.2.1 = true then [Deed.cl] else []).length <= 1 := by split <;> simp
   simp only [bP, yO];omega
  ·cases h
 | st s =>
  cases s with
  | bad => cases h
  | odd x => cases h
  | cmd c =>
   cases h;exact ⟨I.T, I.bit, I.t, by dsimp only; omega, by dsimp only; omega, by simp; omega⟩
  | keep b =>
   cases h;have hz := SG.keep ht;have := hz.1;refine ⟨app fun t ht => ?_, I.bit, I.t, by dsimp only; omega, by dsimp only; omega, by simp [yO]; omega⟩
   rcases dD.mp ht with ht | ht
   ·exact AH hz t ht
   ·rw [bI.mp ht]; trivial
  | either x y =>
   obtain ⟨hx, hy⟩ := SG.either ht;unfold cK at h;dsimp only at h;split at h
   ·cases h
   ·rename_i b m1 q
    cases h;have hz : BG many (if b = 0 then x else y) := by split <;> assumption
    have := hz.1;exact Iv I (AH hz) (by rw [yO]; omega) q (Lp q)
  | again b =>
   have hz := SG.again ht;have := hz.1;unfold cK at h;dsimp only at h;split at h
   ·cases h
   ·rename_i c m1 q
    cases h;refine Iv I (fun t h => ?_) (by split <;> simp [yO]; omega) q (Lp q)
    split at h
    ·cases h
    ·rcases dD.mp h with h | h
     ·exact AH hz t h
     ·rw [bI.mp h]; exact ht
  | call g f x y =>
   obtain ⟨hg, hx, hy⟩ := SG.call ht;unfold cK at h;dsimp only at h;split at h
   ·cases h
   ·split at h
    ·rename_i b hb
     cases h;have hz := hB b (bS hb);have := hz.1;refine ⟨app fun t ht => ?_, I.bit, I.t, by dsimp only; omega, by simp; omega, ?_⟩
     ·rcases dD.mp ht with ht | ht
      ·exact AH hz t ht
      ·rw [bI.mp ht]; exact ⟨hg, hx, hy, .inl rfl⟩
     ·have hcl : (if f = true then [Deed.op] else []).length <= 1 := by split <;> simp
      simp only [bP, yO, aK, bF];omega
    ·cases h
  | fin w =>
   have hw := SG.fin ht;unfold cK at h;dsimp only at h;split at h
   ·rename_i ds c r q
    cases h;obtain ⟨pre, w', h1, h2, h3, h4⟩ := BC q;have hc := I.T (.out c w') (by rw [h1]; simp)
    have hl := congrArg Ew h1;simp only [bP, aK] at hl;refine ⟨fun t ht => ?_, I.bit, I.t, by dsimp only; omega, by dsimp only; omega, by simp; omega⟩
    rcases dD.mp ht with ht | ht
    ·rw [bI.mp ht]; exact ⟨hc.1, hc.2.1, hc.2.2.1, hw⟩
    ·exact I.T t (by rw [h1]; exact List.mem_append_right _ (aM _ ht))
   ·cases h
def oF (w : Str) (i : Int) (m : Lm) : D := .tup [.str w, .int i, .lst (m.deeds.map Deed.l), .lst (m.bits.map D.int)]
theorem Ai : ∀ {S0 : aO} {bs : List (List Stt)} {m : Lm}, (eP S0 bs m).take S0.length = S0 := by
 intro S0 bs m;simp [eP]
theorem Am {S0 : aO} {bs : List (List Stt)} {m : Lm} {c : Cell} : ((eP S0 bs m).set (S0.length + 1) c)[S0.length]? = some (.lst (m.bits.map D.int)) := by
 rw [aT, if_neg (by omega)]
 exact oQ
section
variable {S0 : aO} {bs : List (List Stt)} {many : Int} {a0 a1 a2 a3 : Option Vl}
abbrev rE (S0 : aO) (a0 a1 a2 a3 : Option Vl) : Ev := [a0, a1, a2, a3, some (lv S0), none, none, none]
theorem MZ {m : Lm} (h : m.todo = []) : eY [a0, a1, a2, a3, some (lv S0), some x, none, none] (eP S0 bs m) = .next (rE S0 a0 a1 a2 a3) (eP S0 bs m) := by
 rw [eY];simp! [uU, vJ, h, bL]
theorem idle {m : Lm} (h : m.todo = []) : ∀ (n : Nat) (lo : Int), loop (.nm 5) eY (iC lo n) (rE S0 a0 a1 a2 a3) (eP S0 bs m) = .next (rE S0 a0 a1 a2 a3) (eP S0 bs m)
 | 0, lo => rfl
 | n + 1, lo => by
  have ih := idle h n (lo + 1);rw [rG, loop];simp only [pR, jQ, rE, bZ, bD];rw [MZ h];exact ih
theorem I7 (hm : many <= 9) (hB : ∀ b ∈ bs, BG many b) : ∀ (n : Nat) (lo : Int) (m : Lm), m.Inv many n ->
  match cW bs n m with
  | .fin m' => loop (.nm 5) eY (iC lo n) (rE S0 a0 a1 a2 a3) (eP S0 bs m) = .next (rE S0 a0 a1 a2 a3) (eP S0 bs m')
  | .long m' => m'.todo ≠ [] /\ loop (.nm 5) eY (iC lo n) (rE S0 a0 a1 a2 a3) (eP S0 bs m) = .next (rE S0 a0 a1 a2 a3) (eP S0 bs m')
  | .never m' => ∃ S', loop (.nm 5) eY (iC lo n) (rE S0 a0 a1 a2 a3) (eP S0 bs m) = .ret (.dat (oF "never" (-2) m')) S' /\ S'.take S0.length = S0
  | .short m' => ∃ S', loop (.nm 5) eY (iC lo n) (rE S0 a0 a1 a2 a3) (eP S0 bs m) = .ret (.dat (oF "short" (m'.bits.length : Int) m')) S' /\ S'.take S0.length = S0
  | .no _ => True
 | 0, lo, m, I => by
  unfold cW
  by_cases h : m.todo = []
  ·rw [if_pos h]; rfl
  ·rw [if_neg h]; exact ⟨h, rfl⟩
 | n + 1, lo, m, I => by
  unfold cW;cases h : m.todo with
  | nil => exact idle h (n + 1) lo
  | cons t r =>
   dsimp only;obtain ⟨I1, ht⟩ := I.pop h;have tk := RR (S0 := S0) hm I1.fit ht I1.T (fun b hb => bY (hB b hb).1 (by decide))
   have ix0 : cH (.dat (.lst (t.d :: r.map LT.d))) (.dat (.int 0)) (eP S0 bs m) = .ok (.dat t.d) (eP S0 bs m) := C1;have lgt := vJ (S0 := S0) (bs := bs) (m := m);rw [h, aN] at lgt;have hgt : decide ((0 : Int) < (((r.map LT.d).length + 1 : Nat) : Int)) = true := decide_eq_true (by omega)
   have hgt' : decide ((0 : Int) < ((r.length + 1 : Nat) : Int)) = true := decide_eq_true (by omega)
   have hnl : ∀ xs : List D, isNon (Vl.dat (D.lst xs)) = false := fun _ => rfl
   have hcut : cutD (t.d :: r.map LT.d) (some 1) none = r.map LT.d := Qj (n := 1);have hw0 : ∀ {S : aO}, cH (.dat t.d) (.dat (.int 0)) S = .ok (.dat (.str t.word)) S := KM ht;rw [rG, loop];simp only [pR, jQ, rE, bZ, bD]
   revert tk
   cases q : cK bs t { m with todo := r } with
   | no => intro _; trivial
   | ok blk m' =>
    intro tk;have tk' : _ = _ := tk;have I2 := hI hB I1 ht q;have ih := I7 hm hB n (lo + 1) _ I2;have ad : ∀ {S : aO}, dY false (.dat (.lst (blk.map LT.d))) (.dat (.lst (m'.todo.map LT.d))) S = newL false (blk.map LT.d ++ m'.todo.map LT.d) S := pV (by
     have := I2.d;simp at this ⊢;exact zD (Hl (by omega)))
    have e : eY [a0, a1, a2, a3, some (lv S0), some (.dat (.int lo)), none, none] (eP S0 bs m) = .next (rE S0 a0 a1 a2 a3) (eP S0 bs { m' with todo := blk ++ m'.todo }) := by
     rw [eY];simp! [uU, lgt, hgt, ix0, hcut, Ah (ts := r), tk', hnl, vJ, ad, <- cU, Ah]
    rw [e];exact ih
   | non m' =>
    intro tk;have tk' : _ = _ := tk;cases hc : isCall t with
    | true =>
     dsimp only;rw [if_pos rfl];have hw : t.word = ("call" : Str) := by
      cases t with
      | st s => cases s <;> first | rfl | cases hc
      | _ => cases hc
     refine ⟨((eP S0 bs m').set (S0.length + 1) .dead).set S0.length .dead, ?_, by rw [take_set (by omega), take_set (by omega), Ai]⟩
     have e : eY [a0, a1, a2, a3, some (lv S0), some (.dat (.int lo)), none, none] (eP S0 bs m) = .ret (.dat (oF "never" (-2) m')) (((eP S0 bs m').set (S0.length + 1) .dead).set S0.length .dead) := by
      rw [eY];have lgb : dJ (lv S0) (.dat (.str "bits")) ((eP S0 bs m').set (S0.length + 1) .dead) = .ok (.cel S0.length) ((eP S0 bs m').set (S0.length + 1) .dead) := nJ (by rw [aT, if_neg (by omega)]; exact lB) rfl
      simp! [uU, lgt, hgt, ix0, hcut, Ah (ts := r), tk', hw0, hw, pK, lV rP, lgb, lV Am];rfl
     rw [e]
    | false =>
     dsimp only;rw [if_neg (by decide)]
     have hw : decide (t.word = ("call" : Str)) = false := by
      cases t with
      | st s =>
       cases s with
       | call g f x y => cases hc
       | cmd c => exact ME
       | odd x => exact (by obtain ⟨k, _, h, _⟩ := ht; exact h.elim)
       | _ => rfl
      | _ => rfl
     refine ⟨((eP S0 bs m').set (S0.length + 1) .dead).set S0.length .dead, ?_, by rw [take_set (by omega), take_set (by omega), Ai]⟩
     have e : eY [a0, a1, a2, a3, some (lv S0), some (.dat (.int lo)), none, none] (eP S0 bs m) = .ret (.dat (oF "short" (m'.bits.length : Int) m')) (((eP S0 bs m').set (S0.length + 1) .dead).set S0.length .dead) := by
      rw [eY];have lgb : dJ (lv S0) (.dat (.str "bits")) ((eP S0 bs m').set (S0.length + 1) .dead) = .ok (.cel S0.length) ((eP S0 bs m').set (S0.length + 1) .dead) := nJ (by rw [aT, if_neg (by omega)]; exact lB) rfl
      simp! [uU, lgt, hgt', ix0, hcut, Ah (ts := r), tk', hw0, hw, pK, An, rW oQ, aP, lV rP, lgb, lV Am];rfl
     rw [e]
end
def eN (p : Nat) (bits : List Int) (ex : Nat) : Lm := ⟨bits, ex, 0, 0, [], [], [.st (.call (p : Int) false [] [])]⟩
theorem C4 {p : Nat} {bits : List Int} {ex k : Nat} {many : Int} (hp : (p : Int) < many) (hb : ∀ b ∈ bits, b = 0 \/ b = 1) (hl : bits.length < 40000) (hk : k <= 20001) : (eN p bits ex).Inv many k :=
 ⟨fun t ht => by
  rw [bI.mp ht];exact ⟨3, by decide, ⟨⟨by decide, by omega, hp⟩, trivial, trivial⟩, by simp [Stt.size, cQ], ⟨⟨gL _, trivial⟩, gL _, trivial⟩⟩, hb, gL _, by simp [eN]; omega, by simp [eN]; omega, by simp [eN]; omega⟩
section
variable {S0 : aO} {bs : List (List Stt)} {p : Nat} {bits : List Int} {ex : Nat}
theorem Qd {ρ : Ev} (h0 : aC 0 ρ = fun S => .ok (.dat (.lst (bls bs))) S) (h2 : aC 2 ρ = fun S => .ok (.dat (.lst (bits.map D.int))) S) (h3 : aC 3 ρ = fun S => .ok (.dat (.int (ex : Int))) S) :
  NI [("bodies", (aC 0)), ("bits", (m1 (wI true) (aC 2))), ("extra", (aC 3)), ("taken", (mC (.int 0))), ("way", (mC (.int 0))), ("deeds", (eB true aL)), ("opens", (eB true aL))] ρ S0 = .ok (.cel (S0.length + 3)) (S0 ++ [.lst (bits.map D.int), .lst [], .lst [], .dct [("bodies", .dat (.lst (bls bs))), ("bits", .cel S0.length), ("extra", .dat (.int (ex : Int))), ("taken", .dat (.int 0)), ("way", .dat (.int 0)), ("deeds", .cel (S0.length + 1)), ("opens", .cel (S0.length + 2))]]) := by
 have e : mZ [("bodies", (aC 0)), ("bits", (m1 (wI true) (aC 2))), ("extra", (aC 3)), ("taken", (mC (.int 0))), ("way", (mC (.int 0))), ("deeds", (eB true aL)), ("opens", (eB true aL))] ρ S0 = .ok [("bodies", .dat (.lst (bls bs))), ("bits", .cel S0.length), ("extra", .dat (.int (ex : Int))), ("taken", .dat (.int 0)), ("way", .dat (.int 0)), ("deeds", .cel (S0.length + 1)), ("opens", .cel (S0.length + 2))] (S0 ++ [.lst (bits.map D.int), .lst [], .lst []]) := by
  have h2' : ∀ S, m1 (wI true) (aC 2) ρ S = .ok (.cel S.length) (S ++ [.lst (bits.map D.int)]) := fun S => by
   show ((aC 2 ρ) S).bind _ = _
   rw [h2];rfl
  have hl : ∀ S, eB true aL ρ S = .ok (.cel S.length) (S ++ [.lst []]) := fun S => rfl
  have hc : ∀ (d : D) S, mC d ρ S = .ok (.dat d) S := fun d S => rfl
  simp only [mZ, h0, h2', h3, hl, hc, Res.bind, bP, aK, bF, dG, bW, bT]
 unfold NI;rw [e];dsimp only;rw [if_pos ⟨by
  show (["bodies", "bits", "extra", "taken", "way", "deeds", "opens"] : List Str).Nodup
  decide +kernel, by simp⟩]
 simp
def VN (n : Nat) (bs : List (List Stt)) (bits : List Int) (ex : Nat) : List (Str × Vl) := [("bodies", .dat (.lst (bls bs))), ("bits", .cel n), ("extra", .dat (.int (ex : Int))), ("taken", .dat (.int 0)), ("way", .dat (.int 0)), ("deeds", .cel (n + 1)), ("opens", .cel (n + 2))]
theorem Os {ρ : Ev} : xU ρ (.dat (.lst [.tup [.str "call", .int (p : Int), .bl false, .lst [.lst [], .lst []]]])) (lv S0) (.dat (.str "todo")) (S0 ++ [.lst (bits.map D.int), .lst [], .lst [], .dct [("bodies", .dat (.lst (bls bs))), ("bits", .cel S0.length), ("extra", .dat (.int (ex : Int))), ("taken", .dat (.int 0)), ("way", .dat (.int 0)), ("deeds", .cel (S0.length + 1)), ("opens", .cel (S0.length + 2))]]) = .next ρ (eP S0 bs (eN p bits ex)) := by
 have hd : (S0 ++ [Cell.lst (bits.map D.int), .lst [], .lst [], .dct (VN S0.length bs bits ex)])[S0.length + 3]? = some (.dct (VN S0.length bs bits ex)) := by
  rw [bC (by omega), show S0.length + 3 - S0.length = 3 by omega]; rfl
 unfold xU;rw [show ([("bodies", .dat (.lst (bls bs))), ("bits", .cel S0.length), ("extra", .dat (.int (ex : Int))), ("taken", .dat (.int 0)), ("way", .dat (.int 0)), ("deeds", .cel (S0.length + 1)), ("opens", .cel (S0.length + 2))] : List (Str × Vl)) = VN S0.length bs bits ex from rfl]
 rw [C5 hd (by show 7 < 1000; decide) (by show (["bodies", "bits", "extra", "taken", "way", "deeds", "opens"] : List Str).Nodup; decide +kernel)]
 rw [dN _ _ (by omega), show S0.length + 3 - S0.length = 3 by omega]
 rfl
def jO (x : LF) (S : aO) : Res Vl := match x with
 | .fin m => if m.taken < m.bits.length then .ok (.dat (oF "rest" (m.taken : Int) m)) S else .ok (.dat (oF "run" m.way m)) S
 | .long _ => .ok (.dat (.tup [.str "long", .int 0, .lst [], .lst []])) S
 | .never m => .ok (.dat (oF "never" (-2) m)) S
 | .short m => .ok (.dat (oF "short" (m.bits.length : Int) m)) S
 | .no _ => .stuck
theorem jL {T S : aO} {d : D} {n : Nat} (ls : LS S) (h : T.take n = S) : trunc n (.ok (.dat d) T) = .ok (.dat d) S := by
 unfold trunc;dsimp only;rw [h, show (Vl.below n (Vl.dat d) && S.all fun c => c.below n) = true by rw [show (S.all fun c => c.below n) = true from bV.mpr fun c hc => ls c hc n]; rfl, if_pos rfl]
theorem SF {many : Int} (ls : LS S0) (hm : many <= 9) (hB : ∀ b ∈ bs, BG many b) (hp : (p : Int) < many) (hb : ∀ b ∈ bits, b = 0 \/ b = 1) (hl : bits.length < 40000) (hn : ∀ m, cW bs 3000 (eN p bits ex) ≠ .no m) :
  yT [.dat (.lst (bls bs)), .dat (.int (p : Int)), .dat (.lst (bits.map D.int)), .dat (.int (ex : Int))] S0 = jO (cW bs 3000 (eN p bits ex)) S0 := by
 have lp := I7 (S0 := S0) (a0 := some (.dat (.lst (bls bs)))) (a1 := some (.dat (.int (p : Int)))) (a2 := some (.dat (.lst (bits.map D.int)))) (a3 := some (.dat (.int (ex : Int)))) hm hB 3000 0 (eN p bits ex) (C4 hp hb hl (by decide))
 have e0 := Qd (S0 := S0) (bs := bs) (bits := bits) (ex := ex) (ρ := [some (.dat (.lst (bls bs))), some (.dat (.int (p : Int))), some (.dat (.lst (bits.map D.int))), some (.dat (.int (ex : Int))), none, none, none, none]) rfl rfl rfl;have hr : ∀ {S : aO}, EG (.dat (.int 3000)) S = .ok (iC 0 3000) S := fun {S} => by rw [kP (by decide) (by decide)]; rfl
 rw [U0];unfold DC;simp! [uU, e0, Os, hr]
 revert hn lp
 cases q : cW bs 3000 (eN p bits ex) with
 | no m => intro hn; exact absurd rfl (hn m)
 | never m =>
  intro _ lp;obtain ⟨S', h1, h2⟩ := lp;simp! [uU, h1];exact jL ls h2
 | short m =>
  intro _ lp;obtain ⟨S', h1, h2⟩ := lp;simp! [uU, h1];exact jL ls h2
 | long m =>
  intro _ lp;obtain ⟨h1, h2⟩ := lp;simp! [uU, h2, vJ, aP, decide_eq_true (show (0 : Int) < (m.todo.length : Int) by have := List.length_pos_iff.mpr h1; omega)]
  exact jL ls Ai
 | fin m =>
  intro _ lp;have lp' : _ = _ := lp;have ht : m.todo = [] := by
   have : ∀ (n : Nat) (m0 : Lm), cW bs n m0 = .fin m -> m.todo = [] := by
    intro n
    induction n with
    | zero =>
     intro m0 h;unfold cW at h;split at h
     ·cases h; assumption
     ·cases h
    | succ n ih =>
     intro m0 h;unfold cW at h;split at h
     ·cases h; assumption
     ·split at h
      ·exact ih _ h
      ·split at h <;> cases h
      ·cases h
   exact this _ _ q
  have lgb : ∀ {c : Cell}, dJ (lv S0) (.dat (.str "bits")) ((eP S0 bs m).set (S0.length + 1) c) = .ok (.cel S0.length) ((eP S0 bs m).set (S0.length + 1) c) := nJ (by rw [aT, if_neg (by omega)]; exact lB) rfl
  by_cases hr : m.taken < m.bits.length
  ·simp! [uU, lp', vJ, ht, bL, nE, An, rW oQ, aP, decide_eq_true (show (m.taken : Int) < (m.bits.length : Int) by omega), pK, lV rP, lgb, lV Am]
   unfold jO;dsimp only;rw [if_pos hr];exact jL ls (by rw [take_set (by omega), take_set (by omega), Ai])
  ·simp! [uU, lp', vJ, ht, bL, nE, An, rW oQ, aP, decide_eq_false (show ¬ (m.taken : Int) < (m.bits.length : Int) by omega), VP, pK, lV rP, lgb, lV Am]
   unfold jO;dsimp only;rw [if_neg hr];exact jL ls (by rw [take_set (by omega), take_set (by omega), Ai])
end
def mO (q : Nat) : Option gN -> gN
 | none => ((q : Int), false, [], [])
 | some c => c
def flat : List Task -> List LT
 | [] => []
 | .lst l i :: r => iM (l.drop i) ++ flat r
 | .close :: r => .shut :: flat r
 | .again b :: r => .st (.again b) :: flat r
 | .call q st :: r => .out (mO q st) 0 :: flat r
def callsOf : List Task -> List Nat
 | [] => []
 | .call q _ :: r => q :: callsOf r
 | _ :: r => callsOf r
def RD (p : Nat) : List Task -> Prop
 | [] => False
 | .call q none :: r => r = [] /\ q = p
 | .call _ (some _) :: r => RD p r
 | .lst _ _ :: r => RD p r
 | .close :: r => RD p r
 | .again _ :: r => RD p r
def wM (n : Nat) (os : List (Nat × Nat)) : List (List Nat) := (aX n).map fun q => (os.filter fun o => o.1 == q).map (·.2)
theorem mM {n q : Nat} {os : List (Nat × Nat)} (h : q < n) : (wM n os)[q]? = some ((os.filter fun o => o.1 == q).map (·.2)) := by
 rw [wM, cL, mE h];rfl
theorem rA {n : Nat} {os : List (Nat × Nat)} : (wM n os).length = n := by simp [wM]
theorem Nr {n q t : Nat} {os : List (Nat × Nat)} {a : List Nat} (h : q < n) : (wM n ((q, t) :: os)).set q ((os.filter fun o => o.1 == q).map (·.2)) = wM n os := by
 apply fV
 intro i;rw [aT]
 by_cases e : q = i
 ·subst e
  rw [if_pos rfl, if_pos (by rw [rA]; exact h), mM h]
 ·rw [if_neg e]
  by_cases hi : i < n
  ·rw [mM hi, mM hi, nX (by simpa using e)]
  ·rw [cJ (by rw [rA]; omega), cJ (by rw [rA]; omega)]
theorem Em {n q t : Nat} {os : List (Nat × Nat)} (h : q < n) : wM n ((q, t) :: os) = (wM n os).set q (t :: (os.filter fun o => o.1 == q).map (·.2)) := by
 apply fV
 intro i;rw [aT]
 by_cases e : q = i
 ·subst e
  rw [if_pos rfl, if_pos (by rw [rA]; exact h), mM h, nW (by simp)]
  rfl
 ·rw [if_neg e]
  by_cases hi : i < n
  ·rw [mM hi, mM hi, nX (by simpa using e)]
  ·rw [cJ (by rw [rA]; omega), cJ (by rw [rA]; omega)]
structure Sim (bs : List (List Stt)) (B : List Int) (p : Nat) (m : Lm) (c : Mc) : Prop where
 hbs : c.bs = bs
 bits : c.bits = B
 taken : c.taken = m.taken
 deeds : c.deeds = m.deeds
 todo : m.todo = flat c.stk
 calls : callsOf c.stk = m.opens.map Prod.fst
 act : c.act = wM bs.length m.opens
 lt : ∀ o ∈ m.opens, o.1 < bs.length
 srt : m.opens.Pairwise fun a b => b.2 <= a.2
 le : ∀ o ∈ m.opens, o.2 <= m.taken
 bot : RD p c.stk \/ (c.stk = [] /\ c.ended = m.way)
def Goes (j : Nat) (c c' : Mc) : Prop := ∀ n, runM (n + j) c = runM n c'
theorem Goes.refl {c : Mc} : Goes 0 c c := fun n => rfl
theorem Goes.step {c c' : Mc} (hs : c.stk ≠ []) (h : eU c = .ok c') : Goes 1 c c' := fun n => by
 rw [runM];cases e : c.stk with
 | nil => exact absurd e hs
 | cons t r => dsimp only; rw [h]
theorem Goes.trans {i j : Nat} {a b c : Mc} (h : Goes i a b) (k : Goes j b c) : Goes (i + j) a c := fun n => by
 rw [show n + (i + j) = (n + j) + i by omega, h, k]
def Tv : List Task -> Prop
 | .lst l i :: _ => i < l.length
 | _ => True
theorem settle {bs : List (List Stt)} {B : List Int} {p : Nat} {m : Lm} : ∀ (stk : List Task) (c : Mc), c.stk = stk -> Sim bs B p m c -> ∃ j c', Goes j c c' /\ Sim bs B p m c' /\ j + c'.stk.length <= stk.length /\ Tv c'.stk
 | [], c, e, s => ⟨0, c, Goes.refl, s, by rw [e]; simp, by rw [e]; trivial⟩
 | .close :: r, c, e, s => ⟨0, c, Goes.refl, s, by rw [e]; simp, by rw [e]; trivial⟩
 | .again b :: r, c, e, s => ⟨0, c, Goes.refl, s, by rw [e]; simp, by rw [e]; trivial⟩
 | .call q st :: r, c, e, s => ⟨0, c, Goes.refl, s, by rw [e]; simp, by rw [e]; trivial⟩
 | .lst l i :: r, c, e, s => by
  by_cases hi : i < l.length
  ·exact ⟨0, c, Goes.refl, s, by rw [e]; simp, by rw [e]; exact hi⟩
  ·have st : eU c = .ok { c with stk := r } := by
    unfold eU;rw [e];dsimp only;rw [cJ (by omega)]
   have s' : Sim bs B p m { c with stk := r } := ⟨s.hbs, s.bits, s.taken, s.deeds, by
    have := s.todo;rw [e] at this;simp only [flat] at this;rw [LC (by omega)] at this
    exact this, by have := s.calls; rw [e] at this; exact this, s.act, s.lt, s.srt, s.le, by
    rcases s.bot with h | ⟨h, _⟩
    ·rw [e] at h; exact .inl h
    ·rw [e] at h; cases h⟩
   obtain ⟨j, c', h1, h2, h3, h4⟩ := settle r _ rfl s';exact ⟨1 + j, c', (Goes.step (by rw [e]; simp) st).trans h1, h2, by simp; omega, h4⟩
theorem AE {p : Nat} : ∀ (stk : List Task) (d0 : List Deed), RD p stk -> ∃ ds q st r, AA stk d0 = some (d0 ++ ds, q, st, r) /\ lD (flat stk) = some (ds, mO q st, flat r) /\ callsOf stk = q :: callsOf r /\ (st = none -> r = []) /\ (st ≠ none -> RD p r) /\ r.length < stk.length
 | [], d0, h => h.elim
 | .close :: r, d0, h => by
  obtain ⟨ds, q, st, r', h1, h2, h3, h4, h5, h6⟩ := AE r (d0 ++ [.cl]) h;refine ⟨.cl :: ds, q, st, r', by rw [AA, h1]; simp, by rw [flat, lD, h2], h3, h4, h5, by simp; omega⟩
 | .again b :: r, d0, h => by
  obtain ⟨ds, q, st, r', h1, h2, h3, h4, h5, h6⟩ := AE r d0 h;exact ⟨ds, q, st, r', h1, by rw [flat, lD]; exact h2, h3, h4, h5, by simp; omega⟩
 | .lst l i :: r, d0, h => by
  obtain ⟨ds, q, st, r', h1, h2, h3, h4, h5, h6⟩ := AE r d0 h;refine ⟨ds, q, st, r', h1, ?_, h3, h4, h5, by simp; omega⟩
  rw [flat];have : ∀ l : List Stt, lD (iM l ++ flat r) = lD (flat r) := by
   intro l
   induction l with
   | nil => rfl
   | cons s l ih => exact ih
  rw [this];exact h2
 | .call q none :: r, d0, h => by
  obtain ⟨rfl, rfl⟩ := h;exact ⟨[], q, none, [], by simp [AA], rfl, rfl, fun _ => rfl, fun h => absurd rfl h, by simp⟩
 | .call q (some c) :: r, d0, h => ⟨[], q, some c, r, by simp [AA], rfl, rfl, fun h => (by cases h), fun _ => h, by simp⟩
def LF.bits : LF -> List Int
 | .fin m => m.bits
 | .long m => m.bits
 | .never m => m.bits
 | .short m => m.bits
 | .no m => m.bits
theorem OI {bs : List (List Stt)} {t : LT} {m m' : Lm} {blk : List LT} (h : cK bs t m = .ok blk m') : ∃ x, m'.bits = m.bits ++ x := by
 have nil : ∀ {m' : Lm}, m'.bits = m.bits -> ∃ x, m'.bits = m.bits ++ x := fun h => ⟨[], by simp [h]⟩
 have lb : ∀ {s : Stt} {b : Int} {m' : Lm}, tV s m = some (b, m') -> ∃ x, m'.bits = m.bits ++ x := fun h => by
  obtain ⟨_, _, _, _, _, _, x, hx, _⟩ := vK h;exact ⟨x, hx⟩
 cases t with
 | shut => cases h; exact nil rfl
 | out c w =>
  unfold cK at h;dsimp only at h;split at h
  ·cases h; exact nil rfl
  ·cases h
 | st s =>
  cases s with
  | bad => cases h
  | odd x => cases h
  | cmd c => cases h; exact nil rfl
  | keep b => cases h; exact nil rfl
  | either x y =>
   unfold cK at h;dsimp only at h;split at h
   ·cases h
   ·rename_i q; cases h; exact lb q
  | again b =>
   unfold cK at h;dsimp only at h;split at h
   ·cases h
   ·rename_i q; cases h; exact lb q
  | call g f x y =>
   unfold cK at h;dsimp only at h;split at h
   ·cases h
   ·split at h
    ·cases h; exact nil rfl
    ·cases h
  | fin w =>
   unfold cK at h;dsimp only at h;split at h
   ·cases h; exact nil rfl
   ·cases h
theorem Dz {bs : List (List Stt)} {t : LT} {m m' : Lm} (h : cK bs t m = .non m') : m' = m := by
 cases t with
 | shut => cases h
 | out c w =>
  unfold cK at h;dsimp only at h;split at h <;> cases h
 | st s =>
  cases s with
  | bad => cases h
  | odd x => cases h
  | cmd c => cases h
  | keep b => cases h
  | either x y =>
   unfold cK at h;dsimp only at h;split at h
   ·cases h; rfl
   ·cases h
  | again b =>
   unfold cK at h;dsimp only at h;split at h
   ·cases h; rfl
   ·cases h
  | call g f x y =>
   unfold cK at h;dsimp only at h;split at h
   ·cases h; rfl
   ·split at h <;> cases h
  | fin w =>
   unfold cK at h;dsimp only at h;split at h <;> cases h
theorem LY {bs : List (List Stt)} : ∀ (k : Nat) (m : Lm), ∃ x, (cW bs k m).bits = m.bits ++ x
 | 0, m => by
  unfold cW
  split <;> exact ⟨[], by simp [LF.bits]⟩
 | k + 1, m => by
  unfold cW;cases e : m.todo with
  | nil => exact ⟨[], by simp [LF.bits]⟩
  | cons t r =>
   dsimp only;cases q : cK bs t { m with todo := r } with
   | no => exact ⟨[], by simp [LF.bits]⟩
   | non m' =>
    dsimp only;have := Dz q;subst this
    split <;> exact ⟨[], by simp [LF.bits]⟩
   | ok blk m' =>
    obtain ⟨x, hx⟩ := OI q;obtain ⟨y, hy⟩ := LY k { m' with todo := blk ++ m'.todo }
    refine ⟨x ++ y, ?_⟩
    dsimp only;rw [hy];dsimp only at hx ⊢;rw [hx, dG]
def Ends : LF -> SR -> Prop
 | .fin m', r => ∃ c', r = .ok c' /\ c'.taken = m'.taken /\ c'.deeds = m'.deeds /\ c'.ended = m'.way
 | .long _, _ => True
 | .never _, r => ∃ c', r = .err (-2) c'
 | .short m', r => ∃ c', r = .err (m'.bits.length : Int) c'
 | .no _, _ => False
section
variable {bs : List (List Stt)} {B : List Int} {p : Nat} {many : Int}
theorem Fw {m : Lm} {c : Mc} {q t : Nat} {os : List (Nat × Nat)} {st : Option gN} {w : Int} (h1 : c.bs = bs) (h2 : c.bits = B) (h3 : c.taken = m.taken) (h4 : c.deeds = m.deeds) (h5 : m.todo = flat c.stk) (h6 : callsOf c.stk = os.map Prod.fst) (ho : m.opens = (q, t) :: os) (h7 : c.act = wM bs.length m.opens) (h8 : ∀ o ∈ m.opens, o.1 < bs.length) (h9 : m.opens.Pairwise fun a b => b.2 <= a.2) (h10 : ∀ o ∈ m.opens, o.2 <= m.taken) (h11 : st = none -> c.stk = []) (h12 : st ≠ none -> RD p c.stk) :
  ∃ a, c.act[q]? = some (t :: a) /\ Sim bs B p { m with opens := os, way := w, deeds := m.deeds ++ (if (mO q st).2.1 then [.cl] else []), todo := iM (if w = 0 then (mO q st).2.2.1 else (mO q st).2.2.2) ++ m.todo } (c.leave q a st w) /\ (c.leave q a st w).stk.length <= c.stk.length + 1 := by
 have hq : q < bs.length := h8 (q, t) (by rw [ho]; exact aV ..)
 have hac : c.act[q]? = some (t :: (os.filter fun o => o.1 == q).map (·.2)) := by
  rw [h7, ho, mM hq, nW (by simp)]
  rfl
 have hset : c.act.set q ((os.filter fun o => o.1 == q).map (·.2)) = wM bs.length os := by rw [h7, ho, Nr (a := []) hq]
 have hlt : ∀ o ∈ os, o.1 < bs.length := fun o h => h8 o (by rw [ho]; exact aM _ h)
 have hsr : os.Pairwise fun a b => b.2 <= a.2 := by rw [ho] at h9; exact (CN.mp h9).2
 have hle : ∀ o ∈ os, o.2 <= m.taken := fun o h => h10 o (by rw [ho]; exact aM _ h)
 refine ⟨_, hac, ?_, ?_⟩
 ·cases st with
  | none =>
   have hn := h11 rfl;refine ⟨h1, h2, h3, ?_, ?_, h6, hset, hlt, hsr, hle, .inr ⟨hn, rfl⟩⟩
   ·simp [Mc.leave, mO, h4]
   ·simp [Mc.leave, mO, h5, iM]
  | some k =>
   have hb := h12 (by simp)
   refine ⟨h1, h2, h3, ?_, ?_, ?_, hset, hlt, hsr, hle, .inl hb⟩
   ·simp only [Mc.leave, mO, h4]; rfl
   ·simp only [Mc.leave, mO, flat, List.drop_zero, h5]
   ·simp only [Mc.leave, callsOf, h6]
 ·cases st with
  | none => simp [Mc.leave]
  | some k => simp [Mc.leave]
theorem Cz {c c' : Mc} {i : Int} (hs : c.stk ≠ []) (h : eU c = .err i c') : runM 1 c = .err i c' := by
 rw [runM];cases e : c.stk with
 | nil => exact absurd e hs
 | cons t r => dsimp only; rw [h]
theorem Bx {s : Stt} {m : Lm} (ht : m.taken <= m.bits.length) (h : tV s m = none) : m.taken = m.bits.length := by
 unfold tV at h;split at h
 ·assumption
 ·split at h
  ·cases h
  ·rename_i q
   have := lT.mp q;omega
theorem drop_cons {l : List Stt} {i : Nat} {s : Stt} (h : l[i]? = some s) : l.drop i = s :: l.drop (i + 1) := by
 have hl := (aH.mp h).1;rw [iB hl]
 congr 1
 exact (aH.mp h).2
theorem HZ {k : Nat} {s : Stt} {m m' : Lm} {b : Int} {blk : List LT} (h : tV s m = some (b, m')) (hB : (cW bs k { m' with todo := blk ++ m'.todo }).bits = B) : B[m.taken]? = some b := by
 obtain ⟨_, _, _, _, _, h6, _⟩ := vK h;obtain ⟨y, hy⟩ := LY (bs := bs) k { m' with todo := blk ++ m'.todo }
 rw [hB] at hy;dsimp only at hy;rw [hy, aJ (aH.mp h6).1];exact h6
theorem Sim.ask {s : Stt} {m m' : Lm} {c : Mc} {b : Int} {stk : List Task} {blk : List LT} (S : Sim bs B p m c) (h : tV s { m with todo := td } = some (b, m')) (hf : blk ++ td = flat stk) (hc : callsOf stk = callsOf c.stk) (hbot : RD p stk) : Sim bs B p { m' with todo := blk ++ m'.todo } { c with taken := c.taken + 1, stk := stk } := by
 obtain ⟨h1, h2, h3, h4, h5, _, _⟩ := vK h;dsimp only at h1 h2 h3 h4 h5;refine ⟨S.hbs, S.bits, ?_, ?_, ?_, ?_, ?_, ?_, ?_, ?_, .inl hbot⟩
 ·dsimp only; rw [h5, S.taken]
 ·dsimp only; rw [h2, S.deeds]
 ·dsimp only; rw [h1, hf]
 ·dsimp only; rw [hc, h3, S.calls]
 ·dsimp only; rw [h3, S.act]
 ·dsimp only; rw [h3]; exact S.lt
 ·dsimp only; rw [h3]; exact S.srt
 ·dsimp only; rw [h3, h5]; exact fun o ho => Nat.le_succ_of_le (S.le o ho)
theorem head_mem {m : Lm} {g : Nat} (hg : g < bs.length) (srt : m.opens.Pairwise fun a b => b.2 <= a.2) (le : ∀ o ∈ m.opens, o.2 <= m.taken) : ((m.opens.filter fun o => o.1 == g).map (·.2)).head? = some m.taken ↔ (g, m.taken) ∈ m.opens := by
 constructor
 ·intro h
  cases e : m.opens.filter fun o => o.1 == g with
  | nil => rw [e] at h; cases h
  | cons o r =>
   rw [e] at h;simp at h;have hm : o ∈ m.opens.filter fun o => o.1 == g := by rw [e]; exact aV ..
   obtain ⟨h1, h2⟩ := FM.mp hm;have h2 : o.1 = g := by simpa using h2
   obtain ⟨a, b⟩ := o;simp only at h h2;subst h2 h;exact h1
 ·intro h
  have hm : (g, m.taken) ∈ m.opens.filter fun o => o.1 == g := FM.mpr ⟨h, by simp⟩
  have hp := List.Pairwise.filter (fun o => o.1 == g) srt
  cases e : m.opens.filter fun o => o.1 == g with
  | nil => rw [e] at hm; cases hm
  | cons o r =>
   rw [e] at hm hp;have ho : o ∈ m.opens := (FM.mp (show o ∈ m.opens.filter fun o => o.1 == g by rw [e]; exact aV ..)).1
   have h1 := le o ho;have h2 : m.taken <= o.2 := by
    rcases aY.mp hm with h | h
    ·rw [<- h]; exact cE _
    ·exact (CN.mp hp).1 _ h
   simp;omega
theorem RW (hm : (bs.length : Int) = many) (hG : ∀ b ∈ bs, BG many b) : ∀ (k : Nat) (m : Lm) (c : Mc), Sim bs B p m c -> m.Inv many k -> (cW bs k m).bits = B -> ∃ j, j <= 4 * k + c.stk.length + 1 /\ Ends (cW bs k m) (runM j c) := by
 intro k
 induction k using Nat.strongRecOn with
 | ind k ih =>
 intro m c S0 I hB;obtain ⟨j0, c1, g1, S, l1, st1⟩ := settle _ c rfl S0
 suffices h : ∃ j, j <= 4 * k + c1.stk.length + 1 /\ Ends (cW bs k m) (runM j c1) by
  obtain ⟨j, h1, h2⟩ := h;exact ⟨j + j0, by omega, by rw [g1]; exact h2⟩
 clear g1 S0 l1;cases hs : c1.stk with
 | nil =>
  have ht : m.todo = [] := by rw [S.todo, hs]; rfl
  have hl : cW bs k m = .fin m := by
   cases k with
   | zero => unfold cW; rw [if_pos ht]
   | succ k => unfold cW; rw [ht]
  rcases S.bot with h | ⟨_, h⟩
  ·rw [hs] at h; exact h.elim
  ·refine ⟨1, by omega, ?_⟩
   rw [hl];refine ⟨c1, ?_, S.taken, S.deeds, h⟩
   rw [runM, hs]
 | cons t r =>
  have hne : c1.stk ≠ [] := by rw [hs]; simp
  have hbot : RD p (t :: r) := by
   rcases S.bot with h | ⟨h, _⟩
   ·rw [hs] at h; exact h
   ·exact absurd h hne
  rw [hs] at st1;have htd := S.todo;have hcl := S.calls;rw [hs] at htd hcl
  -- with no turn left nothing is asked
  cases k with
  | zero =>
   have : m.todo ≠ [] := by
    rw [htd];cases t with
    | lst l i =>
     rw [flat];intro h;have := (List.append_eq_nil_iff.mp h).1;have h2 : (iM (l.drop i)).length = 0 := by rw [this]; rfl
     rw [yO, pZ] at h2;have : i < l.length := st1;omega
    | _ => simp [flat]
   refine ⟨0, by omega, ?_⟩
   unfold cW;rw [if_neg this]
   trivial
  | succ k =>
   -- one step of the machine, one turn of the law
   have go : ∀ {m2 : Lm} {c2 : Mc} {i : Nat}, Goes i c1 c2 -> Sim bs B p m2 c2 -> m2.Inv many k -> (cW bs k m2).bits = B -> i + c2.stk.length <= (t :: r).length + 4 -> ∃ j, j <= 4 * (k + 1) + (t :: r).length + 1 /\ Ends (cW bs k m2) (runM j c1) := fun {m2 c2 i} g s2 i2 b2 hi => by
    obtain ⟨j, h1, h2⟩ := ih k (by omega) m2 c2 s2 i2 b2
    exact ⟨j + i, by omega, by rw [g]; exact h2⟩
   cases t with
   | close =>
    rw [flat] at htd;have I2 := hI (t := .shut) hG (I.pop htd).1 trivial rfl;have hlr : cW bs (k + 1) m = cW bs k { m with todo := flat r, deeds := m.deeds ++ [.cl] } := by
     rw [cW, htd];rfl
    rw [hlr] at hB ⊢;have e : eU c1 = .ok { c1 with stk := r, deeds := c1.deeds ++ [.cl] } := by unfold eU; rw [hs]
    exact go (Goes.step hne e) ⟨S.hbs, S.bits, S.taken, by dsimp only; rw [S.deeds], rfl, hcl, S.act, S.lt, S.srt, S.le, .inl hbot⟩ I2 hB (by simp; omega)
   | call q st =>
    rw [flat] at htd;cases ho : m.opens with
    | nil => rw [ho] at hcl; cases hcl
    | cons o os =>
     obtain ⟨q', t'⟩ := o;rw [ho] at hcl;simp only [callsOf, aN, List.cons.injEq] at hcl;obtain ⟨rfl, hcl⟩ := hcl;obtain ⟨a, h1, h2, h3⟩ := Fw (p := p) (c := { c1 with stk := r }) (m := { m with todo := flat r }) (q := q) (t := t') (os := os) (st := st) (w := 0) S.hbs S.bits S.taken S.deeds rfl hcl ho S.act S.lt S.srt S.le (fun h => by subst h; exact hbot.1) (fun h => by cases st with
      | none => exact absurd rfl h
      | some z => exact hbot)
     have tq : cK bs (.out (mO q st) 0) { m with todo := flat r } = .ok (iM (if (0 : Int) = 0 then (mO q st).2.2.1 else (mO q st).2.2.2)) { m with todo := flat r, opens := os, way := 0, deeds := m.deeds ++ (if (mO q st).2.1 then [.cl] else []) } := by
      unfold cK;dsimp only;rw [ho]
     have I2 := hI hG (I.pop htd).1 (I.pop htd).2 tq;have hlr : cW bs (k + 1) m = cW bs k { m with opens := os, way := 0, deeds := m.deeds ++ (if (mO q st).2.1 then [.cl] else []), todo := iM (if (0 : Int) = 0 then (mO q st).2.2.1 else (mO q st).2.2.2) ++ flat r } := by
      rw [cW, htd];dsimp only;rw [tq]
     rw [hlr] at hB ⊢;have e : eU c1 = .ok (({ c1 with stk := r } : Mc).leave q a st 0) := by
      unfold eU;rw [hs];dsimp only;rw [show c1.act[q]? = some (t' :: a) from h1]
     exact go (Goes.step hne e) h2 I2 hB (by simp at h3 ⊢; omega)
   | again b =>
    rw [flat] at htd;have hIp := I.pop htd;have hon := hIp.2;cases ql : tV (.again b) { m with todo := flat r } with
    | none =>
     have tq : cK bs (.st (.again b)) { m with todo := flat r } = .non { m with todo := flat r } := by unfold cK; dsimp only; rw [ql]
     have hlr : cW bs (k + 1) m = .short { m with todo := flat r } := by
      rw [cW, htd];dsimp only;rw [tq];rfl
     rw [hlr] at hB ⊢;have htk := Bx (m := { m with todo := flat r }) I.t ql
     have hbn : B = m.bits := hB.symm;have e : eU c1 = .err (c1.taken : Int) { c1 with stk := r } := by
      unfold eU;rw [hs];dsimp only;rw [S.bits, S.taken, hbn, cJ (by dsimp only at htk; omega)]
     refine ⟨1, by omega, ?_⟩
     rw [Cz hne e];exact ⟨_, by rw [S.taken, show m.taken = m.bits.length from htk]⟩
    | some z =>
     obtain ⟨x, m'⟩ := z;have hbit := EE hIp.1.fit ql;have tq : cK bs (.st (.again b)) { m with todo := flat r } = .ok (if x = 0 then [] else iM b ++ [.st (.again b)]) m' := by unfold cK; dsimp only; rw [ql]
     have I2 := hI hG hIp.1 hIp.2 tq;have hlr : cW bs (k + 1) m = cW bs k { m' with todo := (if x = 0 then [] else iM b ++ [.st (.again b)]) ++ m'.todo } := by
      rw [cW, htd];dsimp only;rw [tq]
     rw [hlr] at hB ⊢;have hx := HZ ql hB;dsimp only at hx;rcases hbit with rfl | rfl
     ·have e : eU c1 = .ok { c1 with taken := c1.taken + 1, stk := r } := by
       unfold eU;rw [hs];dsimp only;rw [S.bits, S.taken, hx];rfl
      exact go (Goes.step hne e) (S.ask ql rfl (by rw [hs]; rfl) hbot) I2 hB (by simp; omega)
     ·have e : eU c1 = .ok { c1 with taken := c1.taken + 1, stk := .lst b 0 :: .again b :: r } := by
       unfold eU;rw [hs];dsimp only;rw [S.bits, S.taken, hx];rfl
      exact go (Goes.step hne e) (S.ask ql (by simp [flat]) (by rw [hs]; rfl) hbot) I2 hB (by simp; omega)
   | lst l i =>
    obtain ⟨s, hsi⟩ : ∃ s, l[i]? = some s := ⟨l[i]'st1, cG st1⟩;rw [flat, drop_cons hsi] at htd;have htd : m.todo = .st s :: (iM (l.drop (i + 1)) ++ flat r) := htd;have hIp := I.pop htd;have hon : SG many s := hIp.2;have hst : ∀ {x : SR}, iK s { c1 with stk := .lst l (i + 1) :: r } = x -> eU c1 = x := fun {x} h => by
     unfold eU;rw [hs];dsimp only;rw [hsi];exact h
    have hbot' : RD p (.lst l (i + 1) :: r) := hbot;cases s with
    | bad => obtain ⟨_, _, h, _⟩ := hon; exact h.elim
    | odd x => obtain ⟨_, _, h, _⟩ := hon; exact h.elim
    | cmd z =>
     have I2 := hI (t := .st (.cmd z)) hG hIp.1 hon rfl;have hlr : cW bs (k + 1) m = cW bs k { m with todo := iM (l.drop (i + 1)) ++ flat r, deeds := m.deeds ++ [.cmd z] } := by
      rw [cW, htd];rfl
     rw [hlr] at hB ⊢;exact go (Goes.step hne (hst rfl)) ⟨S.hbs, S.bits, S.taken, by dsimp only; rw [S.deeds], rfl, hcl, S.act, S.lt, S.srt, S.le, .inl hbot'⟩ I2 hB (by simp; omega)
    | keep b =>
     have I2 := hI (t := .st (.keep b)) hG hIp.1 hon rfl;have hlr : cW bs (k + 1) m = cW bs k { m with todo := (iM b ++ [.shut]) ++ (iM (l.drop (i + 1)) ++ flat r), deeds := m.deeds ++ [.op] } := by
      rw [cW, htd];rfl
     rw [hlr] at hB ⊢;exact go (Goes.step hne (hst rfl)) ⟨S.hbs, S.bits, S.taken, by dsimp only; rw [S.deeds], by simp [flat], hcl, S.act, S.lt, S.srt, S.le, .inl hbot'⟩ I2 hB (by simp; omega)
    | either x y =>
     cases ql : tV (.either x y) { m with todo := iM (l.drop (i + 1)) ++ flat r } with
     | none =>
      have tq : cK bs (.st (.either x y)) { m with todo := iM (l.drop (i + 1)) ++ flat r } = .non { m with todo := iM (l.drop (i + 1)) ++ flat r } := by unfold cK; dsimp only; rw [ql]
      have hlr : cW bs (k + 1) m = .short { m with todo := iM (l.drop (i + 1)) ++ flat r } := by
       rw [cW, htd];dsimp only;rw [tq];rfl
      rw [hlr] at hB ⊢;have htk := Bx (m := { m with todo := iM (l.drop (i + 1)) ++ flat r }) I.t ql
      have hbn : B = m.bits := hB.symm;have e : eU c1 = .err (c1.taken : Int) { c1 with stk := .lst l (i + 1) :: r } := hst (by
       unfold iK;dsimp only;rw [S.bits, S.taken, hbn, cJ (by dsimp only at htk; omega)])
      refine ⟨1, by omega, ?_⟩
      rw [Cz hne e];exact ⟨_, by rw [S.taken, show m.taken = m.bits.length from htk]⟩
     | some z =>
      obtain ⟨b, m'⟩ := z;have tq : cK bs (.st (.either x y)) { m with todo := iM (l.drop (i + 1)) ++ flat r } = .ok (iM (if b = 0 then x else y)) m' := by unfold cK; dsimp only; rw [ql]
      have I2 := hI hG hIp.1 hIp.2 tq;have hlr : cW bs (k + 1) m = cW bs k { m' with todo := iM (if b = 0 then x else y) ++ m'.todo } := by
       rw [cW, htd];dsimp only;rw [tq]
      rw [hlr] at hB ⊢;have hx := HZ ql hB;dsimp only at hx;have e : eU c1 = .ok { c1 with taken := c1.taken + 1, stk := .lst (if b = 0 then x else y) 0 :: .lst l (i + 1) :: r } := hst (by
       unfold iK;dsimp only;rw [S.bits, S.taken, hx])
      exact go (Goes.step hne e) (S.ask ql (by simp [flat]) (by rw [hs]; rfl) hbot') I2 hB (by simp; omega)
    | again b =>
     have g1 : Goes 1 c1 { c1 with stk := .again b :: .lst l (i + 1) :: r } := Goes.step hne (hst rfl)
     have hne2 : ({ c1 with stk := .again b :: .lst l (i + 1) :: r } : Mc).stk ≠ [] := by simp
     cases ql : tV (.again b) { m with todo := iM (l.drop (i + 1)) ++ flat r } with
     | none =>
      have tq : cK bs (.st (.again b)) { m with todo := iM (l.drop (i + 1)) ++ flat r } = .non { m with todo := iM (l.drop (i + 1)) ++ flat r } := by unfold cK; dsimp only; rw [ql]
      have hlr : cW bs (k + 1) m = .short { m with todo := iM (l.drop (i + 1)) ++ flat r } := by
       rw [cW, htd];dsimp only;rw [tq];rfl
      rw [hlr] at hB ⊢;have htk := Bx (m := { m with todo := iM (l.drop (i + 1)) ++ flat r }) I.t ql
      have hbn : B = m.bits := hB.symm;have e : eU { c1 with stk := .again b :: .lst l (i + 1) :: r } = .err (c1.taken : Int) { c1 with stk := .lst l (i + 1) :: r } := by
       unfold eU;dsimp only;rw [S.bits, S.taken, hbn, cJ (by dsimp only at htk; omega)]
      refine ⟨1 + 1, by omega, ?_⟩
      rw [g1, Cz hne2 e];exact ⟨_, by rw [S.taken, show m.taken = m.bits.length from htk]⟩
     | some z =>
      obtain ⟨x, m'⟩ := z;have hbit := EE hIp.1.fit ql;have tq : cK bs (.st (.again b)) { m with todo := iM (l.drop (i + 1)) ++ flat r } = .ok (if x = 0 then [] else iM b ++ [.st (.again b)]) m' := by unfold cK; dsimp only; rw [ql]
      have I2 := hI hG hIp.1 hIp.2 tq;have hlr : cW bs (k + 1) m = cW bs k { m' with todo := (if x = 0 then [] else iM b ++ [.st (.again b)]) ++ m'.todo } := by
       rw [cW, htd];dsimp only;rw [tq]
      rw [hlr] at hB ⊢;have hx := HZ ql hB;dsimp only at hx;rcases hbit with rfl | rfl
      ·have e : eU { c1 with stk := .again b :: .lst l (i + 1) :: r } = .ok { c1 with taken := c1.taken + 1, stk := .lst l (i + 1) :: r } := by
        unfold eU;dsimp only;rw [S.bits, S.taken, hx];rfl
       exact go (g1.trans (Goes.step hne2 e)) (S.ask ql (by simp [flat]) (by rw [hs]; rfl) hbot') I2 hB (by simp; omega)
      ·have e : eU { c1 with stk := .again b :: .lst l (i + 1) :: r } = .ok { c1 with taken := c1.taken + 1, stk := .lst b 0 :: .again b :: .lst l (i + 1) :: r } := by
        unfold eU;dsimp only;rw [S.bits, S.taken, hx];rfl
       exact go (g1.trans (Goes.step hne2 e)) (S.ask ql (by simp [flat]) (by rw [hs]; rfl) hbot') I2 hB (by simp; omega)
    | call g f x y =>
     obtain ⟨⟨g0, g1⟩, _⟩ := hon.call;have hgl : g.toNat < bs.length := by omega
     obtain ⟨b, hb⟩ : ∃ b, bs[g.toNat]? = some b := ⟨bs[g.toNat], cG hgl⟩;have hac : c1.act[g.toNat]? = some ((m.opens.filter fun o => o.1 == g.toNat).map (·.2)) := by rw [S.act, mM hgl]
     have hh := head_mem (m := m) hgl S.srt S.le
     by_cases hin : (g.toNat, m.taken) ∈ m.opens
     ·have tq : cK bs (.st (.call g f x y)) { m with todo := iM (l.drop (i + 1)) ++ flat r } = .non { m with todo := iM (l.drop (i + 1)) ++ flat r } := by unfold cK; dsimp only; rw [if_pos hin]
      have hlr : cW bs (k + 1) m = .never { m with todo := iM (l.drop (i + 1)) ++ flat r } := by
       rw [cW, htd];dsimp only;rw [tq];rfl
      rw [hlr];have e : eU c1 = .err (-2) { c1 with stk := .lst l (i + 1) :: r, deeds := c1.deeds ++ (if f then [.op] else []) } := hst (by
       unfold iK;dsimp only;rw [hac, S.hbs, hb];dsimp only;rw [if_pos (by rw [S.taken]; exact hh.mpr hin)])
      exact ⟨1, by omega, _, Cz hne e⟩
     ·have tq : cK bs (.st (.call g f x y)) { m with todo := iM (l.drop (i + 1)) ++ flat r } = .ok (iM b ++ [.out (g, f, x, y) 0]) { m with todo := iM (l.drop (i + 1)) ++ flat r, opens := (g.toNat, m.taken) :: m.opens, deeds := m.deeds ++ (if f then [.op] else []) } := by
       unfold cK;dsimp only;rw [if_neg hin, hb]
      have I2 := hI hG hIp.1 hIp.2 tq;have hlr : cW bs (k + 1) m = cW bs k { m with todo := (iM b ++ [.out (g, f, x, y) 0]) ++ (iM (l.drop (i + 1)) ++ flat r), opens := (g.toNat, m.taken) :: m.opens, deeds := m.deeds ++ (if f then [.op] else []) } := by
       rw [cW, htd];dsimp only;rw [tq]
      rw [hlr] at hB ⊢;have e : eU c1 = .ok (({ c1 with stk := .lst l (i + 1) :: r, deeds := c1.deeds ++ (if f then [.op] else []) } : Mc).enter g.toNat ((m.opens.filter fun o => o.1 == g.toNat).map (·.2)) b (some (g, f, x, y))) := hst (by
       unfold iK;dsimp only;rw [hac, S.hbs, hb];dsimp only;rw [if_neg (by rw [S.taken]; exact fun h => hin (hh.mp h))])
      refine go (Goes.step hne e) ⟨S.hbs, S.bits, S.taken, by simp only [Mc.enter, S.deeds], by simp [Mc.enter, flat, mO], ?_, ?_, ?_, ?_, ?_, .inl hbot'⟩ I2 hB (by simp [Mc.enter]; omega)
      ·simp only [Mc.enter, callsOf, aN]
       rw [<- hcl];rfl
      ·simp only [Mc.enter]
       rw [Em hgl, S.act, S.taken]
      ·intro o ho
       rcases aY.mp ho with rfl | ho
       ·exact hgl
       ·exact S.lt o ho
      ·exact CN.mpr ⟨fun o ho => S.le o ho, S.srt⟩
      ·intro o ho
       rcases aY.mp ho with rfl | ho
       ·exact cE _
       ·exact S.le o ho
    | fin w =>
     obtain ⟨ds, q, st, r', h1, h2, h3, h4, h5, h6⟩ := AE (p := p) (.lst l (i + 1) :: r) c1.deeds hbot';have h2' : lD (iM (l.drop (i + 1)) ++ flat r) = some (ds, mO q st, flat r') := h2;have tq : cK bs (.st (.fin w)) { m with todo := iM (l.drop (i + 1)) ++ flat r } = .ok [.out (mO q st) w] { m with todo := flat r', deeds := m.deeds ++ ds } := by
      unfold cK;dsimp only;rw [h2']
     have I2 := hI hG hIp.1 hIp.2 tq;have hlr : cW bs (k + 1) m = cW bs k { m with todo := .out (mO q st) w :: flat r', deeds := m.deeds ++ ds } := by
      rw [cW, htd];dsimp only;rw [tq];rfl
     rw [hlr] at hB ⊢;cases k with
     | zero =>
      refine ⟨0, by omega, ?_⟩
      unfold cW;rw [if_neg (by simp)]
      trivial
     | succ k =>
      have hcl' : callsOf (.lst l (i + 1) :: r) = m.opens.map Prod.fst := hcl;rw [h3] at hcl';obtain ⟨q', t', os, ho⟩ : ∃ q' t' os, m.opens = (q', t') :: os := by
       cases ho : m.opens with
       | nil => rw [ho] at hcl'; cases hcl'
       | cons o os => exact ⟨o.1, o.2, os, rfl⟩
      ·rw [ho] at hcl'
       simp only [aN, List.cons.injEq] at hcl';obtain ⟨rfl, hcl'⟩ := hcl';obtain ⟨a, e1, e2, e3⟩ := Fw (p := p) (c := { c1 with stk := r', deeds := c1.deeds ++ ds }) (m := { m with todo := flat r', deeds := m.deeds ++ ds }) (q := q) (t := t') (os := os) (st := st) (w := w) S.hbs S.bits S.taken (by dsimp only; rw [S.deeds]) rfl hcl' ho S.act S.lt S.srt S.le h4 h5
       have tq2 : cK bs (.out (mO q st) w) { m with todo := flat r', deeds := m.deeds ++ ds } = .ok (iM (if w = 0 then (mO q st).2.2.1 else (mO q st).2.2.2)) { m with todo := flat r', opens := os, way := w, deeds := m.deeds ++ ds ++ (if (mO q st).2.1 then [.cl] else []) } := by
        unfold cK;dsimp only;rw [ho]
       have I2' : ({ m with todo := .out (mO q st) w :: flat r', deeds := m.deeds ++ ds } : Lm).Inv many (k + 1) := I2
       have I3 := hI hG (I2'.pop rfl).1 (I2'.pop rfl).2 tq2;have hlr2 : cW bs (k + 1) { m with todo := .out (mO q st) w :: flat r', deeds := m.deeds ++ ds } = cW bs k { m with opens := os, way := w, deeds := m.deeds ++ ds ++ (if (mO q st).2.1 then [.cl] else []), todo := iM (if w = 0 then (mO q st).2.2.1 else (mO q st).2.2.2) ++ flat r' } := by
        rw [cW];dsimp only;rw [tq2]
       rw [hlr2] at hB ⊢;have e : eU c1 = .ok (({ c1 with stk := r', deeds := c1.deeds ++ ds } : Mc).leave q a st w) := hst (by
        unfold iK;dsimp only;rw [h1];dsimp only;rw [show c1.act[q]? = some (t' :: a) from e1])
       obtain ⟨j, h7, h8⟩ := ih k (by omega) _ _ e2 I3 hB
       refine ⟨j + 1, ?_, by rw [Goes.step hne e]; exact h8⟩
       simp at h6 e3 h7 ⊢;omega
end
def nest : List LT -> Nat
 | [] => 0
 | .shut :: r => nest r + 1
 | .out c _ :: r => nest r + (if c.2.1 then 1 else 0)
 | .st _ :: r => nest r
theorem pG {r : List LT} : ∀ {l : List Stt}, nest (iM l ++ r) = nest r
 | [] => rfl
 | s :: l => pG (l := l)
structure Bal (n : Nat) (m : Lm) : Prop where
 len : m.deeds.length + nest m.todo <= n
 ok : ∀ d ∈ m.deeds, d.Ok
 nest : ∃ s, lY m.deeds ⟨unitM, []⟩ = some s /\ s.stk.length = nest m.todo
theorem vS : ∀ {a b : List Deed} {s : Ms}, lY (a ++ b) s = (lY a s).bind (lY b)
 | [], b, s => rfl
 | d :: a, b, s => by
  simp only [bW, lY];cases xZ d s with
  | none => rfl
  | some s' => exact vS
theorem Jj : ∀ {n : Nat} {s : Ms}, n <= s.stk.length -> ∃ s', lY (cD n Deed.cl) s = some s' /\ s'.stk.length + n = s.stk.length
 | 0, s, h => ⟨s, rfl, rfl⟩
 | n + 1, s, h => by
  obtain ⟨m, stk⟩ := s;cases stk with
  | nil => simp at h
  | cons P k =>
   obtain ⟨s', h1, h2⟩ := Jj (n := n) (s := ⟨tD P (sV m), k⟩) (by simpa using h)
   exact ⟨s', h1, by simp at h2 ⊢; omega⟩
theorem Ee : ∀ {ts : List LT} {ds : List Deed} {c : gN} {r : List LT}, lD ts = some (ds, c, r) -> ds = cD ds.length .cl /\ nest ts = ds.length + (nest r + (if c.2.1 then 1 else 0))
 | [], ds, c, r, h => by cases h
 | .out c' w :: q, ds, c, r, h => by cases h; exact ⟨rfl, by simp [nest]⟩
 | .shut :: q, ds, c, r, h => by
  simp only [lD] at h;cases e : lD q with
  | none => rw [e] at h; cases h
  | some x =>
   obtain ⟨ds', c', q'⟩ := x;rw [e] at h;cases h;obtain ⟨h1, h2⟩ := Ee e;refine ⟨by rw [aK, List.replicate_succ, <- h1], ?_⟩
   simp only [nest, h2, aK];omega
 | .st s :: q, ds, c, r, h => Ee (ts := q) h
theorem zC {N : Nat} {m : Lm} {n : Nat} {td : List LT} (b : Bal N m) (h : nest m.todo = n + nest td) : ({ m with deeds := m.deeds ++ cD n .cl, todo := td } : Lm) |> Bal N := by
 obtain ⟨len, ok, s, h1, h2⟩ := b;obtain ⟨s', h3, h4⟩ := Jj (n := n) (s := s) (by omega)
 refine ⟨by simp; omega, fun d hd => ?_, s', by rw [vS, h1]; exact h3, by dsimp only; omega⟩
 rcases dD.mp hd with hd | hd
 ·exact ok d hd
 ·rw [(List.mem_replicate.mp hd).2]; trivial
theorem Wa {N : Nat} {m : Lm} {f : Bool} {td : List LT} (b : Bal N m) (h : nest m.todo = (if f then 1 else 0) + nest td) : ({ m with deeds := m.deeds ++ (if f then [.cl] else []), todo := td } : Lm) |> Bal N := by
 cases f with
 | true => exact zC (n := 1) b h
 | false => exact zC (n := 0) b h
theorem Qr {N : Nat} {m : Lm} {f : Bool} {td : List LT} (b : Bal N m) (h : nest td = nest m.todo + (if f then 1 else 0)) : ({ m with deeds := m.deeds ++ (if f then [.op] else []), todo := td } : Lm) |> Bal (N + 2) := by
 obtain ⟨len, ok, s, h1, h2⟩ := b;cases f with
 | true =>
  refine ⟨by simp at h ⊢; omega, fun d hd => ?_, ⟨unitM, s.m :: s.stk⟩, by rw [vS, h1]; rfl, by simp at h ⊢; omega⟩
  rcases dD.mp hd with hd | hd
  ·exact ok d hd
  ·rw [bI.mp hd]; trivial
 | false => exact ⟨by simp at h ⊢; omega, by simpa using ok, s, by simpa using h1, by simp at h ⊢; omega⟩
theorem Bal.le {N M : Nat} {m : Lm} (b : Bal N m) (h : N <= M) : Bal M m := ⟨by have := b.len; omega, b.ok, b.nest⟩
theorem BF {N : Nat} {m m' : Lm} (b : Bal N m) (h1 : m'.deeds = m.deeds) (h2 : nest m'.todo = nest m.todo) : Bal N m' := ⟨by rw [h1, h2]; exact b.len, by rw [h1]; exact b.ok, by
 obtain ⟨s, h3, h4⟩ := b.nest;exact ⟨s, by rw [h1]; exact h3, by rw [h2]; exact h4⟩⟩
theorem Qq {N : Nat} {bs : List (List Stt)} {many : Int} {m m' : Lm} {t : LT} {r blk : List LT} (ht : t.Ok many) (b : Bal N m) (e : m.todo = t :: r) (h : cK bs t { m with todo := r } = .ok blk m') : Bal (N + 2) { m' with todo := blk ++ m'.todo } := by
 cases t with
 | shut =>
  cases h;refine Bal.le (N := N) ?_ (by omega)
  exact zC (n := 1) (td := r) b (by rw [e, nest]; omega)
 | out c w =>
  unfold cK at h;dsimp only at h;split at h
  ·cases h
   have := Wa (f := c.2.1) (td := iM (if w = 0 then c.2.2.1 else c.2.2.2) ++ r) b (by rw [e, nest, pG]; omega)
   refine Bal.le (N := N) ?_ (by omega)
   exact BF this rfl rfl
  ·cases h
 | st s =>
  cases s with
  | bad => cases h
  | odd x => cases h
  | cmd c =>
   cases h;obtain ⟨len, ok, s, h1, h2⟩ := b;rw [e, nest] at len;refine ⟨by simp; omega, fun d hd => ?_, ⟨tD s.m c.mat, s.stk⟩, by rw [vS, h1]; rfl, by rw [e, nest] at h2; exact h2⟩
   rcases dD.mp hd with hd | hd
   ·exact ok d hd
   ·rw [bI.mp hd]; exact SG.cmd ht
  | keep b' =>
   cases h;have := Qr (f := true) (td := iM b' ++ [.shut] ++ r) b (by rw [e, dG, pG]; simp [nest])
   exact this
  | either x y =>
   unfold cK at h;dsimp only at h;split at h
   ·cases h
   ·rename_i q
    cases h;obtain ⟨h1, h2, _⟩ := vK q;refine Bal.le (N := N) ?_ (by omega)
    exact BF b h2 (by dsimp only; rw [pG, h1, e, nest])
  | again b' =>
   unfold cK at h;dsimp only at h;split at h
   ·cases h
   ·rename_i q
    cases h;obtain ⟨h1, h2, _⟩ := vK q;refine Bal.le (N := N) (BF b h2 ?_) (by omega)
    dsimp only;rw [h1, e];split
    ·rfl
    ·rw [dG, pG]; rfl
  | call g f x y =>
   unfold cK at h;dsimp only at h;split at h
   ·cases h
   ·split at h
    ·rename_i z hz
     cases h;have := Qr (f := f) (td := iM z ++ [.out (g, f, x, y) 0] ++ r) b (by rw [e, dG, pG]; simp [nest])
     exact BF this rfl rfl
    ·cases h
  | fin w =>
   unfold cK at h;dsimp only at h;split at h
   ·rename_i ds c r' q
    cases h;obtain ⟨h1, h2⟩ := Ee q;rw [h1];refine Bal.le (N := N) ?_ (by omega)
    exact zC (n := ds.length) (td := [.out c w] ++ r') b (by rw [e]; simp only [bW, bT, nest]; exact h2)
   ·cases h
theorem LZ {bs : List (List Stt)} {many : Int} (hG : ∀ b ∈ bs, BG many b) : ∀ (k : Nat) (m : Lm) (N : Nat), m.Inv many k -> Bal N m -> ∀ m', cW bs k m = .fin m' -> Bal (N + 2 * k) m' /\ m'.Inv many 0 /\ m'.todo = []
 | 0, m, N, I, b, m', h => by
  unfold cW at h;split at h
  ·cases h; exact ⟨b, I, by assumption⟩
  ·cases h
 | k + 1, m, N, I, b, m', h => by
  unfold cW at h;split at h
  ·rename_i q
   cases h;exact ⟨b.le (by omega), ⟨I.T, I.bit, I.t, by have := I.b; omega, by have := I.o; omega, by have := I.d; omega⟩, q⟩
  ·rename_i t r q
   split at h
   ·rename_i q2
    have := LZ hG k _ (N + 2) (hI hG (I.pop q).1 (I.pop q).2 q2) (Qq (I.pop q).2 b q q2) _ h;exact ⟨this.1.le (by omega), this.2⟩
   ·split at h <;> cases h
   ·cases h
theorem Good2.bg {bs : List (List Stt)} (G : Good2 bs) : ∀ b ∈ bs, BG (bs.length : Int) b := fun b hb => by
 obtain ⟨h1, h2, h3, h4⟩ := G.gd b hb;exact ⟨h2, fun s hs => ⟨3, by omega, Kj h1 s hs, bY (h4 s hs) (by decide), lb_S (h4 s hs)⟩⟩
structure Ran (N : Nat) (m : Lm) : Prop where
 ok : ∀ d ∈ m.deeds, d.Ok
 len : m.deeds.length <= N
 mat : ∃ s, lY m.deeds ⟨unitM, []⟩ = some s /\ s.stk = []
 bit : ∀ b ∈ m.bits, b = 0 \/ b = 1
 bits : m.bits.length < 90000
 tk : m.taken <= m.bits.length
def Says (N : Nat) (bs : List (List Stt)) (p : Nat) : LF -> Prop
 | .fin m => Ran N m /\ ∀ S, LS S -> bU [.dat (fF bs), .dat (.int (p : Int)), .dat (.lst (m.bits.map D.int))] S = if m.taken < m.bits.length then .err (mI (m.taken : Int)) S else .ok (.dat (.tup [.int m.way, .lst (m.deeds.map Deed.d)])) S
 | .never m => ∀ S, LS S -> bU [.dat (fF bs), .dat (.int (p : Int)), .dat (.lst (m.bits.map D.int))] S = .err (mI (-2)) S
 | .short m => ∀ S, LS S -> bU [.dat (fF bs), .dat (.int (p : Int)), .dat (.lst (m.bits.map D.int))] S = .err (mI (m.bits.length : Int)) S
 | .long _ => True
 | .no _ => False
theorem Ran.le {N M : Nat} {m : Lm} (h : Ran N m) (k : N <= M) : Ran M m := ⟨h.ok, bY h.len k, h.mat, h.bit, h.bits, h.tk⟩
theorem Says.le {N M : Nat} {bs : List (List Stt)} {p : Nat} {x : LF} (h : Says N bs p x) (k : N <= M) : Says M bs p x := by
 cases x with
 | fin m => exact ⟨h.1.le k, h.2⟩
 | _ => exact h
theorem Gp {bs : List (List Stt)} {many : Int} (hG : ∀ b ∈ bs, BG many b) : ∀ (k : Nat) (m : Lm), m.Inv many k -> ∀ b ∈ (cW bs k m).bits, b = 0 \/ b = 1
 | 0, m, I => by
  unfold cW
  split <;> exact I.bit
 | k + 1, m, I => by
  unfold cW;split
  ·exact I.bit
  ·rename_i t r q
   split
   ·rename_i q2
    exact Gp hG k _ (hI hG (I.pop q).1 (I.pop q).2 q2)
   ·rename_i q2
    have := Dz q2;subst this
    split <;> exact I.bit
   ·exact I.bit
theorem Oa {bs : List (List Stt)} {p ex K : Nat} {bits : List Int} (G : Good2 bs) (hp : p < bs.length) (hb : ∀ b ∈ bits, b = 0 \/ b = 1) (hl : bits.length < 40000) (hK : K <= 20000) :
  (∀ m, cW bs (K + 1) (eN p bits ex) ≠ .no m) /\ Says (2 * K) bs p (cW bs (K + 1) (eN p bits ex)) := by
 have hG := G.bg;have h3 := G.l3;obtain ⟨b, hpb⟩ : ∃ b, bs[p]? = some b := ⟨bs[p], cG hp⟩;have I := C4 (ex := ex) (many := (bs.length : Int)) (p := p) (k := K + 1) (by omega) hb hl (by omega)
 have tq : cK bs (.st (.call (p : Int) false [] [])) { (eN p bits ex) with todo := [] } = .ok (iM b ++ [.out ((p : Int), false, [], []) 0]) { (eN p bits ex) with todo := [], opens := [(p, 0)] } := by
  unfold cK;dsimp only;rw [kU, hpb];rfl
 have I1 := hI hG (I.pop rfl).1 (I.pop rfl).2 tq;have hlr : cW bs (K + 1) (eN p bits ex) = cW bs K { (eN p bits ex) with todo := (iM b ++ [.out ((p : Int), false, [], []) 0]) ++ [], opens := [(p, 0)] } := by
  rw [cW]
  show (match cK bs (.st (.call (p : Int) false [] [])) { (eN p bits ex) with todo := [] } with
   | .ok blk m' => cW bs K { m' with todo := blk ++ m'.todo }
   | .non m' => if isCall (.st (.call (p : Int) false [] [])) = true then .never m' else .short m'
   | .no => .no (eN p bits ex)) = _
  rw [tq]
 have S1 : Sim bs (cW bs (K + 1) (eN p bits ex)).bits p { (eN p bits ex) with todo := (iM b ++ [.out ((p : Int), false, [], []) 0]) ++ [], opens := [(p, 0)] } (startM bs (cW bs (K + 1) (eN p bits ex)).bits p b) := by
  refine ⟨rfl, rfl, rfl, rfl, ?_, rfl, ?_, ?_, ?_, ?_, .inl ⟨rfl, rfl⟩⟩
  ·simp [startM, Mc.enter, zG, flat, mO]
  ·rw [Em hp]
   simp [startM, Mc.enter, zG, wM]
   congr 1
   apply fV
   intro i
   by_cases hi : i < bs.length <;> simp [hi]
  ·intro o ho
   rw [bI.mp ho];exact hp
  ·exact List.pairwise_singleton _ _
  ·intro o ho
   rw [bI.mp ho];exact gL _
 obtain ⟨j, hj, he⟩ := RW rfl hG K _ _ S1 I1 (by rw [<- hlr])
 rw [<- hlr] at he;have hj' : j <= 100000 := by
  have : (startM bs (cW bs (K + 1) (eN p bits ex)).bits p b).stk.length = 2 := rfl;omega
 have hbit := Gp hG (K + 1) _ I;have B1 : Bal 0 { (eN p bits ex) with todo := (iM b ++ [.out ((p : Int), false, [], []) 0]) ++ [], opens := [(p, 0)] } := ⟨by dsimp only; rw [cY, pG]; exact cE _, fun d hd => (by cases hd), ⟨unitM, []⟩, rfl, by dsimp only; rw [cY, pG]; rfl⟩
 have hbal := LZ hG K _ 0 I1 B1;rw [<- hlr] at hbal;have xq := fun (S : aO) (ls : LS S) h => TR (S0 := S) (k := j) (bits := (cW bs (K + 1) (eN p bits ex)).bits) ls G hpb hbit hj' h
 have key : (∀ m, cW bs (K + 1) (eN p bits ex) ≠ .no m) /\ Says (2 * K) bs p (cW bs (K + 1) (eN p bits ex)) := by
  revert he xq hbit hbal
  generalize cW bs (K + 1) (eN p bits ex) = x;intro he hbit hbal xq;cases x with
  | no m => exact he.elim
  | long m => exact ⟨fun m h => (by cases h), trivial⟩
  | never m =>
   obtain ⟨c', e⟩ := he;refine ⟨fun m h => (by cases h), fun S ls => ?_⟩
   have := xq S ls (by simp only [LF.bits] at e ⊢; rw [e]; intro h; cases h)
   simp only [LF.bits] at this e;rw [e] at this;exact this
  | short m =>
   obtain ⟨c', e⟩ := he;refine ⟨fun m h => (by cases h), fun S ls => ?_⟩
   have := xq S ls (by simp only [LF.bits] at e ⊢; rw [e]; intro h; cases h)
   simp only [LF.bits] at this e;rw [e] at this;exact this
  | fin m =>
   obtain ⟨c', e, e1, e2, e3⟩ := he;obtain ⟨b1, i1, t1⟩ := hbal _ rfl;obtain ⟨s, hs1, hs2⟩ := b1.nest;refine ⟨fun m h => (by cases h), ⟨b1.ok, by have := b1.len; omega, ⟨s, hs1, by rw [t1] at hs2; exact List.length_eq_zero_iff.mp hs2⟩, hbit, by have := i1.b; simp at this; omega, i1.t⟩, fun S ls => ?_⟩
   have h := xq S ls (by simp only [LF.bits] at e ⊢; rw [e]; intro h; cases h)
   simp only [LF.bits] at h e;rw [e] at h;rw [h];have hb' := (Dk e).1;unfold Qv;dsimp only;rw [hb', e1, e2, e3];rfl
 exact key
theorem Fe {S : aO} {bs : List (List Stt)} {p ex : Nat} {bits : List Int} (ls : LS S) (G : Good2 bs) (hp : p < bs.length) (hb : ∀ b ∈ bits, b = 0 \/ b = 1) (hl : bits.length < 40000) :
  yT [.dat (.lst (bls bs)), .dat (.int (p : Int)), .dat (.lst (bits.map D.int)), .dat (.int (ex : Int))] S = jO (cW bs 3000 (eN p bits ex)) S /\ Says 6000 bs p (cW bs 3000 (eN p bits ex)) := by
 have h3 := G.l3;have key := Oa (ex := ex) (K := 2999) G hp hb hl (by decide)
 exact ⟨SF ls (by omega) G.bg (by omega) hb hl key.1, key.2.le (by decide)⟩
theorem Lo {p : Nat} {a1 : Option Vl} : ∀ (ds : List D) (S : aO) (ks : List Int), PoolAt S p ks ->
  ∃ (xs : List Int) (ks' : List Int), iJ (.nm 2) gO (bE cS (aB (aC 0) (aB (mC (.int 2)) aL))) [some (.cel p), a1, none] ds S = .ok (xs.map D.int) (S.set p (PL ks')) /\ xs.length = ds.length /\ (∀ x ∈ xs, x = 0 \/ x = 1) /\ ks'.length = ks.length
 | [], S, ks, h => ⟨[], ks, by rw [Fj h]; rfl, rfl, (fun x hx => by cases hx), rfl⟩
 | d :: r, S, ks, h => by
  obtain ⟨x, k1, e1, h0, h1, l1⟩ := gA h (k := 2) (by decide) (by decide)
  obtain ⟨xs, k2, e2, hl, hxs, l2⟩ := Lo (a1 := a1) r _ _ (h.next l1);rw [gI] at e2;refine ⟨x :: xs, k2, ?_, by simp [hl], fun y hy => ?_, by omega⟩
  ·rw [iJ]
   simp only [pR, Lz, if_true];simp! [e1];rw [e2];rfl
  ·rcases aY.mp hy with rfl | hy
   ·omega
   ·exact hxs y hy
theorem Tq {S : aO} {p : Nat} {ks : List Int} {many : Int} (hP : PoolAt S p ks) (h0 : 0 <= many) (h1 : many <= 100) : ∃ (bits : List Int) (ks' : List Int), Ag [.cel p, .dat (.int many)] S = .ok (.dat (.lst (bits.map D.int))) (S.set p (PL ks')) /\ (∀ b ∈ bits, b = 0 \/ b = 1) /\ (bits.length : Int) <= many /\ ks'.length = ks.length := by
 obtain ⟨d, k1, e1, d0, d1, l1⟩ := gA hP (k := many + 1) (by omega) (by omega)
 obtain ⟨bits, k2, e2, hl, hb, l2⟩ := Lo (a1 := some (.dat (.int many))) (iC 0 d.toNat) _ _ (hP.next l1);have hl' : bits.length = d.toNat := by rw [hl]; simp [iC]
 rw [gI] at e2;rw [RC];unfold BO;have e3 : zK false (.nm 2) gO (bE cS (aB (aC 0) (aB (mC (.int 2)) aL))) [some (.cel p), some (.dat (.int many)), none] [2] (iC 0 d.toNat) (S.set p (PL k1)) = .ok (.dat (.lst (bits.map D.int))) (S.set p (PL k2)) := by
  unfold zK;rw [if_pos (sz (by simp [iC]; omega)), show wipeE [some (Vl.cel p), some (.dat (.int many)), none] [2] = [some (Vl.cel p), some (.dat (.int many)), none] from rfl, e2]
  rfl
 simp! [e1, kP (show -(2 ^ 62) <= d by omega) (show d < 2 ^ 62 by omega), e3]
 exact ⟨bits, k2, rfl, hb, by omega, by omega⟩
theorem K4 {S : aO} {p0 p ex : Nat} {ks : List Int} {bs : List (List Stt)} {many : Int} (hP : PoolAt S p0 ks) (ls : LS S) (G : Good2 bs) (hp : p < bs.length) (h0 : 0 <= many) (h1 : many <= 100) :
  ∃ (bits : List Int) (ks' : List Int), pI [.cel p0, .dat (.lst (bls bs)), .dat (.int (p : Int)), .dat (.int many), .dat (.int (ex : Int))] S = jO (cW bs 3000 (eN p bits ex)) (S.set p0 (PL ks')) /\ Says 6000 bs p (cW bs 3000 (eN p bits ex)) /\ (∀ b ∈ bits, b = 0 \/ b = 1) /\ (bits.length : Int) <= many /\ ks'.length = ks.length := by
 obtain ⟨bits, k1, e1, hb, hl, l1⟩ := Tq hP h0 h1;have ls1 : LS (S.set p0 (PL k1)) := ls.set;obtain ⟨r1, s1⟩ := Fe (ex := ex) ls1 G hp hb (by omega)
 rw [Jr];unfold tG;cases q : cW bs 3000 (eN p bits ex) with
 | no m => rw [q] at s1; exact s1.elim
 | never m =>
  rw [q] at s1 r1;refine ⟨bits, k1, ?_, by rw [q]; exact s1, hb, hl, l1⟩
  simp only [jO, oF] at r1;simp! [e1, r1, cO];rw [q];rfl
 | short m =>
  rw [q] at s1 r1;refine ⟨bits, k1, ?_, by rw [q]; exact s1, hb, hl, l1⟩
  simp only [jO, oF] at r1;simp! [e1, r1, cO];rw [q];rfl
 | long m =>
  rw [q] at s1 r1;refine ⟨bits, k1, ?_, by rw [q]; exact s1, hb, hl, l1⟩
  simp only [jO] at r1;simp! [e1, r1, cO];rw [q];rfl
 | fin m =>
  rw [q] at s1 r1
  by_cases ht : m.taken < m.bits.length
  ·have hb2 : ∀ b ∈ bits.take m.taken, b = 0 \/ b = 1 := fun b h => hb b (lE h)
   obtain ⟨r2, s2⟩ := Fe (ex := ex) ls1 G hp hb2 (by simp; omega)
   refine ⟨bits.take m.taken, k1, ?_, s2, hb2, by simp; omega, l1⟩
   simp only [jO, oF, if_pos ht] at r1;rw [Ba] at r2;simp! [e1, r1, cO, eZ, Qi, r2];cases q2 : cW bs 3000 (eN p (bits.take m.taken) ex) with
   | no m => rw [q2] at s2; exact s2.elim
   | fin m => unfold jO; dsimp only; split <;> (simp! [if_true]; rfl)
   | _ => unfold jO; simp! [if_true]; rfl
  ·refine ⟨bits, k1, ?_, by rw [q]; exact s1, hb, hl, l1⟩
   simp only [jO, oF, if_neg ht] at r1;simp! [e1, r1, cO];rw [q];simp only [jO, if_neg ht];rfl
structure RunOf (N : Nat) (m : Lm) (p' : Pen -> Ps) (M : List Int) : Prop where
 ok : ∀ d ∈ m.deeds, d.Ok
 len : m.deeds.length <= N
 big : N <= 90000
 mat : ∃ s, lY m.deeds ⟨unitM, []⟩ = some s /\ s.stk = [] /\ s.m = M
 pens : ∀ z, lC m.deeds ⟨[], z, []⟩ = some (p' z)
 of : MatOf (fun z => (p' z).z) M
 num : ∀ z, (p' z).pens.length = oG m.deeds
theorem Ran.all {N : Nat} {m : Lm} (R : Ran N m) (hN : N <= 90000 := by decide) : ∃ p' M, RunOf N m p' M := by
 obtain ⟨s, hm, hk⟩ := R.mat;obtain ⟨p', hp, hM, hn⟩ := Nc R.ok hm hk;exact ⟨p', s.m, R.ok, R.len, hN, ⟨s, hm, hk, rfl⟩, hp, hM, hn⟩
section
variable {N : Nat} {m : Lm} {p' : Pen -> Ps} {M : List Int} {S : aO} {x0 x1 x2 : Vl}
theorem RunOf.ran (R : RunOf N m p' M) (ls : LS S) (ex : bU [x0, x1, x2] S = .ok (.dat (.tup [.int m.way, .lst (m.deeds.map Deed.d)])) S) (z : Pen) : xQ [x0, x1, x2, .dat z.d] S = .ok (.dat (.tup [.int m.way, (p' z).z.d, .int (oG m.deeds : Int)])) S := by
 have := R.len;have := R.big;rw [V2 (z := z) ls ex R.ok (R.pens z) (by omega), R.num]
theorem RunOf.lpens (R : RunOf N m p' M) (ls : LS S) (z : Pen) : xR [.dat (.lst (m.deeds.map Deed.l)), .dat z.d] S = .ok (.dat (.lst [.lst ((p' z).pens.map Pen.d), (p' z).z.d])) S := by
 have := R.len;have := R.big;exact P9 ls R.ok (R.pens z) (by omega)
end
theorem Iw {s : Stt} {m m' : Lm} {b : Int} (h : tV s m = some (b, m')) : m'.bits.length + m'.extra = m.bits.length + m.extra := by
 unfold tV at h;split at h
 ·split at h
  ·cases h
  ·rename_i e; cases h; simp [e]; omega
 ·split at h
  ·cases h; rfl
  ·cases h
theorem OL {bs : List (List Stt)} {t : LT} {m m' : Lm} {blk : List LT} (h : cK bs t m = .ok blk m') : m'.bits.length + m'.extra = m.bits.length + m.extra := by
 cases t with
 | shut => cases h; rfl
 | out c w =>
  unfold cK at h;dsimp only at h;split at h
  ·cases h; rfl
  ·cases h
 | st s =>
  cases s with
  | bad => cases h
  | odd x => cases h
  | cmd c => cases h; rfl
  | keep b => cases h; rfl
  | either x y =>
   unfold cK at h;dsimp only at h;split at h
   ·cases h
   ·rename_i q; cases h; exact Iw q
  | again b =>
   unfold cK at h;dsimp only at h;split at h
   ·cases h
   ·rename_i q; cases h; exact Iw q
  | call g f x y =>
   unfold cK at h;dsimp only at h;split at h
   ·cases h
   ·split at h
    ·cases h; rfl
    ·cases h
  | fin w =>
   unfold cK at h;dsimp only at h;split at h
   ·cases h; rfl
   ·cases h
theorem fL {t : Tg} {m : FS} {d : PH.D} {ds : List PH.D} {ρ ρ1 ρ2 : Ev} {S S2 : aO} (h : pR t (.dat d) ρ = some ρ1) (e : m ρ1 S = .next ρ2 S2) : loop t m (d :: ds) ρ S = loop t m ds ρ2 S2 := by
 rw [loop, h];dsimp only;rw [e]
theorem UY {n : L5} {ρ : Ev} {S : aO} : Ls n (.next ρ S) = n ρ S := rfl
theorem Md {S : aO} {x0 x1 x2 : Vl} {w : Int} {ds : List Deed} {z : Pen} {s' : Ps} (ls : LS S) (he : bU [x0, x1, x2] S = .ok (.dat (.tup [.int w, .lst (ds.map Deed.d)])) S) (ok : ∀ d ∈ ds, d.Ok) (h : lC ds ⟨[], z, []⟩ = some s') (hl : ds.length <= 900000) (hp : s'.pens.length <= 900000) :
  nZ [x0, x1, x2, .dat z.d] S = .ok (s'.pens.map Pen.d) S := by
 have yf : kYf (.dat (.lst (s'.pens.map Pen.d))) S = .ok (s'.pens.map Pen.d) S := if_pos (by rw [aP]; omega)
 rw [CI];unfold qX;simp! [Kk, UY, g_yf, he, J5, UH ls ok h hl, yf]
theorem UZ {n : L5} {e : Er} {ρ : Ev} {S : aO} : Ls n (.err e ρ S) = .err e S := rfl
theorem K3 {S : aO} {x0 x1 x2 x3 : Vl} {e : Er} (he : bU [x0, x1, x2] S = .err e S) : nZ [x0, x1, x2, x3] S = .err e S := by
 rw [CI];unfold qX;simp! [Kk, UZ, he]
theorem WW {a0 a1 a2 a3 a4 a5 a6 : Option Vl} {zs : List D} : ∃ x, GD [a0, a1, a2, a3, a4, a5, a6] 5 zs = [a0, a1, a2, a3, a4, x, a6] := by
 unfold GD;split
 ·exact ⟨_, rfl⟩
 ·exact ⟨_, rfl⟩
theorem QO {cs : List Str} {ix il : Nat} {ρ : Ev} {T : aO} {zs : List D} (hρ : ρ[il]? = some (some (.cel T.length))) (hz : zs.length <= 900000) : EH cs ix il ρ (.ok zs (T ++ [.lst []])) = .next (GD ρ ix zs) (T ++ [.lst zs]) := by
 unfold EH;rw [hρ];dsimp only;rw [wD];dsimp only;rw [if_pos (show ([] : List D).length + zs.length <= sizeLine from bY (show 0 + zs.length <= 1000000 by omega) (by decide)), Ic, bT]
def BQ (n : Nat) (d : D) : Prop := ∀ S : aO, eL n [.dat d, .dat d] S = .ok (.dat (.bl true)) S
theorem N1 {n : Nat} {xs : List D} (hl : xs.length <= 900000) (h : ∀ x ∈ xs, BQ n x) : BQ (n + 1) (.lst xs) := fun S => by
 rw [show eL (n + 1) [.dat (.lst xs), .dat (.lst xs)] S = cC (lM (eL n) [some (.dat (.lst xs)), some (.dat (.lst xs)), none] S) from rfl]
 unfold lM;simp! [kP (show -(2 ^ 62) <= (xs.length : Int) by omega) (show (xs.length : Int) < 2 ^ 62 by omega), iC, kU]
 rw [jV (g := fun _ => D.bl true) (by simpa using (bY hl (by decide) : xs.length <= sizeLine)) fun i hi => ⟨_, rfl, ?_⟩]
 ·simp! [if_true]
  rw [all_true];rfl
 ·have hi' : i < xs.length := eR.mp hi
  have hx : xs[i]? = some xs[i] := cG hi';exact LX (n := n) hx (wH (by rw [hY (n := i) (by omega), hx])) (h _ (pY hi') S)
theorem uC {n : Nat} {xs : List D} (hl : xs.length <= 900000) (h : ∀ x ∈ xs, BQ n x) : BQ (n + 1) (.tup xs) := fun S => by
 rw [show eL (n + 1) [.dat (.tup xs), .dat (.tup xs)] S = cC (lM (eL n) [some (.dat (.tup xs)), some (.dat (.tup xs)), none] S) from rfl]
 unfold lM;simp! [kP (show -(2 ^ 62) <= (xs.length : Int) by omega) (show (xs.length : Int) < 2 ^ 62 by omega), iC, kU]
 rw [jV (g := fun _ => D.bl true) (by simpa using (bY hl (by decide) : xs.length <= sizeLine)) fun i hi => ⟨_, rfl, ?_⟩]
 ·simp! [if_true]
  rw [all_true];rfl
 ·have hi' : i < xs.length := eR.mp hi
  have hx : xs[i]? = some xs[i] := cG hi';exact LX (n := n) hx (G5 (by rw [hY (n := i) (by omega), hx])) (h _ (pY hi') S)
theorem Bm {n : Nat} {z : Str} : BQ (n + 1) (.str z) := fun S => by
 rw [show eL (n + 1) [.dat (.str z), .dat (.str z)] S = cC (lM (eL n) [some (.dat (.str z)), some (.dat (.str z)), none] S) from rfl]
 unfold lM;simp! [if_true];rfl
theorem yP {n : Nat} {z : Int} : BQ (n + 1) (.int z) := fun S => by
 rw [show eL (n + 1) [.dat (.int z), .dat (.int z)] S = cC (lM (eL n) [some (.dat (.int z)), some (.dat (.int z)), none] S) from rfl]
 unfold lM;simp! [if_true];rfl
theorem Fb {n : Nat} {z : Pen} : BQ (n + 2) z.d := uC (xs := z.ds) (by show 6 <= 900000; omega) fun x hx => by
 simp only [Pen.ds, aY, dE, or_false] at hx;rcases hx with rfl | rfl | rfl | rfl | rfl | rfl <;> exact yP
theorem K8 {n : Nat} {l : List Pen} (hl : l.length <= 900000) : BQ (n + 3) (.lst (l.map Pen.d)) := N1 (by rw [aP]; exact hl) fun x hx => by
 obtain ⟨z, _, rfl⟩ := oI.mp hx;exact Fb
theorem yX : ∀ ds : List Deed, oG ds <= ds.length
 | [] => cE _
 | .cmd c :: r => by have := yX r; show oG r + 1 <= r.length + 1; omega
 | .op :: r => by have := yX r; show oG r <= r.length + 1; omega
 | .cl :: r => by have := yX r; show oG r <= r.length + 1; omega
theorem Uq {l : List Pen} {S : aO} (hl : l.length <= 6000) : eL 20 [.dat (.tup [.str "told", .lst (l.map Pen.d)]), .dat (.tup [.str "told", .lst (l.map Pen.d)])] S = .ok (.dat (.bl true)) S :=
 uC (n := 19) (by simp) (fun x hx => by
  simp only [aY, dE, or_false] at hx;rcases hx with rfl | rfl
  ·exact Bm
  ·exact K8 (by omega)) S
structure Dt (p q N : Nat) (S : aO) (r : Int) : Prop where
 ls : LS S
 n2 : 2 <= N
 pool : ∃ ks, S[p]? = some (PL ks) /\ ks.length = N
 room : S[q]? = some (PL [r])
 pq : p ≠ q
section
variable {p q N : Nat} {r : Int} {S : aO}
theorem Dt.setp {ks : List Int} (D : Dt p q N S r) (h : ks.length = N) : Dt p q N (S.set p (PL ks)) r := by
 obtain ⟨k0, h0, _⟩ := D.pool;exact ⟨D.ls.set, D.n2, ⟨ks, Bi h0, h⟩, by rw [Gf D.pq]; exact D.room, D.pq⟩
theorem Dt.setq {r' : Int} (D : Dt p q N S r) : Dt p q N (S.set q (PL [r'])) r' := by
 obtain ⟨k0, h0, h1⟩ := D.pool;exact ⟨D.ls.set, D.n2, ⟨k0, by rw [Gf (Ne.symm D.pq)]; exact h0, h1⟩, Bi D.room, D.pq⟩
theorem Dt.draw {k : Int} (D : Dt p q N S r) (h0 : 0 < k) (h1 : k < 1073741824) : ∃ (d : Int) (S' : aO), cS [.cel p, .dat (.int k)] S = .ok (.dat (.int d)) S' /\ 0 <= d /\ d < k /\ Dt p q N S' r /\ Sam [p, q] S S' := by
 obtain ⟨ks, hk, hl⟩ := D.pool;obtain ⟨d, ks', e, h2, h3, l⟩ := gA (S := S) (p := p) (ks := ks) ⟨hk, by rw [hl]; exact D.n2⟩ h0 h1
 exact ⟨d, _, e, h2, h3, D.setp (by omega), Sam.set (by simp)⟩
theorem Dt.cmd (D : Dt p q N S r) : ∃ (c : Cmd) (S' : aO), jI [.cel p] S = .ok (.dat c.d) S' /\ c.Ok /\ Dt p q N S' r /\ Sam [p, q] S S' := by
 obtain ⟨ks, hk, hl⟩ := D.pool;obtain ⟨c, ks', e, h2, l⟩ := L0 (S := S) (p := p) (ks := ks) ⟨hk, by rw [hl]; exact D.n2⟩
 exact ⟨c, _, e, h2, D.setp (by omega), Sam.set (by simp)⟩
theorem Dt.ixq (D : Dt p q N S r) : cH (.cel q) (.dat (.int 0)) S = .ok (.dat (.int r)) S := sX (k := 0) (n := 0) D.room rfl rfl
theorem Dt.app {c : Cell} (D : Dt p q N S r) (hc : ∀ n, c.below n = true) : Dt p q N (S ++ [c]) r := by
 obtain ⟨k0, h0, h1⟩ := D.pool;refine ⟨fun x hx n => ?_, D.n2, ⟨k0, by rw [aJ (aH.mp h0).1]; exact h0, h1⟩, by rw [aJ (aH.mp D.room).1]; exact D.room, D.pq⟩
 rcases dD.mp hx with h | h
 ·exact D.ls x h n
 ·rw [bI.mp h]; exact hc n
theorem yQ {c : Cell} {S1 : aO} (D : Dt p q N S r) {r' : Int} (h : Sam [p, q] (S ++ [c]) S1) (D1 : Dt p q N S1 r') : ∃ T, S1 = T ++ [c] /\ Sam [p, q] S T /\ Dt p q N T r' := by
 obtain ⟨k0, h0, h1⟩ := D.pool;have hp := (aH.mp h0).1;have hq := (aH.mp D.room).1;have hl : S1.length = S.length + 1 := by rw [h.1]; simp
 have hlast : S1[S.length]? = some c := by
  rw [h.2 S.length (by simp; omega)]
  simp
 have e : S1 = S1.take S.length ++ [c] := by
  apply fV
  intro i
  by_cases hi : i < S.length
  ·rw [aJ (by rw [cX]; omega), mP hi]
  ·by_cases hi2 : i = S.length
   ·subst hi2
    rw [hlast, bC (by rw [cX]; omega), cX, show S.length - min S.length S1.length = 0 by omega]
    rfl
   ·rw [cJ (by omega), cJ (by rw [bP, cX, MU]; omega)]
 refine ⟨S1.take S.length, e, ⟨by rw [cX]; omega, fun i hi => ?_⟩, ?_⟩
 ·by_cases hlt : i < S.length
  ·rw [mP hlt, h.2 i hi, aJ hlt]
  ·rw [cJ (by rw [cX]; omega), cJ (by omega)]
 ·obtain ⟨k1, g0, g1⟩ := D1.pool
  exact ⟨fun x hx n => D1.ls x (lE hx) n, D.n2, ⟨k1, by rw [mP hp]; exact g0, g1⟩, by rw [mP hq]; exact D1.room, D.pq⟩
end
theorem yZ {xs : List D} : ∀ n, Cell.below n (.lst xs) = true := fun _ => rfl
def Hc (n : Nat) : Prop := ∀ {p q N : Nat} {S : aO} {r many lv low : Int}, Dt p q N S r -> 0 <= lv -> lv <= 3 -> 0 <= low -> 0 < r -> r <= 6 -> 1 <= many -> many <= 3 -> 2 * (3 - lv.toNat) + 1 <= n ->
 ∃ (s : Stt) (S' : aO) (r' : Int), kD n [.cel p, .dat (.int lv), .cel q, .dat (.int many), .dat (.int low)] S = .ok (.dat s.d) S' /\ Dt p q N S' r' /\ Sam [p, q] S S' /\ 0 <= r' /\ (s.size : Int) + r' <= r /\ s.Gd many (3 - lv.toNat)
def L1 (n : Nat) : Prop := ∀ {p q N : Nat} {S : aO} {r many lv low : Int}, Dt p q N S r -> 0 <= lv -> lv <= 3 -> 0 <= low -> 0 <= r -> r <= 6 -> 1 <= many -> many <= 3 -> 2 * (3 - lv.toNat) + 2 <= n ->
 ∃ (l : List Stt) (S' : aO) (r' : Int), mX n [.cel p, .dat (.int lv), .cel q, .dat (.int many), .dat (.int low)] S = .ok (.dat (.lst (bR l))) S' /\ Dt p q N S' r' /\ Sam [p, q] S S' /\ 0 <= r' /\ (cQ l : Int) + r' <= r /\ GdL many l (3 - lv.toNat)
theorem MM {l : List Stt} {s : Stt} : bR l ++ [s.d] = bR (l ++ [s]) := by rw [JZ]; rfl
theorem Pt {many : Int} {l : List Stt} {s : Stt} {n : Nat} (h : GdL many l n) (g : s.Gd many n) : GdL many (l ++ [s]) n := h.app ⟨g, trivial⟩
theorem AJ {l : List Stt} {s : Stt} : cQ (l ++ [s]) = cQ l + s.size := by rw [FP]; simp [cQ]
theorem Gc {n : Nat} (ih : Hc n) {p q N : Nat} {many lv low : Int} (l0 : 0 <= lv) (l3 : lv <= 3) (lo : 0 <= low) (m1 : 1 <= many) (m3 : many <= 3) (hn : 2 * (3 - lv.toNat) + 1 <= n) :
  ∀ (is : List D) (acc : List Stt) (S : aO) (r : Int), Dt p q N S r -> 0 <= r -> r <= 6 -> (cQ acc : Int) + r <= 6 -> GdL many acc (3 - lv.toNat) ->
   ∃ (acc' : List Stt) (S' : aO) (r' : Int), loop (.nm 6) (iE (kD n)) is [some (.cel p), some (.dat (.int lv)), some (.cel q), some (.dat (.int many)), some (.dat (.int low)), some (.cel S.length), none] (S ++ [.lst (bR acc)]) =
    .next [some (.cel p), some (.dat (.int lv)), some (.cel q), some (.dat (.int many)), some (.dat (.int low)), some (.cel S.length), none] (S' ++ [.lst (bR acc')]) /\ Dt p q N S' r' /\ Sam [p, q] S S' /\ 0 <= r' /\ (cQ acc' : Int) + r' <= cQ acc + r /\ GdL many acc' (3 - lv.toNat)
 | [], acc, S, r, D, r0, r6, hs, g => ⟨acc, S, r, rfl, D, Sam.refl, r0, Int.le_refl _, g⟩
 | i :: is, acc, S, r, D, r0, r6, hs, g => by
  have Da := D.app (c := .lst (bR acc)) yZ;have hlen := gR acc
  by_cases hr : 0 < r
  ·obtain ⟨s, S1, r1, e1, D1, s1, h10, h11, g1⟩ := ih Da l0 l3 lo hr r6 m1 m3 hn
   obtain ⟨T, rfl, s2, DT⟩ := yQ D s1 D1;have hl : T.length = S.length := s2.1;obtain ⟨acc', S', r', e2, D2, s3, h20, h21, g2⟩ := Gc ih (p := p) (q := q) (N := N) l0 l3 lo m1 m3 hn is (acc ++ [s]) T r1 DT h10 (by omega) (by rw [AJ]; omega) (Pt g g1)
   rw [hl] at e2;refine ⟨acc', S', r', ?_, D2, s2.trans s3, h20, by rw [AJ] at h21; omega, g2⟩
   have k1 : vL (bE (kD n) (aB (aC 0) (aB (aC 1) (aB (aC 2) (aB (aC 3) (aB (aC 4) aL)))))) [some (.cel p), some (.dat (.int lv)), some (.cel q), some (.dat (.int many)), some (.dat (.int low)), some (.cel S.length), some (.dat i)] (.cel S.length) (S ++ [.lst (bR acc)]) = .ok (.dat .non) (T ++ [.lst (bR (acc ++ [s]))]) := by
    have q1 : bE (kD n) (aB (aC 0) (aB (aC 1) (aB (aC 2) (aB (aC 3) (aB (aC 4) aL))))) [some (.cel p), some (.dat (.int lv)), some (.cel q), some (.dat (.int many)), some (.dat (.int low)), some (.cel S.length), some (.dat i)] (S ++ [.lst (bR acc)]) = .ok (.dat s.d) (T ++ [.lst (bR acc)]) := by
     simp! [e1]
    rw [lW wD, q1, dX, <- hl, nI wD (Hl (by rw [fE]; omega)), Ic, MM]
   refine (fL (ρ1 := [some (.cel p), some (.dat (.int lv)), some (.cel q), some (.dat (.int many)), some (.dat (.int low)), some (.cel S.length), some (.dat i)]) (ρ2 := [some (.cel p), some (.dat (.int lv)), some (.cel q), some (.dat (.int many)), some (.dat (.int low)), some (.cel S.length), none]) (S2 := T ++ [.lst (bR (acc ++ [s]))]) rfl ?_).trans e2
   unfold iE;simp! [Da.ixq, decide_eq_true hr, k1]
  ·obtain ⟨acc', S', r', e2, D2, s3, h20, h21, g2⟩ := Gc ih (p := p) (q := q) (N := N) l0 l3 lo m1 m3 hn is acc S r D r0 r6 hs g
   refine ⟨acc', S', r', ?_, D2, s3, h20, h21, g2⟩
   refine (fL (ρ1 := [some (.cel p), some (.dat (.int lv)), some (.cel q), some (.dat (.int many)), some (.dat (.int low)), some (.cel S.length), some (.dat i)]) (ρ2 := [some (.cel p), some (.dat (.int lv)), some (.cel q), some (.dat (.int many)), some (.dat (.int low)), some (.cel S.length), none]) (S2 := S ++ [.lst (bR acc)]) rfl ?_).trans e2
   unfold iE;simp! [Da.ixq, decide_eq_false hr]
theorem RQ {n : Nat} (ih : Hc n) : L1 (n + 1) := by
 intro p q N S r many lv low D l0 l3 lo r0 r6 m1 m3 hn;rw [show mX (n + 1) [.cel p, .dat (.int lv), .cel q, .dat (.int many), .dat (.int low)] S = trunc S.length (cC (nQ (kD n) [some (.cel p), some (.dat (.int lv)), some (.cel q), some (.dat (.int many)), some (.dat (.int low)), none, none] S)) from rfl]
 unfold nQ;have Da := D.app (c := .lst (bR [])) yZ;obtain ⟨d, S1, e1, d0, d1, D1, s1⟩ := Da.draw (k := 3) (by decide) (by decide)
 obtain ⟨T, rfl, s2, DT⟩ := yQ D s1 D1;have hl : T.length = S.length := s2.1;obtain ⟨acc, S2, r2, e2, D2, s3, h20, h21, g2⟩ := Gc ih (p := p) (q := q) (N := N) l0 l3 lo m1 m3 (by omega) (iC 0 d.toNat) [] T r DT r0 r6 (by simp [cQ]; omega) trivial
 rw [hl] at e2;have hl2 : S2.length = S.length := by rw [s3.1, hl]
 refine ⟨acc, S2, r2, ?_, D2, s2.trans s3, h20, by simp [cQ] at h21; omega, g2⟩
 have fz := lV (S := S2 ++ [.lst (bR acc)]) (n := S2.length) wD;rw [hl2] at fz;simp! [e1, kP (show -(2 ^ 62) <= d by omega) (show d < 2 ^ 62 by omega), show ([] : List PH.D) = bR [] from rfl, e2, fz]
 refine jL (T := (S2 ++ [Cell.lst (bR acc)]).set S.length Cell.dead) D2.ls ?_
 rw [<- hl2];simp
theorem zS {lv : Int} (h : 0 <= lv) : 3 - (lv + 1).toNat = 3 - lv.toNat - 1 := by omega
theorem augT {p q N : Nat} {r w : Int} {S : aO} {g : Int -> Int -> Int} {o i e : FE} {ρ : Ev} (D : Dt p q N S r) (ho : o ρ S = .ok (.cel q) S) (hi : i ρ S = .ok (.dat (.int 0)) S) (he : e ρ S = .ok (.dat (.int w)) S) : sU g o i e ρ S = .next ρ (S.set q (PL [g r w])) :=
 Ej (k := 0) (n := 0) ho hi he D.room rfl rfl
theorem RP {n : Nat} (ih : L1 n) : Hc (n + 1) := by
 intro p q N S r many lv low D l0 l3 lo r0 r6 m1 m3 hn;rw [show kD (n + 1) [.cel p, .dat (.int lv), .cel q, .dat (.int many), .dat (.int low)] S = cC (BI (mX n) [some (.cel p), some (.dat (.int lv)), some (.cel q), some (.dat (.int many)), some (.dat (.int low)), none, none, none, none] S) from rfl]
 unfold BI;have Dq := D.setq (r' := r - 1);obtain ⟨kd, S1, e1, k0, k9, D1, s1⟩ := Dq.draw (k := 10) (by decide) (by decide)
 obtain ⟨sv, S2, e2, v0, v2, D2, s2⟩ := D1.draw (k := 3) (by decide) (by decide)
 have sq : Sam [p, q] S (S.set q (PL [r - 1])) := Sam.set (by simp)
 have s02 := (sq.trans s1).trans s2;have ag : sU (fun x y => x - y) (aC 2) (mC (.int 0)) (mC (.int 1)) [some (.cel p), some (.dat (.int lv)), some (.cel q), some (.dat (.int many)), some (.dat (.int low)), none, none, none, none] S = .next [some (.cel p), some (.dat (.int lv)), some (.cel q), some (.dat (.int many)), some (.dat (.int low)), none, none, none, none] (S.set q (PL [r - 1])) := augT (g := fun x y => x - y) D rfl rfl rfl
 by_cases hc : kd < 4 \/ lv > 2
 ·obtain ⟨c, S3, e3, ok, D3, s3⟩ := D2.cmd
  refine ⟨.cmd c, S3, r - 1, ?_, D3, s02.trans s3, by omega, by simp [Stt.size]; omega, ok⟩
  rcases hc with hc | hc
  ·simp! [ag, e1, e2, decide_eq_true hc, e3]; rfl
  ·by_cases h4 : kd < 4
   ·simp! [ag, e1, e2, decide_eq_true h4, e3]; rfl
   ·simp! [ag, e1, e2, decide_eq_false h4, decide_eq_true hc, e3]; rfl
 have h4 : ¬ kd < 4 := fun h => hc (.inl h)
 have h2 : ¬ lv > 2 := fun h => hc (.inr h)
 by_cases hk4 : kd = 4
 ·obtain ⟨w, S3, e3, w0, w1, D3, s3⟩ := D2.draw (k := 2) (by decide) (by decide)
  refine ⟨.fin w, S3, r - 1, ?_, D3, s02.trans s3, by omega, by simp [Stt.size]; omega, ⟨by omega, by omega⟩⟩
  simp! [ag, e1, e2, decide_eq_false h4, decide_eq_false h2, decide_eq_true hk4, e3]; rfl
 obtain ⟨one, S3, r3, e3, D3, s3, h30, h31, g3⟩ := ih D2 (lv := lv + 1) (many := many) (low := low) (by omega) (by omega) lo (by omega) (by omega) m1 m3 (by omega)
 rw [zS l0] at g3;have s03 := s02.trans s3;have hlt : 0 < 3 - lv.toNat := by omega
 by_cases hk5 : kd = 5
 ·refine ⟨.keep one, S3, r3, ?_, D3, s03, h30, by simp [Stt.size]; omega, ⟨hlt, g3⟩⟩
  simp! [ag, e1, e2, decide_eq_false h4, decide_eq_false h2, decide_eq_false hk4, e3, decide_eq_true hk5]; rfl
 by_cases hk6 : kd = 6
 ·refine ⟨.again one, S3, r3, ?_, D3, s03, h30, by simp [Stt.size]; omega, ⟨hlt, g3⟩⟩
  simp! [ag, e1, e2, decide_eq_false h4, decide_eq_false h2, decide_eq_false hk4, e3, decide_eq_false hk5, decide_eq_true hk6]; rfl
 by_cases hk7 : kd = 7 /\ low < many
 ·obtain ⟨gl, S4, e4, gl0, gl1, D4, s4⟩ := D3.draw (k := many - low) (by omega) (by omega)
  obtain ⟨two, S5, r5, e5, D5, s5, h50, h51, g5⟩ := ih D4 (lv := lv + 1) (many := many) (low := low) (by omega) (by omega) lo (by omega) (by omega) m1 m3 (by omega)
  rw [zS l0] at g5;refine ⟨.call (low + gl) (decide (sv = 0)) one two, S5, r5, ?_, D5, (s03.trans s4).trans s5, h50, by simp [Stt.size]; omega, ⟨⟨hlt, by omega, by omega⟩, g3, g5⟩⟩
  simp! [ag, e1, e2, decide_eq_false h4, decide_eq_false h2, decide_eq_false hk4, e3, decide_eq_false hk5, decide_eq_false hk6, decide_eq_true hk7.1, decide_eq_true hk7.2, e4, e5]; rfl
 have a7 : (decide (kd = 7) && decide (low < many)) = false := by
  rw [Bool.and_eq_false_iff]
  by_cases h7 : kd = 7
  ·exact .inr (decide_eq_false fun h => hk7 ⟨h7, h⟩)
  ·exact .inl (decide_eq_false h7)
 have rest : ∀ {X : Out}, (∃ (s : Stt) (S' : aO) (r' : Int), X = .ret (.dat s.d) S' /\ Dt p q N S' r' /\ Sam [p, q] S S' /\ 0 <= r' /\ (s.size : Int) + r' <= r /\ s.Gd many (3 - lv.toNat)) -> ∃ (s : Stt) (S' : aO) (r' : Int), cC X = .ok (.dat s.d) S' /\ Dt p q N S' r' /\ Sam [p, q] S S' /\ 0 <= r' /\ (s.size : Int) + r' <= r /\ s.Gd many (3 - lv.toNat) := fun {X} ⟨s, S', r', e, h⟩ => ⟨s, S', r', by rw [e]; rfl, h⟩
 by_cases hk8 : kd = 8 /\ lv < 2 /\ r3 > 0
 ·have ag2 : ∀ {x7 x8 : Option Vl}, sU (fun x y => x - y) (aC 2) (mC (.int 0)) (mC (.int 1)) [some (.cel p), some (.dat (.int lv)), some (.cel q), some (.dat (.int many)), some (.dat (.int low)), some (.dat (.int kd)), some (.dat (.bl (decide (sv = 0)))), x7, x8] S3 = .next [some (.cel p), some (.dat (.int lv)), some (.cel q), some (.dat (.int many)), some (.dat (.int low)), some (.dat (.int kd)), some (.dat (.bl (decide (sv = 0)))), x7, x8] (S3.set q (PL [r3 - 1])) := augT (g := fun x y => x - y) D3 rfl rfl rfl
  have D4 := D3.setq (r' := r3 - 1);obtain ⟨gl, S5, e5, gl0, gl1, D5, s5⟩ := D4.draw (k := many) (by omega) (by omega)
  refine ⟨.either one [.call gl (decide (sv = 0)) [] []], S5, r3 - 1, ?_, D5, (s03.trans (Sam.set (by simp))).trans s5, by omega, by simp [Stt.size, cQ]; omega, ⟨hlt, g3, ⟨⟨by omega, by omega, by omega⟩, trivial, trivial⟩, trivial⟩⟩
  simp! [ag, e1, e2, decide_eq_false h4, decide_eq_false h2, decide_eq_false hk4, e3, decide_eq_false hk5, decide_eq_false hk6, a7, show decide (kd = 7) = false from decide_eq_false (by omega), decide_eq_true hk8.1, decide_eq_true hk8.2.1, D3.ixq, decide_eq_true hk8.2.2, ag2, e5]; rfl
 ·obtain ⟨two, S5, r5, e5, D5, s5, h50, h51, g5⟩ := ih D3 (lv := lv + 1) (many := many) (low := low) (by omega) (by omega) lo (by omega) (by omega) m1 m3 (by omega)
  rw [zS l0] at g5;refine ⟨.either one two, S5, r5, ?_, D5, s03.trans s5, h50, by simp [Stt.size]; omega, ⟨hlt, g3, g5⟩⟩
  by_cases h7 : kd = 7
  ·have hl7 : ¬ low < many := fun h => hk7 ⟨h7, h⟩
   simp! [ag, e1, e2, decide_eq_false h4, decide_eq_false h2, decide_eq_false hk4, e3, decide_eq_false hk5, decide_eq_false hk6, decide_eq_true h7, decide_eq_false hl7, show decide (kd = 8) = false from decide_eq_false (by omega), e5]; rfl
  ·by_cases h8 : kd = 8
   ·by_cases hl2 : lv < 2
    ·have hr3 : ¬ r3 > 0 := fun h => hk8 ⟨h8, hl2, h⟩
     simp! [ag, e1, e2, decide_eq_false h4, decide_eq_false h2, decide_eq_false hk4, e3, decide_eq_false hk5, decide_eq_false hk6, decide_eq_false h7, decide_eq_true h8, decide_eq_true hl2, D3.ixq, decide_eq_false hr3, e5]; rfl
    ·simp! [ag, e1, e2, decide_eq_false h4, decide_eq_false h2, decide_eq_false hk4, e3, decide_eq_false hk5, decide_eq_false hk6, decide_eq_false h7, decide_eq_true h8, decide_eq_false hl2, e5]; rfl
   ·simp! [ag, e1, e2, decide_eq_false h4, decide_eq_false h2, decide_eq_false hk4, e3, decide_eq_false hk5, decide_eq_false hk6, decide_eq_false h7, decide_eq_false h8, e5]; rfl
theorem DP : ∀ n, Hc n /\ L1 n
 | 0 => ⟨fun D l0 l3 lo r0 r6 m1 m3 hn => by omega, fun D l0 l3 lo r0 r6 m1 m3 hn => by omega⟩
 | n + 1 => ⟨RP (DP n).2, RQ (DP n).1⟩
theorem DQ {p q N : Nat} {many pr : Int} {a1 a2 a4 : Option Vl} (lo : 0 <= pr) (m1 : 1 <= many) (m3 : many <= 3) :
  ∀ (is : List PH.D) (acc : List Stt) (S : aO) (r : Int), Dt p q N S r -> 0 <= r -> r <= 6 -> (cQ acc : Int) + r <= 6 -> GdL many acc 3 ->
   ∃ (acc' : List Stt) (S' : aO) (r' : Int), loop (.nm 8) jH is [some (.cel p), a1, a2, some (.dat (.int many)), a4, some (.dat (.int pr)), some (.cel q), some (.cel S.length), none] (S ++ [.lst (bR acc)]) =
    .next [some (.cel p), a1, a2, some (.dat (.int many)), a4, some (.dat (.int pr)), some (.cel q), some (.cel S.length), none] (S' ++ [.lst (bR acc')]) /\ Dt p q N S' r' /\ Sam [p, q] S S' /\ 0 <= r' /\ (cQ acc' : Int) + r' <= cQ acc + r /\ GdL many acc' 3
 | [], acc, S, r, D, r0, r6, hs, g => ⟨acc, S, r, rfl, D, Sam.refl, r0, Int.le_refl _, g⟩
 | i :: is, acc, S, r, D, r0, r6, hs, g => by
  have Da := D.app (c := .lst (bR acc)) yZ;have hlen := gR acc
  by_cases hr : 0 < r
  ·obtain ⟨s, S1, r1, e1, D1, s1, h10, h11, g1⟩ := (DP 20).1 (lv := 0) (low := pr + 1) Da (by decide) (by decide) (by omega) hr r6 m1 m3 (by decide)
   obtain ⟨T, rfl, s2, DT⟩ := yQ D s1 D1;have hl : T.length = S.length := s2.1;obtain ⟨acc', S', r', e2, D2, s3, h20, h21, g2⟩ := DQ (p := p) (q := q) (N := N) (a1 := a1) (a2 := a2) (a4 := a4) lo m1 m3 is (acc ++ [s]) T r1 DT h10 (by omega) (by rw [AJ]; omega) (Pt g g1)
   rw [hl] at e2;refine ⟨acc', S', r', ?_, D2, s2.trans s3, h20, by rw [AJ] at h21; omega, g2⟩
   have k1 : vL (bE (kD 20) (aB (aC 0) (aB (mC (.int 0)) (aB (aC 6) (aB (aC 3) (aB (aU (dY false) (aC 5) (mC (.int 1))) aL)))))) [some (.cel p), a1, a2, some (.dat (.int many)), a4, some (.dat (.int pr)), some (.cel q), some (.cel S.length), some (.dat i)] (.cel S.length) (S ++ [.lst (bR acc)]) = .ok (.dat .non) (T ++ [.lst (bR (acc ++ [s]))]) := by
    have q1 : bE (kD 20) (aB (aC 0) (aB (mC (.int 0)) (aB (aC 6) (aB (aC 3) (aB (aU (dY false) (aC 5) (mC (.int 1))) aL))))) [some (.cel p), a1, a2, some (.dat (.int many)), a4, some (.dat (.int pr)), some (.cel q), some (.cel S.length), some (.dat i)] (S ++ [.lst (bR acc)]) = .ok (.dat s.d) (T ++ [.lst (bR acc)]) := by
     simp! [e1]
    rw [lW wD, q1, dX, <- hl, nI wD (Hl (by rw [fE]; omega)), Ic, MM]
   refine (fL (ρ1 := [some (.cel p), a1, a2, some (.dat (.int many)), a4, some (.dat (.int pr)), some (.cel q), some (.cel S.length), some (.dat i)]) (ρ2 := [some (.cel p), a1, a2, some (.dat (.int many)), a4, some (.dat (.int pr)), some (.cel q), some (.cel S.length), none]) (S2 := T ++ [.lst (bR (acc ++ [s]))]) rfl ?_).trans e2
   unfold jH;simp! [Da.ixq, decide_eq_true hr, k1]
  ·obtain ⟨acc', S', r', e2, D2, s3, h20, h21, g2⟩ := DQ (p := p) (q := q) (N := N) (a1 := a1) (a2 := a2) (a4 := a4) lo m1 m3 is acc S r D r0 r6 hs g
   refine ⟨acc', S', r', ?_, D2, s3, h20, h21, g2⟩
   refine (fL (ρ1 := [some (.cel p), a1, a2, some (.dat (.int many)), a4, some (.dat (.int pr)), some (.cel q), some (.cel S.length), some (.dat i)]) (ρ2 := [some (.cel p), a1, a2, some (.dat (.int many)), a4, some (.dat (.int pr)), some (.cel q), some (.cel S.length), none]) (S2 := S ++ [.lst (bR acc)]) rfl ?_).trans e2
   unfold jH;simp! [Da.ixq, decide_eq_false hr]
structure Bt (N : Nat) (S : aO) (bs : List (List Stt)) : Prop where
 ls : LS S
 n2 : 2 <= N
 pool : ∃ ks, S[0]? = some (PL ks) /\ ks.length = N
 bod : S[1]? = some (.lst (bls bs))
theorem To {a b : List (List Stt)} : bls (a ++ b) = bls a ++ bls b := by simp [bls]
theorem OH {N : Nat} {S : aO} {bs : List (List Stt)} {many pr : Int} {a1 : Option Vl} (B : Bt N S bs) (lo : 0 <= pr) (m1 : 1 <= many) (m3 : many <= 3) (hb : bs.length <= 10) :
  ∃ (S' : aO) (b : List Stt), jG [some (.cel 0), a1, some (.dat (.int 6)), some (.dat (.int many)), some (.cel 1), some (.dat (.int pr)), none, none, none] S =
   .next [some (.cel 0), a1, some (.dat (.int 6)), some (.dat (.int many)), some (.cel 1), none, none, none, none] S' /\ Bt N S' (bs ++ [b]) /\ GdL many b 3 /\ cQ b <= 6 := by
 obtain ⟨ks, hk, hl⟩ := B.pool;have h0 := (aH.mp hk).1;have h1 := (aH.mp B.bod).1;have D : Dt 0 S.length N (S ++ [PL [6]]) 6 := by
  refine ⟨fun c hc n => ?_, B.n2, ⟨ks, by rw [aJ h0]; exact hk, hl⟩, by simp, by omega⟩
  rcases dD.mp hc with h | h
  ·exact B.ls c h n
  ·rw [bI.mp h]; rfl
 have Da := D.app (c := .lst (bR [])) yZ;obtain ⟨d, S1, e1, d0, d1, D1, s1⟩ := Da.draw (k := 4) (by decide) (by decide)
 obtain ⟨T, rfl, s2, DT⟩ := yQ D s1 D1;have hT : T.length = (S ++ [PL [6]]).length := s2.1;obtain ⟨acc, S2, r2, e2, D2, s3, h20, h21, g2⟩ := DQ (p := 0) (q := S.length) (N := N) (a1 := a1) (a2 := some (.dat (.int 6))) (a4 := some (.cel 1)) lo m1 m3 (iC 0 (1 + d).toNat) [] T 6 DT (by decide) (by decide) (by simp [cQ]) trivial
 have hl2 : S2.length = (S ++ [PL [6]]).length := by rw [s3.1, hT]
 rw [hT] at e2;have sz6 : cQ acc <= 6 := by simp [cQ] at h21; omega
 obtain ⟨k2, hk2, hl2'⟩ := D2.pool;have b2 : S2[1]? = some (.lst (bls bs)) := by
  rw [(s2.trans s3).2 1 (by simp; omega), aJ h1]
  exact B.bod
 have hls : S2.length = S.length + 1 := by rw [hl2]; simp
 have fz : uG (aC 7) [some (.cel 0), a1, some (.dat (.int 6)), some (.dat (.int many)), some (.cel 1), some (.dat (.int pr)), some (.cel S.length), some (.cel (S ++ [PL [6]]).length), none] (S2 ++ [.lst (bR acc)]) = .ok (.dat (.lst (bR acc))) (S2 ++ [.dead]) := by
  have fz := lV (S := S2 ++ [.lst (bR acc)]) (n := S2.length) wD;rw [hl2] at fz;simp! [fz];rw [<- hl2];simp
 have bA : (S2 ++ [Cell.lst (bR acc)])[1]? = some (.lst (bls bs)) := by rw [aJ (by omega)]; exact b2
 have bB : (S2 ++ [Cell.dead])[1]? = some (.lst (bls bs)) := by rw [aJ (by omega)]; exact b2
 have k1 : vL (uG (aC 7)) [some (.cel 0), a1, some (.dat (.int 6)), some (.dat (.int many)), some (.cel 1), some (.dat (.int pr)), some (.cel S.length), some (.cel (S ++ [PL [6]]).length), none] (.cel 1) (S2 ++ [.lst (bR acc)]) = .ok (.dat .non) ((S2 ++ [Cell.dead]).set 1 (Cell.lst (bls bs ++ [PH.D.lst (bR acc)]))) := by
  rw [lW bA, fz, dX, nI bB (Hl (by rw [BE]; omega))]
 have eb : bls bs ++ [PH.D.lst (bR acc)] = bls (bs ++ [acc]) := by rw [To]; rfl
 refine ⟨(S2 ++ [Cell.dead]).set 1 (Cell.lst (bls (bs ++ [acc]))), acc, ?_, ⟨fun c hc n => ?_, B.n2, ⟨k2, ?_, hl2'⟩, Bi bB⟩, g2, sz6⟩
 ·unfold jG
  have pl6 : Cell.lst [PH.D.int 6] = PL [6] := rfl;have d0' : bR [] = ([] : List PH.D) := rfl;rw [d0'] at e1 e2;simp! [pl6, e1, kP (show -(2 ^ 62) <= 1 + d by omega) (show 1 + d < 2 ^ 62 by omega), e2, k1, eb]
 ·rcases lR hc with h | h
  ·rcases dD.mp h with h | h
   ·exact D2.ls c h n
   ·rw [bI.mp h]; rfl
  ·rw [h]; rfl
 ·rw [Gf (by decide), aJ (by omega)]
  exact hk2
theorem LM {N : Nat} {many : Int} {a1 : Option Vl} (m1 : 1 <= many) (m3 : many <= 3) : ∀ (n : Nat) (lo : Int) (S : aO) (bs : List (List Stt)), Bt N S bs -> 0 <= lo -> bs.length + n <= 10 -> (∀ b ∈ bs, GdL many b 3 /\ cQ b <= 6) ->
  ∃ (S' : aO) (bs' : List (List Stt)) , loop (.nm 5) jG (iC lo n) [some (.cel 0), a1, some (.dat (.int 6)), some (.dat (.int many)), some (.cel 1), none, none, none, none] S = .next [some (.cel 0), a1, some (.dat (.int 6)), some (.dat (.int many)), some (.cel 1), none, none, none, none] S' /\ Bt N S' bs' /\ bs'.length = bs.length + n /\ ∀ b ∈ bs', GdL many b 3 /\ cQ b <= 6
 | 0, lo, S, bs, B, l0, hb, g => ⟨S, bs, rfl, B, rfl, g⟩
 | n + 1, lo, S, bs, B, l0, hb, g => by
  obtain ⟨S1, b, e1, B1, g1, z1⟩ := OH (a1 := a1) B l0 m1 m3 (by omega)
  obtain ⟨S2, bs2, e2, B2, l2, g2⟩ := LM (N := N) (a1 := a1) m1 m3 n (lo + 1) S1 (bs ++ [b]) B1 (by omega) (by simp; omega) (fun x hx => by
   rcases dD.mp hx with h | h
   ·exact g x h
   ·rw [bI.mp h]; exact ⟨g1, z1⟩)
  refine ⟨S2, bs2, ?_, B2, by rw [l2]; simp; omega, g2⟩
  rw [rG];exact (fL (ρ1 := [some (.cel 0), a1, some (.dat (.int 6)), some (.dat (.int many)), some (.cel 1), some (.dat (.int lo)), none, none, none]) rfl e1).trans e2
theorem Mf {ks : List Int} (h : 2 <= ks.length) : ∃ (bs : List (List Stt)) (ks' : List Int), oO [.cel 0, .dat (.int 3), .dat (.int 6)] [PL ks] = .ok (.dat (.lst (bls bs))) [PL ks'] /\ Good2 bs /\ ks'.length = ks.length := by
 obtain ⟨d, k1, e1, d0, d1, l1⟩ := gA (S := [PL ks]) (p := 0) ⟨rfl, h⟩ (k := 3) (by decide) (by decide)
 rw [bD] at e1;have e1 : cS [.cel 0, .dat (.int 3)] [PL ks] = .ok (.dat (.int d)) [PL k1] := e1;have B0 : Bt ks.length [PL k1, .lst (bls [])] [] := ⟨fun c hc n => by
  rcases aY.mp hc with rfl | hc
  ·rfl
  ·rw [bI.mp hc]; rfl, h, ⟨k1, rfl, l1⟩, rfl⟩
 obtain ⟨n, hn⟩ : ∃ n : Nat, 1 + d = (n : Int) := ⟨(1 + d).toNat, by omega⟩
 obtain ⟨S2, bs, e2, B2, l2, g2⟩ := LM (a1 := some (.dat (.int 3))) (many := 1 + d) (by omega) (by omega) n 0 _ [] B0 (by decide) (by simp; omega) (fun b hb => by cases hb)
 obtain ⟨k2, hk2, hl2⟩ := B2.pool;have hbn : (bs.length : Int) = 1 + d := by rw [l2, hn]; simp
 refine ⟨bs, k2, ?_, ⟨by omega, by omega, fun b hb => ?_⟩, hl2⟩
 ·rw [FJ]
  unfold oY;have rg : ∀ {U : aO}, EG (.dat (.int (1 + d))) U = .ok (iC 0 n) U := fun {U} => by rw [hn, kP (by omega) (by omega), kU]
  have fz := lV B2.bod;have nb : newL true [] [PL k1] = .ok (.cel 1) [PL k1, .lst (bls [])] := rfl;have nb2 : KR true [] [PL k1] = .ok (.cel 1) [PL k1, .lst (bls [])] := rfl;have ap : ([PL k1] : aO) ++ [.lst []] = [PL k1, .lst (bls [])] := rfl;simp! [e1, ap, rg, e2, fz];have hlen := (aH.mp hk2).1;refine jL (T := S2.set 1 Cell.dead) (fun c hc n => by rw [bI.mp hc]; rfl) ?_
  cases S2 with
  | nil => cases hk2
  | cons x r =>
   simp only [K0, Option.some.injEq] at hk2;subst hk2;rfl
 ·obtain ⟨q1, q2⟩ := g2 b hb
  rw [hbn];have := gR b;exact ⟨q1, by omega, by omega, fun s hs => by have := DU hs; omega⟩
abbrev noPr : Er := ⟨"NoProcedure", [], []⟩
abbrev NF : Er := ⟨"NoPen", [], []⟩
theorem sO {T : aO} {e : Er} (ls : LS T) : trunc T.length (.err e T) = .err e T := by
 unfold trunc;dsimp only;rw [List.take_length, if_pos (bV.mpr fun c hc => ls c hc _)]
def DG (bs : List (List Stt)) (v : D) : Prop := ∀ S, gS [.dat (fF bs), .dat v] S = .ok (.dat (.bl false)) S
def Ep (v : D) : Prop := ∀ S, rL [.dat v] S = .ok (.dat (.bl false)) S
def NoIntV (v : D) : Prop := ∀ S, eK [.dat v] S = .ok (.dat (.bl false)) S
def yH (v : D) : Prop := ∀ S, uE [.dat v] S = .ok (.dat (.bl false)) S
theorem NoIntV.bit {v : D} (h : NoIntV v) : Ep v := fun S => by
 rw [show rL [.dat v] S = cC (uP [some (.dat v)] S) from rfl]
 unfold uP;simp! [h S];rfl
theorem NoIntV.proc {bs : List (List Stt)} {v : D} (h : NoIntV v) : DG bs v := fun S => by
 rw [show gS [.dat (fF bs), .dat v] S = cC (gT [some (.dat (fF bs)), some (.dat v)] S) from rfl]
 unfold gT;simp! [h S];rfl
theorem noint_bl {b : Bool} : NoIntV (.bl b) := fun S => rfl
theorem noint_non : NoIntV .non := fun S => rfl
theorem noint_str {z : Str} : NoIntV (.str z) := fun S => rfl
theorem noint_tup {xs : List D} : NoIntV (.tup xs) := fun S => rfl
theorem noint_lst {xs : List D} : NoIntV (.lst xs) := fun S => rfl
section
variable {S : aO} {bs : List (List Stt)} {p : Nat}
theorem JU {v : D} {x2 : Vl} (ls : LS S) (hv : DG bs v) : bU [.dat (fF bs), .dat v, x2] S = .err noPr S := by
 rw [nR];unfold gG;simp! [hv S];exact sO ls
theorem Eh {a0 a1 a2 a5 : Option Vl} {v : D} {r : List D} (hv : Ep v) : ∀ (xs : List Int) (i : Nat), (∀ b ∈ xs, b = 0 \/ b = 1) -> ∃ ρ', loop (.tp [3, 4]) dU (eC i (xs.map D.int ++ v :: r)) [a0, a1, a2, none, none, a5] S = .err (mI ((i + xs.length : Nat) : Int)) ρ' S
 | [], i, _ => by
  rw [bL, bT, eC, loop];simp only [pR, jQ, aK, bF, if_true, bZ, bD];rw [dU];simp! [hv S];exact ⟨_, rfl⟩
 | b :: xs, i, h => by
  have hb : (decide (0 <= b) && decide (b <= 1)) = true := by rcases h b (aV ..) with rfl | rfl <;> rfl
  obtain ⟨ρ', ih⟩ := Eh (a0 := a0) (a1 := a1) (a2 := a2) (a5 := a5) (r := r) hv xs (i + 1) fun b hb => h b (aM _ hb)
  rw [aN, bW, eC, loop];simp only [pR, jQ, aK, bF, if_true, bZ, bD];rw [dU];simp! [yV, hb];rw [<- dU];refine ⟨ρ', ?_⟩
  rw [ih]
  congr 3
  omega
theorem Kw {xs : List Int} {v : D} {r : List D} (ls : LS S) (G : Good2 bs) (hp : p < bs.length) (hx : ∀ b ∈ xs, b = 0 \/ b = 1) (hv : Ep v) : bU [.dat (fF bs), .dat (.int (p : Int)), .dat (.lst (xs.map D.int ++ v :: r))] S = .err (mI (xs.length : Int)) S := by
 have hl3 := G.l3;have hl : bs.length <= 10 := by omega
 obtain ⟨ρ', lp⟩ := Eh (S := S) (a0 := some (.dat (fF bs))) (a1 := some (.dat (.int (p : Int)))) (a2 := some (.dat (.lst (xs.map D.int ++ v :: r)))) (a5 := none) (r := r) hv xs 0 hx;rw [lQ] at lp;rw [nR];unfold gG;simp! [As hl, decide_eq_true (show (0 : Int) <= (p : Int) by omega), decide_eq_true (show (p : Int) < (bs.length : Int) by omega), lp]
 exact sO ls
theorem JS {z : Str} (ls : LS S) (G : Good2 bs) (hp : p < bs.length) : bU [.dat (fF bs), .dat (.int (p : Int)), .dat (.str z)] S = .err (mI (-1)) S := by
 have hl3 := G.l3;have hl : bs.length <= 10 := by omega
 rw [nR];unfold gG;simp! [As hl, decide_eq_true (show (0 : Int) <= (p : Int) by omega), decide_eq_true (show (p : Int) < (bs.length : Int) by omega)]
 exact sO ls
end
inductive IsE : Er -> D -> Prop
 | pr : IsE noPr (.tup [.str "NoProcedure", .int 0])
 | pn : IsE NF (.tup [.str "NoPen", .int 0])
 | run (i : Int) : IsE (mI i) (.tup [.str "NoRun", .int i])
abbrev Bb : List Str := ["NoBook", "NoCommand", "NoPath", "NoPen", "NoProcedure", "NoRun"]
abbrev Ve : List (Str × HJ) := [("NoProcedure", .m (bQ (bX (aB (mC (.str "NoProcedure")) (aB (mC (.int 0)) aL))))), ("NoRun", .j 5 [.c (.str "NoRun") (.str "NoRun"), .f "index"]), ("NoPen", .m (bQ (bX (aB (mC (.str "NoPen")) (aB (mC (.int 0)) aL)))))]
abbrev Vd : List (Str × HJ) := [("NoProcedure", .m (bQ (bX (aB (mC (.str "NoProcedure")) (aB (m1 eW (aC 4)) aL))))), ("NoRun", .j 6 [.c (.str "NoRun") (.str "NoRun"), .fl "index" 4]), ("NoPen", .m (bQ (bX (aB (mC (.str "NoPen")) (aB (m1 eW (aC 4)) aL)))))]
abbrev hm22 : List (Str × HJ) := [("NoProcedure", .m (bQ (bX (aB (mC (.str "NoProcedure")) (aB (mC (.int 0)) aL))))), ("NoRun", .j 4 [.c (.str "NoRun") (.str "NoRun"), .f "index"])]
theorem Qw : (∀ h ∈ Ve, h.1 ∈ Bb) /\ (∀ h ∈ Vd, h.1 ∈ Bb) /\ ∀ h ∈ hm22, h.1 ∈ Bb := by
 refine ⟨fun h hh => ?_, fun h hh => ?_, fun h hh => ?_⟩ <;>
  simp only [aY, dE, or_false] at hh
 ·rcases hh with rfl | rfl | rfl <;> decide
 ·rcases hh with rfl | rfl | rfl <;> decide
 ·rcases hh with rfl | rfl <;> decide
section
variable {S : aO} {x0 x1 x2 x3 : Vl} {e : Er} {due : D}
theorem AV (i : Int) : (mI i).cls ∈ Bb := show ("NoRun" : Str) ∈ Bb by decide
theorem kr22 (h : IsE e due) : rQ Bb Ve (.err e [some x0, some x1, some x2, some x3, none, none] S) = .ret (.dat due) S := by
 have a := Qw.1;cases h with
 | pr => unfold rQ; dsimp only; rw [if_pos ⟨by decide, a⟩]; rfl
 | pn => unfold rQ; dsimp only; rw [if_pos ⟨by decide, a⟩]; rfl
 | run i => unfold rQ; dsimp only; rw [if_pos ⟨AV i, a⟩]; rfl
theorem km22 (h : IsE e due) (hn : e ≠ NF) : rQ Bb hm22 (.err e [some x0, some x1, some x2, none, none] S) = .ret (.dat due) S := by
 have a := Qw.2.2;cases h with
 | pr => unfold rQ; dsimp only; rw [if_pos ⟨by decide, a⟩]; rfl
 | pn => exact absurd rfl hn
 | run i => unfold rQ; dsimp only; rw [if_pos ⟨AV i, a⟩]; rfl
theorem kt22 (h : IsE e due) : rQ Bb Vd (.err e [some x0, some x1, some x2, some x3, some (.cel S.length), none, none] (S ++ [.lst []])) = .ret (.dat due) (S ++ [.lst []]) := by
 have a := Qw.2.1;have one : (S ++ [Cell.lst []])[S.length]? = some (.lst []) := wD;have ln : eW (.cel S.length) (S ++ [.lst []]) = .ok (.dat (.int 0)) (S ++ [.lst []]) := rW one;cases h with
 | pr =>
  unfold rQ; dsimp only; rw [if_pos ⟨by decide, a⟩]
  show (match (bQ (bX (aB (mC (.str "NoProcedure")) (aB (m1 eW (aC 4)) aL)))) [some x0, some x1, some x2, some x3, some (.cel S.length), none, none] (S ++ [.lst []]) with
   | .err _ _ _ => Out.stuck
   | o => o) = _
  simp! [ln]
 | pn =>
  unfold rQ; dsimp only; rw [if_pos ⟨by decide, a⟩]
  show (match (bQ (bX (aB (mC (.str "NoPen")) (aB (m1 eW (aC 4)) aL)))) [some x0, some x1, some x2, some x3, some (.cel S.length), none, none] (S ++ [.lst []]) with
   | .err _ _ _ => Out.stuck
   | o => o) = _
  simp! [ln]
 | run i =>
  unfold rQ; dsimp only; rw [if_pos ⟨AV i, a⟩]
  show (if 6 < ([some x0, some x1, some x2, some x3, some (Vl.cel S.length), none, none] : Ev).length then (match jF (mI i) ([some x0, some x1, some x2, some x3, some (.cel S.length), none, none].set 6 none) (S ++ [.lst []]) [.c (.str "NoRun") (.str "NoRun"), .fl "index" 4] with
   | some (ds, S') => if ds.length <= sizeLine then Out.ret (.dat (.tup ds)) S' else .stuck
   | none => .stuck) else .stuck) = _
  have l7 : 6 < ([some x0, some x1, some x2, some x3, some (Vl.cel S.length), none, none] : Ev).length := by show 6 < 7; omega
  have q1 : jF (mI i) ([some x0, some x1, some x2, some x3, some (.cel S.length), none, none].set 6 none) (S ++ [.lst []]) [.c (.str "NoRun") (.str "NoRun"), .fl "index" 4] = some ([.str "NoRun", .int i], S ++ [.lst []]) := by
   have l1 : List.lookup ("index" : Str) ((mI i).ns.zip (mI i).xs) = some (D.int i) := rfl;simp only [jF, bZ, bD, fU, K0, one, l1];simp
  rw [if_pos l7, q1];rfl
theorem Fi (he : xQ [x0, x1, x2, x3] S = .err e S) (h : IsE e due) : qW [x0, x1, x2, x3] S = .ok (.dat due) S := by
 rw [GZ];unfold uQ;simp! [EL, HK, C6, C7, bW, bT, he, kr22 h];rfl
theorem AF (ls : LS S) (he : nZ [x0, x1, x2, x3] (S ++ [.lst []]) = .err e (S ++ [.lst []])) (h : IsE e due) : kJ [x0, x1, x2, x3] S = .ok (.dat due) S := by
 have hc : e.cls ∈ Bb := by
  cases h with
  | pr => decide
  | pn => decide
  | run i => exact AV i
 have fg : ∀ {ρ : Ev}, EH Bb 5 4 ρ (.err e (S ++ [.lst []])) = .err e ρ (S ++ [.lst []]) := fun {ρ} => by
  unfold EH;exact if_pos hc
 rw [BS];unfold nP;simp! [EL, QJ, M3, M0, he, fg, kt22 h];exact jL ls (by simp)
theorem NH (he : mW [x0, x1, x2] S = .err e S) (h : IsE e due) (hn : e ≠ NF) : jS [x0, x1, x2] S = .ok (.dat due) S := by
 rw [BU];unfold jW;simp! [EL, he, km22 h hn];rfl
theorem JY (h : IsE e due) : eL 20 [.dat due, .dat due] S = .ok (.dat (.bl true)) S := by
 have key : ∀ (z : Str) (i : Int), BQ 20 (.tup [.str z, .int i]) := fun z i => uC (n := 19) (by simp) fun x hx => by
  simp only [aY, dE, or_false] at hx;rcases hx with rfl | rfl
  ·exact Bm
  ·exact yP
 cases h <;> exact key _ _ S
theorem xF (ls : LS S) (he : ∀ T, LS T -> bU [x0, x1, x2] T = .err e T) (h : IsE e due) (hn : e ≠ NF) : dP [x0, x1, x2, x3, .dat due] S = .ok (.dat (.bl true)) S := by
 have lsl : LS (S ++ [.lst []]) := ls.app;have r1 : xQ [x0, x1, x2, x3] S = .err e S := by
  rw [show xQ [x0, x1, x2, x3] S = cC (Ci [some x0, some x1, some x2, some x3, none, none, none, none] S) from rfl]
  unfold Ci;simp! [he S ls];rfl
 have r3 : mW [x0, x1, x2] S = .err e S := by
  rw [show mW [x0, x1, x2] S = trunc S.length (cC (qO [some x0, some x1, some x2, none, none, none, none, none, none] S)) from rfl]
  unfold qO;simp! [he S ls];exact sO ls
 have q1 := Fi r1 h;have q2 := AF ls (K3 (x3 := x3) (he _ lsl)) h;have q3 := NH r3 h hn;have sm := JY (S := S) h;have i0 : ∃ z : Str, cH (.dat due) (.dat (.int 0)) S = .ok (.dat (.str z)) S /\ decide (z = ("NoPen" : Str)) = false := by
  cases h with
  | pr => exact ⟨_, rfl, by decide⟩
  | pn => exact absurd rfl hn
  | run i => exact ⟨_, rfl, by decide⟩
 obtain ⟨z, i1, i2⟩ := i0;rw [Cj];unfold pN;simp! [q1, sm, q2, i1, i2, q3];rfl
theorem IW (ls : LS S) {v : D} {w : Int} {ds : List D} (he : ∀ T, LS T -> bU [x0, x1, x2] T = .ok (.dat (.tup [.int w, .lst ds])) T) (hv : yH v) : dP [x0, x1, x2, .dat v, .dat (.tup [.str "NoPen", .int 0])] S = .ok (.dat (.bl true)) S := by
 have lsl : LS (S ++ [.lst []]) := ls.app;have r1 : xQ [x0, x1, x2, .dat v] S = .err NF S := by
  rw [show xQ [x0, x1, x2, .dat v] S = cC (Ci [some x0, some x1, some x2, some (.dat v), none, none, none, none] S) from rfl]
  unfold Ci;simp! [he S ls, hv S];rfl
 have r2 : nZ [x0, x1, x2, .dat v] (S ++ [.lst []]) = .err NF (S ++ [.lst []]) := by
  rw [CI];unfold qX;have hv1 := hv (S ++ [.lst []]);simp! [Kk, UY, UZ, he _ lsl, hv1]
 have q1 := Fi r1 .pn;have q2 := AF ls r2 .pn;have sm := JY (S := S) .pn;have i1 : cH (.dat (.tup [.str "NoPen", .int 0])) (.dat (.int 0)) S = .ok (.dat (.str "NoPen")) S := rfl;rw [Cj];unfold pN;simp! [q1, sm, q2, i1];rfl
end
theorem Bp {bs : List (List Stt)} : ∀ (k : Nat) (m : Lm), (cW bs k m).bits.length <= m.bits.length + m.extra
 | 0, m => by
  unfold cW
  split <;> exact wV _ _
 | k + 1, m => by
  unfold cW;split
  ·exact wV _ _
  ·split
   ·rename_i q
    have h1 := OL q;dsimp only at h1;have h2 := Bp (bs := bs) k (by assumption)
    refine bY (Bp k _) ?_
    dsimp only;omega
   ·rename_i q
    have := Dz q;subst this
    split <;> exact wV _ _
   ·exact wV _ _
theorem IY {S : aO} {p : Nat} {ks : List Int} (hP : PoolAt S p ks) : S.set p (PL ks) = S := by
 apply fV
 intro i;rw [aT]
 by_cases h : p = i
 ·subst h
  rw [if_pos rfl, if_pos (aH.mp hP.1).1];exact hP.1.symm
 ·rw [if_neg h]
theorem CU {p : Nat} {e : FE} {t : Tg} {ρ : Ev} (hmd : ∀ (S : aO) (ks : List Int) (d : PH.D), PoolAt S p ks -> ∃ ρ1, pR t (.dat d) ρ = some ρ1 /\ ∃ (x : Int) (ks' : List Int), e ρ1 S = .ok (.dat (.int x)) (S.set p (PL ks')) /\ ks'.length = ks.length) : ∀ (ds : List PH.D) (S : aO) (ks : List Int), PoolAt S p ks -> ∃ (xs : List Int) (ks' : List Int), iJ t gO e ρ ds S = .ok (xs.map D.int) (S.set p (PL ks')) /\ xs.length = ds.length /\ ks'.length = ks.length
 | [], S, ks, h => ⟨[], ks, by rw [IY h]; rfl, rfl, rfl⟩
 | d :: r, S, ks, h => by
  obtain ⟨ρ1, h1, x, k1, e1, l1⟩ := hmd S ks d h;obtain ⟨xs, k2, e2, z1, z3⟩ := CU hmd r _ k1 (h.next l1);rw [gI] at e2;refine ⟨x :: xs, k2, ?_, by simp [z1], by omega⟩
  simp only [iJ, h1, gO, e1, e2, if_true];rfl
theorem V9 {ks : List Int} {S : aO} (hP : PoolAt S 0 ks) : ∃ (v : D) (ks' : List Int), yU [.cel 0] S = .ok (.dat v) (S.set 0 (PL ks')) /\ NoIntV v /\ ks'.length = ks.length := by
 obtain ⟨d, k1, e1, d0, d1, l1⟩ := gA hP (k := 7) (by decide) (by decide)
 have hx : ∃ v, (∀ T, cH (.dat (.tup [.bl true, .non, .str "1", .tup [.int 1], .lst [.int 1], .bl false, .str ""])) (.dat (.int d)) T = .ok (.dat v) T) /\ NoIntV v := by
  rcases (by omega : d = 0 \/ d = 1 \/ d = 2 \/ d = 3 \/ d = 4 \/ d = 5 \/ d = 6) with rfl | rfl | rfl | rfl | rfl | rfl | rfl
  ·exact ⟨_, fun T => rfl, noint_bl⟩
  ·exact ⟨_, fun T => rfl, noint_non⟩
  ·exact ⟨_, fun T => rfl, noint_str⟩
  ·exact ⟨_, fun T => rfl, noint_tup⟩
  ·exact ⟨_, fun T => rfl, noint_lst⟩
  ·exact ⟨_, fun T => rfl, noint_bl⟩
  ·exact ⟨_, fun T => rfl, noint_str⟩
 obtain ⟨v, ev, hv⟩ := hx;refine ⟨v, k1, ?_, hv, l1⟩
 rw [U2];unfold DE;simp! [UL, e1, ev];rfl
theorem Fs {xs : List D} (h : xs.length ≠ 6) (hs : xs.length <= 1000) : yH (.tup xs) := fun S => by
 rw [BR];unfold sL;have hd : decide ((xs.length : Int) = 6) = false := decide_eq_false (by omega)
 simp! [hd];rfl
theorem ND {xs : List D} : yH (.lst xs) := fun S => by
 rw [BR];unfold sL;simp! [if_true];rfl
theorem qV {a b c d e f : D} (h : ∀ x ∈ [a, b, c, d, e, f], NoIntV x \/ ∃ i, x = .int i) (h2 : ∃ x ∈ [a, b, c, d, e, f], NoIntV x) : yH (.tup [a, b, c, d, e, f]) := fun S => by
 have key : ∀ x ∈ [a, b, c, d, e, f], ∃ t : Bool, eK [.dat x] S = .ok (.dat (.bl t)) S /\ (NoIntV x -> t = false) := fun x hx => by
  rcases h x hx with q | ⟨i, rfl⟩
  ·exact ⟨false, q S, fun _ => rfl⟩
  ·refine ⟨true, dZ, fun q => ?_⟩
   have := q S;rw [dZ] at this;cases this
 obtain ⟨ta, qa, ra⟩ := key a (by simp)
 obtain ⟨tb, qb, rb⟩ := key b (by simp)
 obtain ⟨tc, qc, rc⟩ := key c (by simp)
 obtain ⟨td, qd, rd⟩ := key d (by simp)
 obtain ⟨te, qe, re⟩ := key e (by simp)
 obtain ⟨tf, qf, rf⟩ := key f (by simp)
 have hall : (ta && (tb && (tc && (td && (te && tf))))) = false := by
  obtain ⟨x, hx, hn⟩ := h2;simp only [aY, dE, or_false] at hx;rcases hx with rfl | rfl | rfl | rfl | rfl | rfl
  ·rw [ra hn]; rfl
  ·rw [rb hn]; simp
  ·rw [rc hn]; simp
  ·rw [rd hn]; simp
  ·rw [re hn]; simp
  ·rw [rf hn]; simp
 rw [BR];unfold sL;simp! [zK, iJ, pR, qa, qb, qc, qd, qe, qf, sz, aK, bF, bZ, bD]
 revert hall
 cases ta <;> cases tb <;> cases tc <;> cases td <;> cases te <;> cases tf <;> intro hall <;> first | rfl | cases hall
theorem Np {ks : List Int} (h : 2 <= ks.length) : ∃ (v : D) (ks' : List Int), sT [.cel 0] [PL ks] = .ok (.dat v) [PL ks'] /\ yH v /\ ks'.length = ks.length := by
 have ls : ∀ k : List Int, LS [PL k] := fun k c hc n => by rw [bI.mp hc]; rfl
 obtain ⟨ns, k1, e1, hl, l1⟩ := CU (p := 0) (e := bE iU (aB (aC 0) aL)) (t := .nm 4) (ρ := [some (.cel 0), none, none, none, none]) (fun S ks d hP => by
  obtain ⟨x, k1, e1, _, l1⟩ := Fp hP;refine ⟨[some (.cel 0), none, none, none, some (.dat d)], rfl, x, k1, ?_, l1⟩
  simp! [e1]) (iC 0 6) [PL ks] ks ⟨rfl, h⟩
 rw [bD] at e1;have e2 : zK true (.nm 4) gO (bE iU (aB (aC 0) aL)) [some (.cel 0), none, none, none, none] [4] (iC 0 6) [PL ks] = .ok (.cel 1) [PL k1, .lst (ns.map D.int)] := by
  unfold zK;rw [if_pos (sz (by decide)), show wipeE [some (Vl.cel 0), none, none, none, none] [4] = [some (Vl.cel 0), none, none, none, none] from rfl, e1]
  rfl
 have h1 : 2 <= k1.length := by omega
 obtain ⟨kd, k2, e3, d0, d1, l2⟩ := gA (S := [PL k1, .lst (ns.map D.int)]) (p := 0) ⟨rfl, h1⟩ (k := 5) (by decide) (by decide)
 rw [bD] at e3;have h2 : 2 <= k2.length := by omega
 obtain ⟨at_, k3, e4, a0, a1, l3⟩ := gA (S := [PL k2, .lst (ns.map D.int)]) (p := 0) ⟨rfl, h2⟩ (k := 6) (by decide) (by decide)
 rw [bD] at e4;have h3 : 2 <= k3.length := by omega
 obtain ⟨v, k4, e5, hv, l4⟩ := V9 (S := [PL k3, .lst (ns.map D.int)]) (ks := k3) ⟨rfl, h3⟩;rw [bD] at e5;have tr : ∀ {d : D} {k : List Int} {c : Cell}, trunc 1 (.ok (.dat d) [PL k, c]) = .ok (.dat d) [PL k] := fun {d k c} => jL (T := [PL k, c]) (ls k) rfl
 match ns, hl, e2, e3, e4, e5 with
 | [a, b, c, d, e, f], _, e2, e3, e4, e5 =>
  rw [Js];unfold tH;have fz : SM (.cel 1) [PL k2, .lst ([a, b, c, d, e, f].map D.int)] = .ok (.dat (.lst ([a, b, c, d, e, f].map D.int))) [PL k2, .dead] := rfl;have ap : vL (mC (.int 0)) [some (.cel 0), some (.cel 1), some (.dat (.int kd)), none, none] (.cel 1) [PL k2, .lst ([a, b, c, d, e, f].map D.int)] = .ok (.dat .non) [PL k2, .lst ([a, b, c, d, e, f, 0].map D.int)] := rfl;have pp : sD (.cel 1) [PL k2, .lst ([a, b, c, d, e, f].map D.int)] = .ok (.dat (.int f)) [PL k2, .lst ([a, b, c, d, e].map D.int)] := rfl;have tp : ∀ {k : List Int} {xs : List D}, fTuple (.cel 1) [PL k, .lst xs] = .ok (.dat (.tup xs)) [PL k, .lst xs] := fun {k xs} => rfl
  rcases (by omega : kd = 0 \/ kd = 1 \/ kd = 2 \/ kd = 3 \/ kd = 4) with rfl | rfl | rfl | hk
  ·simp! [IV, e2, e3, fz]
   exact ⟨_, k2, tr, ND, by omega⟩
  ·simp! [IV, e2, e3, ap, tp]
   exact ⟨_, k2, tr, Fs (by simp) (by simp), by omega⟩
  ·simp! [IV, e2, e3, pp, tp]
   exact ⟨_, k2, tr, Fs (by simp) (by simp), by omega⟩
  ·have n0 : decide (kd = 0) = false := decide_eq_false (by omega)
   have n1 : decide (kd = 1) = false := decide_eq_false (by omega)
   have n2 : decide (kd = 2) = false := decide_eq_false (by omega)
   have fin : ∃ xs : List D, (∀ ρ : Ev, ρ.length = 5 -> True) /\ yH (.tup xs) /\ wG (bE yU (aB (aC 0) aL)) (aC 1) (aC 3) [some (.cel 0), some (.cel 1), some (.dat (.int kd)), some (.dat (.int at_)), none] [PL k3, .lst ([a, b, c, d, e, f].map D.int)] = .next [some (.cel 0), some (.cel 1), some (.dat (.int kd)), some (.dat (.int at_)), none] [PL k4, .lst xs] := by
    have om : bE yU (aB (aC 0) aL) [some (.cel 0), some (.cel 1), some (.dat (.int kd)), some (.dat (.int at_)), none] [PL k3, .lst ([a, b, c, d, e, f].map D.int)] = .ok (.dat v) [PL k4, .lst ([a, b, c, d, e, f].map D.int)] := by
     simp! [e5]
    have ii : ∀ i : Int, NoIntV (.int i) \/ ∃ j, (D.int i) = .int j := fun i => .inr ⟨i, rfl⟩
    rcases (by omega : at_ = 0 \/ at_ = 1 \/ at_ = 2 \/ at_ = 3 \/ at_ = 4 \/ at_ = 5) with rfl | rfl | rfl | rfl | rfl | rfl
    ·refine ⟨[v, .int b, .int c, .int d, .int e, .int f], fun _ _ => trivial, qV (fun x hx => ?_) ⟨v, by simp, hv⟩, ?_⟩
     ·simp only [aY, dE, or_false] at hx
      rcases hx with rfl | rfl | rfl | rfl | rfl | rfl <;> first | exact .inl hv | exact ii _
     ·unfold wG; rw [om]; rfl
    ·refine ⟨[.int a, v, .int c, .int d, .int e, .int f], fun _ _ => trivial, qV (fun x hx => ?_) ⟨v, by simp, hv⟩, ?_⟩
     ·simp only [aY, dE, or_false] at hx
      rcases hx with rfl | rfl | rfl | rfl | rfl | rfl <;> first | exact .inl hv | exact ii _
     ·unfold wG; rw [om]; rfl
    ·refine ⟨[.int a, .int b, v, .int d, .int e, .int f], fun _ _ => trivial, qV (fun x hx => ?_) ⟨v, by simp, hv⟩, ?_⟩
     ·simp only [aY, dE, or_false] at hx
      rcases hx with rfl | rfl | rfl | rfl | rfl | rfl <;> first | exact .inl hv | exact ii _
     ·unfold wG; rw [om]; rfl
    ·refine ⟨[.int a, .int b, .int c, v, .int e, .int f], fun _ _ => trivial, qV (fun x hx => ?_) ⟨v, by simp, hv⟩, ?_⟩
     ·simp only [aY, dE, or_false] at hx
      rcases hx with rfl | rfl | rfl | rfl | rfl | rfl <;> first | exact .inl hv | exact ii _
     ·unfold wG; rw [om]; rfl
    ·refine ⟨[.int a, .int b, .int c, .int d, v, .int f], fun _ _ => trivial, qV (fun x hx => ?_) ⟨v, by simp, hv⟩, ?_⟩
     ·simp only [aY, dE, or_false] at hx
      rcases hx with rfl | rfl | rfl | rfl | rfl | rfl <;> first | exact .inl hv | exact ii _
     ·unfold wG; rw [om]; rfl
    ·refine ⟨[.int a, .int b, .int c, .int d, .int e, v], fun _ _ => trivial, qV (fun x hx => ?_) ⟨v, by simp, hv⟩, ?_⟩
     ·simp only [aY, dE, or_false] at hx
      rcases hx with rfl | rfl | rfl | rfl | rfl | rfl <;> first | exact .inl hv | exact ii _
     ·unfold wG; rw [om]; rfl
   obtain ⟨xs, _, hnp, hset⟩ := fin;simp! [IV, e2, e3, n0, n1, n2, e4, hset, tp];exact ⟨_, k4, tr, hnp, by omega⟩
theorem TK {bs : List (List Stt)} {p ex : Nat} {bits0 : List Int} (G : Good2 bs) (hp : p < bs.length) (hb : ∀ b ∈ bits0, b = 0 \/ b = 1) (hl : bits0.length + ex < 1000) (h : Says 6000 bs p (cW bs 3000 (eN p bits0 ex))) :
  (∃ m, (∀ S, jO (cW bs 3000 (eN p bits0 ex)) S = .ok (.dat (oF "run" m.way m)) S) /\ Ran 6000 m /\ ((∀ b ∈ m.bits, b = 0 \/ b = 1) /\ m.bits.length < 1000) /\ ∀ S, LS S -> bU [.dat (fF bs), .dat (.int (p : Int)), .dat (.lst (m.bits.map D.int))] S = .ok (.dat (.tup [.int m.way, .lst (m.deeds.map Deed.d)])) S) \/
  ∃ (w : Str) (i : Int) (dl : List D) (bits : List Int), (∀ S, jO (cW bs 3000 (eN p bits0 ex)) S = .ok (.dat (.tup [.str w, .int i, .lst dl, .lst (bits.map D.int)])) S) /\ decide (w = ("run" : Str)) = false /\ ((∀ b ∈ bits, b = 0 \/ b = 1) /\ bits.length < 1000) := by
 have hbit := Gp G.bg 3000 _ (C4 (ex := ex) (many := (bs.length : Int)) (p := p) (k := 3000) (by omega) hb (by omega) (by decide))
 have hlen := Bp (bs := bs) 3000 (eN p bits0 ex);have hlen : (cW bs 3000 (eN p bits0 ex)).bits.length < 1000 := Nat.lt_of_le_of_lt hlen hl
 revert h hbit hlen
 generalize cW bs 3000 (eN p bits0 ex) = x;intro h hbit hlen;cases x with
 | no m => exact h.elim
 | never m => exact .inr ⟨"never", -2, _, m.bits, fun _ => rfl, by decide, hbit, hlen⟩
 | short m => exact .inr ⟨"short", _, _, m.bits, fun _ => rfl, by decide, hbit, hlen⟩
 | long m => exact .inr ⟨"long", 0, [], [], fun _ => rfl, by decide, (fun b h => by cases h), by show 0 < 1000; omega⟩
 | fin m =>
  by_cases ht : m.taken < m.bits.length
  ·exact .inr ⟨"rest", m.taken, _, m.bits, fun S => by simp only [jO, if_pos ht]; rfl, by decide, hbit, hlen⟩
  ·refine .inl ⟨m, fun S => by simp only [jO, if_neg ht], h.1, ⟨hbit, hlen⟩, fun S ls => ?_⟩
   rw [h.2 S ls, if_neg ht]
theorem O3 {bs : List (List Stt)} {d : Int} (G : Good2 bs) (d0 : 0 <= d) (d7 : d < 7) : ∃ v : D, (∀ T, cH (.dat (.tup [.int (bs.length : Int), .int (-1), .bl true, .non, .str "0", .int 100000000000000000000, .tup [.int 0]])) (.dat (.int d)) T = .ok (.dat v) T) /\ DG bs v := by
 have hl3 := G.l3;have hl : bs.length <= 10 := by omega
 have ip : ∀ i : Int, (decide (0 <= i) && decide (i < (bs.length : Int))) = false -> DG bs (.int i) := fun i hi S => by rw [As hl, hi]
 rcases (by omega : d = 0 \/ d = 1 \/ d = 2 \/ d = 3 \/ d = 4 \/ d = 5 \/ d = 6) with rfl | rfl | rfl | rfl | rfl | rfl | rfl
 ·exact ⟨_, fun T => rfl, ip _ (by simp)⟩
 ·exact ⟨_, fun T => rfl, ip _ rfl⟩
 ·exact ⟨_, fun T => rfl, noint_bl.proc⟩
 ·exact ⟨_, fun T => rfl, noint_non.proc⟩
 ·exact ⟨_, fun T => rfl, noint_str.proc⟩
 ·exact ⟨_, fun T => rfl, ip _ (by rw [decide_eq_false (show ¬ (100000000000000000000 : Int) < (bs.length : Int) by omega), Hk])⟩
 ·exact ⟨_, fun T => rfl, noint_tup.proc⟩
theorem Rx {d : Int} (d0 : 0 <= d) (d6 : d < 6) : ∃ v : D, (∀ T, cH (.dat (.tup [.int 2, .int (-1), .bl true, .non, .str "1", .lst [.int 0]])) (.dat (.int d)) T = .ok (.dat v) T) /\ Ep v := by
 have ip : ∀ i : Int, (decide (0 <= i) && decide (i <= 1)) = false -> Ep (.int i) := fun i hi S => by rw [yV, hi]
 rcases (by omega : d = 0 \/ d = 1 \/ d = 2 \/ d = 3 \/ d = 4 \/ d = 5) with rfl | rfl | rfl | rfl | rfl | rfl
 ·exact ⟨_, fun T => rfl, ip _ rfl⟩
 ·exact ⟨_, fun T => rfl, ip _ rfl⟩
 ·exact ⟨_, fun T => rfl, noint_bl.bit⟩
 ·exact ⟨_, fun T => rfl, noint_non.bit⟩
 ·exact ⟨_, fun T => rfl, noint_str.bit⟩
 ·exact ⟨_, fun T => rfl, noint_lst.bit⟩
abbrev tY (v0 v2 v5 v7 : Option Vl) (bk wr gd bg bp bad : D) (p at_ : Int) (x13 x14 : Option Vl) : Ev := [v0, some (.cel 0), v2, some (.dat bk), some (.dat wr), v5, some (.dat (.int p)), v7, some (.dat gd), some (.dat bg), some (.dat bp), some (.dat (.int at_)), some (.dat bad), x13, x14, none]
section
variable {v0 v2 v5 v7 : Option Vl} {bk wr gd bg bp bad : D} {p at_ : Int} {S : aO}
theorem in22 (h : ∀ x2 x3, dP [.dat bk, .dat wr, x2, x3, .dat (.tup [.str "NoProcedure", .int 0])] S = .ok (.dat (.bl true)) S) (x13 : Vl) (x14 : Option Vl) :
  loop (.nm 14) pC [bg, bp] (tY v0 v2 v5 v7 bk wr gd bg bp bad p at_ (some x13) x14) S = .next (tY v0 v2 v5 v7 bk wr gd bg bp bad p at_ (some x13) (some (.dat bp))) S := by
 have t : ∀ (one : D), pC (tY v0 v2 v5 v7 bk wr gd bg bp bad p at_ (some x13) (some (.dat one))) S = .next (tY v0 v2 v5 v7 bk wr gd bg bp bad p at_ (some x13) (some (.dat one))) S := fun one => by
  unfold pC;simp! [h]
 refine (fL (ρ1 := tY v0 v2 v5 v7 bk wr gd bg bp bad p at_ (some x13) (some (.dat bg))) rfl (t bg)).trans ?_
 exact (fL (ρ1 := tY v0 v2 v5 v7 bk wr gd bg bp bad p at_ (some x13) (some (.dat bp))) rfl (t bp)).trans rfl
theorem out22 (h : ∀ x2 x3, dP [.dat bk, .dat wr, x2, x3, .dat (.tup [.str "NoProcedure", .int 0])] S = .ok (.dat (.bl true)) S) (x14 : Option Vl) :
  loop (.nm 13) pB [gd, bad, .non] (tY v0 v2 v5 v7 bk wr gd bg bp bad p at_ none x14) S = .next (tY v0 v2 v5 v7 bk wr gd bg bp bad p at_ none (some (.dat bp))) S := by
 have t : ∀ (b : D) (y : Option Vl), pB (tY v0 v2 v5 v7 bk wr gd bg bp bad p at_ (some (.dat b)) y) S = .next (tY v0 v2 v5 v7 bk wr gd bg bp bad p at_ none (some (.dat bp))) S := fun b y => by
  have e := in22 (v0 := v0) (v2 := v2) (v5 := v5) (v7 := v7) (gd := gd) (bg := bg) (bp := bp) (bad := bad) (p := p) (at_ := at_) h (.dat b) y;unfold pB;simp! [e]
 refine (fL (ρ1 := tY v0 v2 v5 v7 bk wr gd bg bp bad p at_ (some (.dat gd)) x14) rfl (t gd _)).trans ?_
 refine (fL (ρ1 := tY v0 v2 v5 v7 bk wr gd bg bp bad p at_ (some (.dat bad)) (some (.dat bp))) rfl (t bad _)).trans ?_
 exact (fL (ρ1 := tY v0 v2 v5 v7 bk wr gd bg bp bad p at_ (some (.dat .non)) (some (.dat bp))) rfl (t .non _)).trans rfl
theorem bad22 (h1 : ∀ x3, dP [.dat bk, .dat (.int p), .dat bad, x3, .dat (.tup [.str "NoRun", .int at_])] S = .ok (.dat (.bl true)) S) (h2 : ∀ x3, dP [.dat bk, .dat (.int p), .dat (.str "0"), x3, .dat (.tup [.str "NoRun", .int (-1)])] S = .ok (.dat (.bl true)) S) (x14 : Option Vl) :
  loop (.nm 14) pA [bg, bp] (tY v0 v2 v5 v7 bk wr gd bg bp bad p at_ none x14) S = .next (tY v0 v2 v5 v7 bk wr gd bg bp bad p at_ none (some (.dat bp))) S := by
 have t : ∀ (one : D), pA (tY v0 v2 v5 v7 bk wr gd bg bp bad p at_ none (some (.dat one))) S = .next (tY v0 v2 v5 v7 bk wr gd bg bp bad p at_ none (some (.dat one))) S := fun one => by
  unfold pA;simp! [h1, h2]
 refine (fL (ρ1 := tY v0 v2 v5 v7 bk wr gd bg bp bad p at_ none (some (.dat bg))) rfl (t bg)).trans ?_
 exact (fL (ρ1 := tY v0 v2 v5 v7 bk wr gd bg bp bad p at_ none (some (.dat bp))) rfl (t bp)).trans rfl
end
theorem KC {S : aO} {x0 x1 x2 x3 : Vl} {d : D} (he : xQ [x0, x1, x2, x3] S = .ok (.dat d) S) : qW [x0, x1, x2, x3] S = .ok (.dat (.tup [.str "told", d])) S := by
 have kt : ∀ {ρ : Ev} {T : aO}, rQ Bb Ve (.next ρ T) = .next ρ T := rfl;rw [GZ];unfold uQ;simp! [EL, HK, C6, C7, bW, bT, he, kt];rfl
theorem F0 {S : aO} {x0 x1 x2 : Vl} {w : Int} {ds : List Deed} {z : Pen} {s' : Ps} (ls : LS S) (he : bU [x0, x1, x2] (S ++ [.lst []]) = .ok (.dat (.tup [.int w, .lst (ds.map Deed.d)])) (S ++ [.lst []])) (ok : ∀ d ∈ ds, d.Ok) (h : lC ds ⟨[], z, []⟩ = some s') (hl : ds.length <= 900000) (hp : s'.pens.length <= 900000) :
  kJ [x0, x1, x2, .dat z.d] S = .ok (.dat (.tup [.str "told", .lst (s'.pens.map Pen.d)])) S := by
 have lsl : LS (S ++ [.lst []]) := ls.app;have tr := Md lsl he ok h hl hp;obtain ⟨x5, hE⟩ := WW (a0 := some x0) (a1 := some x1) (a2 := some x2) (a3 := some (.dat z.d)) (a4 := some (.cel S.length)) (a5 := none) (a6 := none) (zs := s'.pens.map Pen.d);have fg := QO (cs := Bb) (ix := 5) (il := 4) (ρ := [some x0, some x1, some x2, some (.dat z.d), some (.cel S.length), none, none]) (T := S) (zs := s'.pens.map Pen.d) rfl (by rw [aP]; exact hp)
 rw [hE] at fg;have kt : ∀ {ρ : Ev} {T : aO}, rQ Bb Vd (.next ρ T) = .next ρ T := rfl;have fz := lV (S := S ++ [.lst (s'.pens.map Pen.d)]) (wD (S0 := S) (xs := s'.pens.map Pen.d));rw [BS];unfold nP;simp! [EL, QJ, M3, M0, tr, fg, kt, fz];exact jL ls (by simp)
theorem Uo {w n : Int} {z : Pen} {S : aO} : eL 20 [.dat (.tup [.str "told", .tup [.int w, z.d, .int n]]), .dat (.tup [.str "told", .tup [.int w, z.d, .int n]])] S = .ok (.dat (.bl true)) S :=
 uC (n := 19) (by simp) (fun x hx => by
  simp only [aY, dE, or_false] at hx;rcases hx with rfl | rfl
  ·exact Bm
  ·exact uC (n := 18) (by simp) fun y hy => by
    simp only [aY, dE, or_false] at hy;rcases hy with rfl | rfl | rfl
    ·exact yP
    ·exact Fb
    ·exact yP) S
section
variable {v0 v2 v5 : Option Vl} {wr bp bad : D} {at_ : Int} {S : aO} {bs : List (List Stt)} {p : Nat} {m : Lm} {p' : Pen -> Ps} {M : List Int} {z : Pen} {x14 : Option Vl}
theorem Vh (ls : LS S) (he : ∀ S, LS S -> bU [.dat (fF bs), .dat (.int (p : Int)), .dat (.lst (m.bits.map D.int))] S = .ok (.dat (.tup [.int m.way, .lst (m.deeds.map Deed.d)])) S) (R : RunOf 6000 m p' M) (hb : yH bp) :
  mH (tY v0 v2 v5 (some (.dat (.tup [.str "run", .int m.way, .lst (m.deeds.map Deed.l), .lst (m.bits.map D.int)]))) (fF bs) wr (.lst (m.bits.map D.int)) z.d bp bad (p : Int) at_ none x14) S = .ret (.dat (.bl true)) S := by
 have hlen := R.len;have hnum := R.num z;have hnum2 : (p' z).pens.length <= 6000 := by
  have h2 : oG m.deeds <= m.deeds.length := yX m.deeds;omega
 have lsl : LS (S ++ [.lst []]) := ls.app;have lp := R.lpens ls z;have ra := KC (R.ran ls (he S ls) z);have tr := F0 (z := z) ls (he _ lsl) R.ok (R.pens z) (by omega) (by omega)
 have rp := IW (x0 := .dat (fF bs)) (x1 := .dat (.int (p : Int))) (x2 := .dat (.lst (m.bits.map D.int))) ls he hb;have s1 := Uo (w := m.way) (n := (oG m.deeds : Int)) (z := (p' z).z) (S := S);have s2 := Uq (l := (p' z).pens) (S := S) hnum2;have ln : eW (.dat (.lst ((p' z).pens.map Pen.d))) S = .ok (.dat (.int (oG m.deeds : Int))) S := by
  show Res.ok (Vl.dat (.int (((p' z).pens.map Pen.d).length : Int))) S = _
  rw [aP, hnum]
 unfold mH xH xI;simp! [cO, eZ, lL, rp, lp, C1, FB, ra, ln, s1, tr, s2]
end
theorem pw20 {S : aO} : JP (.dat (.int 10)) (.dat (.int 20)) S = .ok (.dat (.int 100000000000000000000)) S := rfl
theorem VR {a b c d e f : D} {S : aO} : kTup [.dat a, .dat b, .dat c, .dat d, .dat e, .dat f] S = .ok (.dat (.tup [a, b, c, d, e, f])) S := rfl
theorem law_true_k22 : ∀ ns : List Int, ns.length <= 63 -> ∃ S, m_law_k22 [.scr ns] [] = .ok (.dat (.bl true)) S := by
 intro ns hn;refine ⟨[], ?_⟩
 rw [Nu];obtain ⟨k0, e0, h0⟩ := Rn (S := []) hn;simp only [bT] at e0;have ls : ∀ k : List Int, LS [PL k] := fun k c hc n => by rw [bI.mp hc]; rfl
 obtain ⟨bs, k1, e1, G, l1⟩ := Mf h0;have b1 := G.l1;have b3 := G.l3;have hl : bs.length <= 10 := by omega
 obtain ⟨d, k2, e2, d0, d1, l2⟩ := gA (S := [PL k1]) (p := 0) ⟨rfl, by omega⟩ (k := 7) (by decide) (by decide)
 rw [bD] at e2;obtain ⟨wr, iw, hw⟩ := O3 G d0 d1;obtain ⟨d', k3, e3, d0', d1', l3⟩ := gA (S := [PL k2]) (p := 0) ⟨rfl, by omega⟩ (k := 6) (by decide) (by decide)
 rw [bD] at e3;obtain ⟨od, io, ho⟩ := Rx d0' d1';obtain ⟨pi, k4, e4, p0, p1, l4⟩ := gA (S := [PL k3]) (p := 0) ⟨rfl, by omega⟩ (k := (bs.length : Int)) (by omega) (by omega)
 rw [bD] at e4;obtain ⟨p, rfl⟩ : ∃ p : Nat, pi = (p : Int) := ⟨pi.toNat, by omega⟩
 obtain ⟨bits0, k5, e5, hs, hb0, hl0, l5⟩ := K4 (ex := 14) (p := p) (many := 10) (S := [PL k4]) (p0 := 0) (ks := k4) ⟨rfl, by omega⟩ (ls k4) G (by omega) (by decide) (by decide)
 rw [bD] at e5;have fd := TK G (by omega) hb0 (by omega) hs
 have key : ∀ (w : Str) (i : Int) (dl : List D) (bits : List Int), jO (cW bs 3000 (eN p bits0 14)) [PL k5] = .ok (.dat (.tup [.str w, .int i, .lst dl, .lst (bits.map D.int)])) [PL k5] -> (∀ b ∈ bits, b = 0 \/ b = 1) -> bits.length < 1000 ->
   (∀ (z : Pen) (bp bad : D) (at_ : Int) (v0 v2 v5 x14 : Option Vl) (k : List Int), yH bp -> mH (tY v0 v2 v5 (some (.dat (.tup [.str w, .int i, .lst dl, .lst (bits.map D.int)]))) (fF bs) wr (.lst (bits.map D.int)) z.d bp bad (p : Int) at_ none x14) [PL k] = .ret (.dat (.bl true)) [PL k]) ->
   trunc ([] : aO).length (cC (qY [some (.scr ns), none, none, none, none, none, none, none, none, none, none, none, none, none, none, none] [])) = .ok (.dat (.bl true)) [] := fun w i dl bits hf hbit hblen hend => by
  rw [hf] at e5;have e5' : pI [.cel 0, .dat (.lst (bls bs)), .dat (.int (p : Int)), .dat (.int 10), .dat (.int 14)] [PL k4] = .ok (.dat (.tup [.str w, .int i, .lst dl, .lst (bits.map D.int)])) [PL k5] := e5;obtain ⟨z, k6, e6, _, l6⟩ := V5 (S := [PL k5]) (p := 0) (ks := k5) ⟨rfl, by omega⟩
  rw [bD] at e6;obtain ⟨bp, k7, e7, hbp, l7⟩ := Np (ks := k6) (by omega)
  obtain ⟨ai, k8, e8, a0, a1, l8⟩ := gA (S := [PL k7]) (p := 0) ⟨rfl, by omega⟩ (k := (bits.length : Int) + 1) (by omega) (by omega)
  rw [bD] at e8;obtain ⟨at_, rfl⟩ : ∃ n : Nat, ai = (n : Int) := ⟨ai.toNat, by omega⟩
  have hbad : (bits.map D.int).take at_ ++ [od] ++ (bits.map D.int).drop at_ = (bits.take at_).map D.int ++ od :: (bits.drop at_).map D.int := by
   rw [Ba, Jw, dG]; rfl
  have fln : ∀ {U : aO}, eW (.dat (.lst (bits.map D.int))) U = .ok (.dat (.int (bits.length : Int))) U := fun {U} => by
   show Res.ok (Vl.dat (.int ((bits.map D.int).length : Int))) U = _
   rw [aP]
  have fl : ∀ {U : aO}, wI false (.dat (.lst (bits.map D.int))) U = .ok (.dat (.lst (bits.map D.int))) U := rfl;have ad1 : ∀ {U : aO}, dY false (.dat (.lst ((bits.map D.int).take at_))) (.dat (.lst [od])) U = .ok (.dat (.lst ((bits.map D.int).take at_ ++ [od]))) U := fun {U} => pV (sz (by rw [cX, aP]; show min at_ bits.length + 1 <= 1000; omega))
  have ad2 : ∀ {U : aO}, dY false (.dat (.lst ((bits.map D.int).take at_ ++ [od]))) (.dat (.lst ((bits.map D.int).drop at_))) U = .ok (.dat (.lst ((bits.take at_).map D.int ++ od :: (bits.drop at_).map D.int))) U := fun {U} => by
   rw [<- hbad];exact pV (bY (show ((bits.map D.int).take at_ ++ [od]).length + ((bits.map D.int).drop at_).length <= 3000 by simp; omega) (by decide))
  have sl1 : ∀ {U : aO}, RE false (.dat (.lst (bits.map D.int))) none (some (at_ : Int)) U = .ok (.dat (.lst ((bits.map D.int).take at_))) U := fun {U} => by rw [Px, Qi]; rfl
  have sl2 : ∀ {U : aO}, RE false (.dat (.lst (bits.map D.int))) (some (at_ : Int)) none U = .ok (.dat (.lst ((bits.map D.int).drop at_))) U := fun {U} => by rw [Px, Qj]; rfl
  have hx : ∀ b ∈ bits.take at_, b = 0 \/ b = 1 := fun b hb => hbit b (lE hb)
  have hatl : ((bits.take at_).length : Int) = (at_ : Int) := by rw [cX]; omega
  have R1 : ∀ x2 x3, dP [.dat (fF bs), .dat wr, x2, x3, .dat (.tup [.str "NoProcedure", .int 0])] [PL k8] = .ok (.dat (.bl true)) [PL k8] := fun x2 x3 => xF (ls k8) (fun T lt => JU lt hw) .pr (by intro h; cases h)
  have R2 : ∀ x3, dP [.dat (fF bs), .dat (.int (p : Int)), .dat (.lst ((bits.take at_).map D.int ++ od :: (bits.drop at_).map D.int)), x3, .dat (.tup [.str "NoRun", .int (at_ : Int)])] [PL k8] = .ok (.dat (.bl true)) [PL k8] := fun x3 => xF (ls k8) (fun T lt => by
   have := Kw (r := (bits.drop at_).map D.int) lt G (show p < bs.length by omega) hx ho
   rw [hatl] at this;exact this) (.run _) (by intro h; cases h)
  have R3 : ∀ x3, dP [.dat (fF bs), .dat (.int (p : Int)), .dat (.str "0"), x3, .dat (.tup [.str "NoRun", .int (-1)])] [PL k8] = .ok (.dat (.bl true)) [PL k8] := fun x3 => xF (ls k8) (fun T lt => JS lt G (show p < bs.length by omega)) (.run _) (by intro h; cases h)
  have lo1 := out22 (v0 := some (.scr ns)) (v2 := some (.dat (.lst (bls bs)))) (v5 := some (.dat od)) (v7 := some (.dat (.tup [.str w, .int i, .lst dl, .lst (bits.map D.int)]))) (gd := .lst (bits.map D.int)) (bg := z.d) (bp := bp) (bad := .lst ((bits.take at_).map D.int ++ od :: (bits.drop at_).map D.int)) (p := (p : Int)) (at_ := (at_ : Int)) R1 none;have lo2 := bad22 (v0 := some (.scr ns)) (v2 := some (.dat (.lst (bls bs)))) (v5 := some (.dat od)) (v7 := some (.dat (.tup [.str w, .int i, .lst dl, .lst (bits.map D.int)]))) (wr := wr) (gd := .lst (bits.map D.int)) (bg := z.d) (bp := bp) (bad := .lst ((bits.take at_).map D.int ++ od :: (bits.drop at_).map D.int)) (p := (p : Int)) (at_ := (at_ : Int)) R2 R3 (some (.dat bp));have en := hend z bp (.lst ((bits.take at_).map D.int ++ od :: (bits.drop at_).map D.int)) (at_ : Int) (some (.scr ns)) (some (.dat (.lst (bls bs)))) (some (.dat od)) (some (.dat bp)) k8 hbp;unfold qY;simp! [e0, e1, R6 G.ok (show 3 <= 9 by omega) hl, KJ (ls k1) G, BE, pw20, UL, e2, iw, VR, e3, io, e4, e5', KZ, fl, e6, e7, fln, e8, sl1, ad1, sl2, ad2, lo1]
  unfold xG;simp! [lo2, en];exact Um
 rcases fd with ⟨m, hf, R0, ⟨hb, hl'⟩, he⟩ | ⟨w, i, dl, bits, hf, hw2, hb, hl'⟩
 ·obtain ⟨p', M, R⟩ := R0.all
  exact key "run" m.way (m.deeds.map Deed.l) m.bits (hf _) hb hl' fun z bp bad at_ v0 v2 v5 x14 k hbp => Vh (ls k) he R hbp
 ·refine key w i dl bits (hf _) hb hl' fun z bp bad at_ v0 v2 v5 x14 k hbp => ?_
  unfold mH;simp! [cO, hw2]
end PH
open PySem PySem.W PySem.Calls PyProof.Rows
set_option maxHeartbeats 0 in
theorem PySem.Challenge.cw_penhome_k22_order_of_refusals_of_runs_holds : PySem.Challenge.rw_penhome_k22_order_of_refusals_of_runs.Holds := by
 w_on; o_law
 refine HandSHeadRun.head_any (r := OpenLaw.row PySem.Challenge.rw_penhome_k22_order_of_refusals_of_runs) (q := view (OpenLaw.row PySem.Challenge.rw_penhome_k22_order_of_refusals_of_runs).prog [70]) (H := PHZ.hk) (ob := PHZ.ob) (M := 8000) (loose := PHZ.loose) (d := HandSHeadRun.topDef (OpenLaw.row PySem.Challenge.rw_penhome_k22_order_of_refusals_of_runs).prog 70) (kwd := []) PHZ.ob_eq
  (by kernel_rfl) (fun s => by kernel_rfl) PHZ.run_ (by kernel_rfl) (by kernel_rfl) (by kernel_rfl) (by rfl) (by first | assumption | decide +kernel) (by decide +kernel) ⟨rfl, rfl, rfl, rfl, rfl, by decide +kernel⟩ ?hw ?hc
 case hw => w_witness2
 case hc =>
  refine PH.walk_g (l := PySem.Challenge.rw_penhome_k22_order_of_refusals_of_runs) (n := 63) (k := 31) (x := "_law_script") rfl (by decide) (by kernel_rfl) ⟨rfl, by decide, by decide⟩ ?F
  intro w mg fa h Y G hmg0;obtain ⟨K, KX, c⟩ := Y;have hmg : mg ("law" : PySem.Str) = some (.ref fa) := by
   have e : (HandSHeadRun.topDef (OpenLaw.row PySem.Challenge.rw_penhome_k22_order_of_refusals_of_runs).prog 70).name = ("law" : PySem.Str) := by kernel_rfl
   rw [<- e];exact hmg0
  have T := PHZ.txt (w := w) KX G c;have e := hmg.symm.trans T.G_law_k22;cases e;obtain ⟨fd, b, F⟩ := PHZ.law_fn (P := (PySem.Challenge.rw_penhome_k22_order_of_refusals_of_runs).prog) T;exact ⟨K, fd, PH.spF K PH.m_law_k22, KX, fun s v => b s [v] rfl, fun H a ns hl hO hS => PH.law_start PH.law_true_k22 H a ns hl hO hS, fun base _ _ => F base⟩
