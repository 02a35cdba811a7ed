import PyProof.Rows.All
import Wide.All
import OpenK.AllK
import Wide.FinOn
import KE.KStateDown
import Lean
import HandS.ForMost
import HandS.ForExc
import HandS.More
import HandS.Flow
import HandS.IsInst
import HandS.Defaults
import HandS.Head0
import HandS.Head1
import HandS.Head2
import HandS.HeadEnd
import HandS.HeadHook1
import HandS.HeadHook2
import HandS.HeadHook3
import HandS.TupAny
import HandS.Star
import HandS.Wide
import HandS.Zip
import HandS.Rev
import HandS.TryMany
import HandS.Small
import HandS.RaiseMore
import HandS.OwnEq
import HandS.Walk
import HandS.Deep
import HandS.ExcInit
import HandS.ExcField
import HandS.RevRange
import HandS.SortInts
import KE.GoesMore
import HandS.CallSlots
import PyProof.Rows.NestShow
import HandS.Dict
import HandS.Style
import HandS.Text
import HandS.FStr
import HandS.StrMore
import HandS.SetFor
import PyProof.InstNe
import HandS.ReplaceLit
import KE.SortKeyHeap
import HandS.ExcValue
import HandS.SortKw
import HandS.SetKeys
import HandS.WordsDict
import HandS.Conv
import HandS.DictComp
import HandS.Iter
import HandS.TupLen
import HandS.GenList
import HandS.IterNext
import HandS.DictSub
import PyProof.ReprLen
import PyProof.StrLawsRepr
import PySem.Challenge.RW_penhome_k23_whole_deep_recursion
set_option Elab.async false
set_option linter.all false
set_option maxRecDepth 100000
set_option maxHeartbeats 4000000
open PySem.W renaming Frag → aD, fnOf → dC, keepIn → hX, nsIn → jW, typeIn → mI, findIn → mJ, view → mK, callWith_K0 → vV, callWith_K → wU, SharedT → B4, subIn → DT, methodCall_KW → GT, callWith_KW → Hj, boot_heap → KG, openGood → KM
open And renaming intro → aE
open List renaming getElem?_eq_some_iff → aG, length_cons → aJ, map_cons → aK, mem_cons_of_mem → aL, getElem?_append_left → aM, length_map → aN, range → aP, getElem?_set → aV, getElem?_append_right → aX, mem_cons_self → aY, length_nil → aZ, getD_eq_getElem?_getD → bB, map_nil → bC, length_append → bF, mem_cons → bH, mem_of_getElem? → bI, nil_append → bL, map_append → bN, set_cons_zero → bO, replicate → bQ, getElem?_map → bT, mem_singleton → bU, cons_append → bV, getElem?_eq_getElem → bY, all_eq_true → cF, set_cons_succ → cO, append_nil → cS, append_assoc → cV, set_append_right → cY, getElem?_eq_none → cZ, mem_append → dD, mem_range → eD, range' → eI, getElem?_take → eO, lookup_cons → eP, drop_eq_getElem_cons → gP, getElem?_eq_none_iff → gQ, ext_getElem? → gS, map_congr_left → hZ, getElem?_range → iA, getElem?_cons_succ → iN, set_set → iT, map_map → iU, dropLast_concat → kB, length_take → kM, filter_cons_of_pos → mL, filter_cons_of_neg → mM, drop_length → oH, getElem_mem → oI, length_drop → oJ, mem_map → pY, zip_cons_cons → rA, all_cons → sY, range_succ → vK, any_cons → zB, pairwise_cons → AA, reverse_nil → CG, length → CH, find?_eq_some_iff_append → CI, mem_filter → CW, mem_or_eq_of_mem_set → ET, take_of_length_le → Hk, drop_eq_nil_of_le → Hl, dropLast_eq_take → J0, forall_mem_cons → KH, mem_of_mem_take → KI, mem_append_left → KJ, mem_map_of_mem → KN
open Nat renaming le_refl → bS, le_trans → dF, zero_le → eL, zero_add → fV, le_of_not_lt → tN, le_of_lt → B6, min_eq_left → DU
open Int renaming emod_nonneg → gT, emod_lt_of_pos → jC, toNat_natCast → jV, mul_zero → qN, mul_comm → B5
open Bool renaming and_eq_true → iO, and_true → zC, false_eq_true → A9, or_false → GU
open Or renaming inr → Ac, inl → CV
namespace PH
open PySem PySem.Spec PyProof.Rows L2
abbrev veL : List Value := [.type "ValueError", .type "Exception", .type "BaseException", .type "object"]
def xcB (K : aD) (x : Str) : Bool := PySem.W.excIn K (He.ga K x) veL "ValueError.__new__" && (hX K (.ref (He.ga K x)) && (decide (DT K (.ref (He.ga K x)) (.type "BaseException") = some true) && decide (mI K (.ref (He.ga K x)) = some (.type "type"))))
def oG : Stmt -> List Stmt
 | .ClassDef _ _ _ b _ _ _ _ _ _ _ => b
 | _ => []
def limits : List (Str × Nat × Int × Int) := [("go", 1, -9, 9), ("turn", 1, 1, 3), ("mirror", 0, 0, 0), ("scale", 1, -3, 3), ("aim", 2, -9, 9), ("place", 2, -9, 9), ("mark", 0, 0, 0), ("return", 0, 0, 0), ("exchange", 0, 0, 0)]
def FX (K : aD) (z : Str) : Addr := match jW K (He.ga K "LIMITS") z with
 | some (some (.ref a)) => a
 | _ => 0
def GZ (K : aD) (a : Addr) (vs : List V) : Bool := match K.lookup a with
 | some ⟨.type c, _, .seq its _, _⟩ => decide (c = "tuple") && (decide (its.size <= sizeLine) && He.relAll vs its.toList)
 | _ => false
def limB (K : aD) : Bool := limits.all fun q => He.eqO (jW K (He.ga K "LIMITS") q.1) (some (some (.ref (FX K q.1)))) && GZ K (FX K q.1) [.int (q.2.1 : Nat), .int q.2.2.1, .int q.2.2.2]
def Gz : He.Tab := (fun K => He.ga K "LIMITS", limits.map (·.1))
def Qv (K : aD) (C : Addr) : Bool := match K.lookup C with
 | some ⟨.type "type", _, .cls cd, sl⟩ => (match cd.mro, sl.toList with
  | .ref C' :: bm, [_, _, _, _, some (.builtin n), _] => C' == C && n == "ValueError.__new__" && !cd.hasDel && cd.hasDict && PySem.HandSPX.refsVE bm
  | _, _ => false)
 | _ => false
def xaB (K : aD) (x : Str) (fs : List Str) : Bool := Qv K (He.ga K x) && (decide (mJ K (.ref (He.ga K x)) "__setattr__" = some (some (.builtin "object.__setattr__"))) && (decide (DT K (.ref (He.ga K x)) (.type "BaseException") = some true) && (decide (mI K (.ref (He.ga K x)) = some (.type "type")) && (hX K (.ref (He.ga K x)) && (decide (mJ K (.ref (He.ga K x)) "__init__" = some (some (.ref (He.ma K (He.ga K x) "__init__")))) && (decide (mI K (.ref (He.ma K (He.ga K x) "__init__")) = some (.type "function")) && (xfB K (He.ga K x) && fs.all fun f => decide (mJ K (.ref (He.ga K x)) f = some none))))))))
end PH
namespace PH
open PySem PySem.Spec PyProof PyProof.Rows L2
def frR (g : Addr -> Option Obj) (n : Nat) : aD := He.frG g (aP n)
def Qw (n : Nat) (fa : List He.Fa) (fn : List He.DefD) (ts : List He.Tab) (ex : aD -> Bool) (g : Addr -> Option Obj) : He.AlT × Bool := (He.obsT fa fn ts (frR g n), ex (frR g n))
def QC (n : Nat) (fa : List He.Fa) (fn : List He.DefD) (ts : List He.Tab) (ex : aD -> Bool) : PySem.W.Hook where
 α := He.AlT × Bool
 obs := fun s => Qw n fa fn ts ex s.heap.get?
 val := fun w => (He.valT fn ts w, true)
 says := fun w h => ∃ K : aD, K.In h /\ He.SaysT fa fn ts w K /\ ex K = true
 of := fun _ _ e => ⟨_, He.frG_in, congrArg (fun z : He.AlT × Bool => z.1) e, congrArg (fun z : He.AlT × Bool => z.2) e⟩
 keeps := fun _ _ _ ⟨K, hK, c⟩ k => ⟨K, PySem.W.Frag.In.keeps hK k, c⟩
def obC (c : List He.DefD) (K : aD) : Bool × List He.FnW := (c.all fun d => d.ok K, c.map fun d => He.fnW K d.at_)
theorem Ci {σ β γ : Type} {o : Option σ} {l : σ -> β} {b : β} {sn : σ -> γ} {c : γ} {K : σ -> aD} {fa : List He.Fa} {fs : List (List He.DefD)} {ts : List He.Tab} {ex : aD -> Bool} {tv : List (Option (List (Option (Str × Int))))}
  (hA : (o.map fun s => (l s, sn s, fa.all fun f => f.ok (K s), ts.map fun t => He.dicW (K s) (t.1 (K s)), ex (K s))) = some (b, c, true, tv, true))
  (hD : ∀ f ∈ fs, (o.map fun s => obC f (K s)) = some (true, f.map He.DefD.val)) :
  (o.map fun s => (l s, sn s, (He.obsT fa fs.flatten ts (K s), ex (K s)))) = some (b, c, ((true, fs.flatten.map He.DefD.val), tv), true) := by
 cases o with
 | none => cases hA
 | some s =>
  have hA := Option.some.inj hA;have h1 := congrArg (fun z => z.1) hA
  have h2 := congrArg (fun z => z.2.1) hA
  have h3 := congrArg (fun z => z.2.2.1) hA
  have h4 := congrArg (fun z => z.2.2.2.1) hA
  have h5 := congrArg (fun z => z.2.2.2.2) hA
  dsimp only at h1 h2 h3 h4 h5;have hf : ∀ f ∈ fs, (f.all fun d => d.ok (K s)) = true /\ (f.map fun d => He.fnW (K s) d.at_) = f.map He.DefD.val := fun f hf => by
   have z := Option.some.inj (hD f hf);exact ⟨congrArg (fun z => z.1) z, congrArg (fun z => z.2) z⟩
  have hall : (fs.flatten.all fun d => d.ok (K s)) = true := by
   rw [cF];intro d hd;obtain ⟨f, h1, h2⟩ := List.mem_flatten.mp hd;exact cF.mp (hf f h1).1 d h2
  have hmap : (fs.flatten.map fun d => He.fnW (K s) d.at_) = fs.flatten.map He.DefD.val := by
   rw [List.map_flatten, List.map_flatten]
   congr 1
   exact hZ fun f h => (hf f h).2
  show some (l s, sn s, ((((fa.all fun f => f.ok (K s)) && (fs.flatten.all fun d => d.ok (K s)), fs.flatten.map fun d => He.fnW (K s) d.at_), ts.map fun t => He.dicW (K s) (t.1 (K s))), ex (K s))) = _
  rw [h1, h2, h3, h4, h5, hall, hmap];rfl
def tM (n : Str) (s : Stmt) : He.DefD := ⟨(n, none), n, n, defArgs s, defBody s, defScope s, [], []⟩
end PH
namespace PHZ
open PH PySem PySem.Spec PyProof.Rows L2
def top (i : Nat) : Stmt := PySem.Challenge.pw_penhome_k23_whole_deep_recursion.main.body.getD i (.Pass ⟨0, 0, 0, 0⟩)
abbrev rX : Stmt := top 12
abbrev BK : Stmt := top 13
abbrev xF : Stmt := top 14
abbrev oP : Stmt := top 15
abbrev wB : Stmt := top 16
abbrev tT : Stmt := top 22
abbrev qO : Stmt := top 23
abbrev lM : Stmt := top 25
abbrev iB : Stmt := top 24
abbrev qP : Stmt := top 26
abbrev qR : Stmt := top 27
abbrev lC : Stmt := (oG (top 29)).getD 0 (.Pass ⟨0, 0, 0, 0⟩)
abbrev pD : Stmt := (oG (top 29)).getD 1 (.Pass ⟨0, 0, 0, 0⟩)
abbrev iR : Stmt := (oG (top 29)).getD 6 (.Pass ⟨0, 0, 0, 0⟩)
abbrev nZ : Stmt := top 30
abbrev rY : Stmt := top 32
abbrev lB : Stmt := top 33
abbrev rZ : Stmt := top 34
abbrev mU : Stmt := top 35
abbrev fH : Stmt := (oG (top 37)).getD 0 (.Pass ⟨0, 0, 0, 0⟩)
abbrev gX : Stmt := (oG (top 37)).getD 1 (.Pass ⟨0, 0, 0, 0⟩)
abbrev gA : Stmt := (oG (top 37)).getD 2 (.Pass ⟨0, 0, 0, 0⟩)
abbrev fZ : Stmt := (oG (top 37)).getD 3 (.Pass ⟨0, 0, 0, 0⟩)
abbrev fO : Stmt := (oG (top 37)).getD 4 (.Pass ⟨0, 0, 0, 0⟩)
abbrev gB : Stmt := (oG (top 37)).getD 5 (.Pass ⟨0, 0, 0, 0⟩)
abbrev gY : Stmt := (oG (top 37)).getD 6 (.Pass ⟨0, 0, 0, 0⟩)
abbrev pC : Stmt := top 38
abbrev qQ : Stmt := top 39
abbrev Cg : Stmt := top 40
abbrev vC : Stmt := top 41
abbrev rW : Stmt := top 42
abbrev xH : Stmt := top 44
abbrev BO : Stmt := top 45
abbrev wC : Stmt := top 46
abbrev Ag : Stmt := top 47
abbrev BN : Stmt := top 48
abbrev Ah : Stmt := top 49
abbrev rH : Stmt := top 59
abbrev Af : Stmt := top 50
abbrev BM : Stmt := top 51
abbrev vD : Stmt := top 52
abbrev oA : Stmt := top 53
abbrev sC : Stmt := top 54
abbrev BL : Stmt := top 55
abbrev xI : Stmt := top 56
abbrev sA : Stmt := top 57
abbrev xG : Stmt := top 58
abbrev rG : Stmt := top 60
abbrev rF : Stmt := (oG (top 5)).getD 0 (.Pass ⟨0, 0, 0, 0⟩)
abbrev tR : Stmt := (oG (top 8)).getD 0 (.Pass ⟨0, 0, 0, 0⟩)
def vS : He.DefD := tM "is_integer" rX
def DG : He.DefD := tM "is_bit" BK
def DF : He.DefD := tM "is_pen" xF
def vT : He.DefD := tM "is_command" oP
def AM : He.DefD := tM "executed" wB
def yK : He.DefD := tM "blocks_of" tT
def uR : He.DefD := tM "with_blocks" qO
def tH : He.DefD := tM "copied_block" lM
def oN : He.DefD := tM "copied_statement" iB
def uS : He.DefD := tM "well_formed" qP
def uV : He.DefD := tM "first_fault" qR
def yL : He.DefD := ⟨("Book", some "__init__"), "__init__", "Book.__init__", defArgs lC, defBody lC, defScope lC, [], []⟩
def AS : He.DefD := ⟨("Book", some "__len__"), "__len__", "Book.__len__", defArgs pD, defBody pD, defScope pD, [], []⟩
def uW : He.DefD := ⟨("Book", some "bodies"), "bodies", "Book.bodies", defArgs iR, defBody iR, defScope iR, [], []⟩
def rP : He.DefD := tM "has_procedure" nZ
def AL : He.DefD := tM "identity" rY
def yJ : He.DefD := tM "matrix_of" lB
def AN : He.DefD := tM "composed" rZ
def uU : He.DefD := tM "kept_matrix" mU
def qH : He.DefD := ⟨("Execution", some "__init__"), "__init__", "Execution.__init__", defArgs fH, defBody fH, defScope fH, [], []⟩
def qF : He.DefD := ⟨("Execution", some "take"), "take", "Execution.take", defArgs gX, defBody gX, defScope gX, [], []⟩
def pV : He.DefD := ⟨("Execution", some "enter"), "enter", "Execution.enter", defArgs gA, defBody gA, defScope gA, [], []⟩
def pU : He.DefD := ⟨("Execution", some "leave"), "leave", "Execution.leave", defArgs fZ, defBody fZ, defScope fZ, [], []⟩
def oO : He.DefD := ⟨("Execution", some "unwind"), "unwind", "Execution.unwind", defArgs fO, defBody fO, defScope fO, [], []⟩
def pW : He.DefD := ⟨("Execution", some "begin"), "begin", "Execution.begin", defArgs gB, defBody gB, defScope gB, [], []⟩
def qG : He.DefD := ⟨("Execution", some "step"), "step", "Execution.step", defArgs gY, defBody gY, defScope gY, [], []⟩
def tG : He.DefD := tM "executed_run" pC
def uT : He.DefD := tM "pens_behind" qQ
def Mu : He.DefD := ⟨("ran", none), "ran", "ran", defArgs Cg, defBody Cg, defScope Cg, [], [("pen", .glo "HOME")]⟩
def G7 : He.DefD := ⟨("trace", none), "trace", "trace", defArgs vC, defBody vC, defScope vC, [], [("pen", .glo "HOME")]⟩
def vR : He.DefD := tM "run_matrix" rW
def DK : He.DefD := tM "_law_pool" xH
def DN : He.DefD := tM "_law_draw" BO
def AO : He.DefD := tM "_law_number" wC
def G9 : He.DefD := tM "_law_pen" Ag
def DM : He.DefD := tM "_law_move" BN
def GA : He.DefD := tM "_law_bit" Ah
def DI : He.DefD := tM "_law_task" rH
def G8 : He.DefD := tM "_law_run" Af
def DL : He.DefD := tM "_law_pens" BM
def C3 : He.DefD := tM "_law_probe" vD
def rQ : He.DefD := tM "_law_any_command" oA
def AR : He.DefD := tM "_law_blocks" sC
def DH : He.DefD := tM "_law_with" BL
def DO : He.DefD := tM "_law_copy" xI
def AQ : He.DefD := tM "_law_copies" sA
def DJ : He.DefD := tM "_law_same" xG
def C1 : He.DefD := tM "law" rG
def C0 : He.DefD := ⟨("NoBook", some "__init__"), "__init__", "NoBook.__init__", defArgs rF, defBody rF, defScope rF, [], []⟩
def DE : He.DefD := ⟨("NoRun", some "__init__"), "__init__", "NoRun.__init__", defArgs tR, defBody tR, defScope tR, [], []⟩
def fa : List He.Fa := ([.free "isinstance", .free "int", .free "bool", .free "tuple", .free "len", .free "all", .free "str", .glo "LIMITS", .free "range", .int "DEEPEST" 3, .free "list", .free "enumerate", .int "MOST_IN_LIST" 8, .int "MOST_IN_PROCEDURE" 12, .int "MOST_PROCEDURES" 3, .glo "NoBook", .cls "Book", .noat "Book" "own", .glo "NoCommand", .free "zip"] : List He.Fa) ++ ([.cls "Execution", .noat "Execution" "own", .noat "Execution" "bits", .noat "Execution" "taken", .noat "Execution" "deeds", .noat "Execution" "stack", .noat "Execution" "active", .noat "Execution" "ended", .glo "NoRun", .glo "NoProcedure", .cls "Execution", .mkr "Execution", .glo "Execution", .glo "NoPen", .free "min", .cls "Book", .mkr "Book", .glo "Book", .glo "is_integer", .glo "is_bit"] : List He.Fa) ++ ([.glo "is_pen", .glo "is_command", .glo "executed", .glo "blocks_of", .glo "with_blocks", .glo "copied_block", .glo "copied_statement", .glo "well_formed", .glo "first_fault", .meth "Book" "__init__", .meth "Book" "__len__", .meth "Book" "bodies", .glo "has_procedure", .glo "identity", .glo "matrix_of", .glo "composed", .glo "kept_matrix", .meth "Execution" "__init__", .meth "Execution" "take", .meth "Execution" "enter"] : List He.Fa) ++ ([.meth "Execution" "leave", .meth "Execution" "unwind", .meth "Execution" "begin", .meth "Execution" "step", .glo "executed_run", .glo "pens_behind", .glo "ran", .glo "trace", .glo "run_matrix", .glo "_law_pool", .glo "_law_draw", .glo "_law_number", .glo "_law_pen", .glo "_law_move", .glo "_law_bit", .glo "_law_task", .glo "_law_run", .glo "_law_pens", .glo "_law_probe", .glo "_law_any_command"] : List He.Fa) ++ ([.glo "_law_blocks", .glo "_law_with", .glo "_law_copy", .glo "_law_copies", .glo "_law_same", .glo "law"] : List He.Fa)
def fn0 : List He.DefD := [C0, DE, vS, DG, DF, vT, AM, yK, uR, tH, oN, uS, uV, yL, AS, uW, rP, AL, yJ, AN, uU, qH, qF, pV, pU, oO, pW, qG, tG, uT, Mu, G7, vR, DK, DN, AO, G9, DM, GA, DI, G8, DL, C3, rQ, AR, DH, DO, AQ, DJ, C1]
def fns : List (List He.DefD) := [fn0]
def fn : List He.DefD := fns.flatten
def ts : List He.Tab := [Gz]
def exs (K : aD) : List Bool := [limB K, xaB K "NoBook" ["procedure", "path"], xcB K "NoCommand", xaB K "NoRun" ["index"], xcB K "NoProcedure", xcB K "NoPen"]
def ex (K : aD) : Bool := (exs K).all id
def loose : List Str := (["_wall", "HomeError", "NoPen", "NoCommand", "NoBook", "NoProcedure", "NoPath", "NoRun", "HOME", "LIMITS", "is_integer", "is_bit", "is_pen", "is_command", "executed", "MOST_PROCEDURES", "MOST_IN_LIST", "MOST_IN_PROCEDURE", "DEEPEST", "blocks_of", "with_blocks", "copied_statement", "copied_block", "well_formed", "first_fault", "statement_at", "Book", "has_procedure", "identity", "matrix_of"] : List Str) ++ (["composed", "kept_matrix", "Execution", "executed_run", "pens_behind", "ran", "trace", "run_matrix", "_law_pool", "_law_draw", "_law_number", "_law_pen", "_law_move", "_law_bit", "_law_run", "_law_pens", "_law_probe", "_law_any_command", "_law_blocks", "_law_with", "_law_copy", "_law_copies", "_law_same", "_law_task"] : List Str)
abbrev R : PySem.W.OpenRow := PySem.W.OpenLaw.row PySem.Challenge.rw_penhome_k23_whole_deep_recursion
abbrev hk : PySem.W.Hook := QC 1200 fa fn ts ex
def ob (s : B4) : He.AlT × Bool := Qw 1200 fa fn ts ex (HandSHeadRun.getT s)
abbrev NC (w : World) : Prop := HandSHeadRun.RunEq R (mK R.prog [60]) hk ob 8000 loose w
noncomputable abbrev PM (w : World) (os : OsState) := HandSHeadRun.endF (HandSHeadRun.stepQ (HandSHeadRun.denQ HandSHeadRun.tabQ) R.prog w) 8000 R.prog w os
abbrev NR (s : B4) : aD := frR (HandSHeadRun.getT s) 1200
set_option maxHeartbeats 0 in
theorem Nt (w : World) : ∀ os : OsState, (PM (w.withFollow "special-get-raises" false) os).map (fun s => (HandSHeadRun.looksF R.prog (KG (w.withFollow "special-get-raises" false).params) s.abs, HandSHeadRun.seenQ (mK R.prog [60]) loose (PySem.importedModules R.prog.main.body) (fun s => PySem.W.xlAt (mK R.prog [60]) [] s && PySem.W.recOk R.toRowW.records s) s.abs, fa.all fun f => f.ok (NR s), ts.map fun t => He.dicW (NR s) (t.1 (NR s)), ex (NR s))) = some (true, KM (mK R.prog [60]) loose, true, ts.map (fun t => some (He.keysIn (w.withFollow "special-get-raises" false).params t.2)), true) := by
 intro os
 kernel_rfl
set_option maxHeartbeats 0 in
theorem Nu (w : World) : ∀ os : OsState, (PM (w.withFollow "special-get-raises" false) os).map (fun s => obC fn0 (NR s)) = some (true, fn0.map He.DefD.val) := by
 intro os
 kernel_rfl
theorem run_f (w : World) : NC (w.withFollow "special-get-raises" false) := fun os => Ci (fs := fns) (Nt w os) (KH.mpr ⟨Nu w os, fun f hf => nomatch hf⟩)
set_option maxHeartbeats 0 in
theorem Np (w : World) : ∀ os : OsState, (PM (w.withFollow "special-get-raises" true) os).map (fun s => (HandSHeadRun.looksF R.prog (KG (w.withFollow "special-get-raises" true).params) s.abs, HandSHeadRun.seenQ (mK R.prog [60]) loose (PySem.importedModules R.prog.main.body) (fun s => PySem.W.xlAt (mK R.prog [60]) [] s && PySem.W.recOk R.toRowW.records s) s.abs, fa.all fun f => f.ok (NR s), ts.map fun t => He.dicW (NR s) (t.1 (NR s)), ex (NR s))) = some (true, KM (mK R.prog [60]) loose, true, ts.map (fun t => some (He.keysIn (w.withFollow "special-get-raises" true).params t.2)), true) := by
 intro os
 kernel_rfl
set_option maxHeartbeats 0 in
theorem Nq (w : World) : ∀ os : OsState, (PM (w.withFollow "special-get-raises" true) os).map (fun s => obC fn0 (NR s)) = some (true, fn0.map He.DefD.val) := by
 intro os
 kernel_rfl
theorem run_t (w : World) : NC (w.withFollow "special-get-raises" true) := fun os => Ci (fs := fns) (Np w os) (KH.mpr ⟨Nq w os, fun f hf => nomatch hf⟩)
theorem run_ (w : World) : NC w := PySem.W.byRow2 "special-get-raises" run_f run_t w
end PHZ
namespace PH
open PySem PySem.Spec PyProof.Rows L2
section
variable {X : Cx}
theorem cW {e : Expr} {t u : TE} (h : PE X e t) (i : ∀ σ H Q, u σ H Q -> t σ H Q) : PE X e u := ⟨fun pins s σ H Q I q => h.run pins s σ H Q I (i σ H Q q)⟩
theorem CC {e : Expr} {t u : TT} (h : PT X e t) (i : ∀ σ H Q, u σ H Q -> t σ H Q) : PT X e u := ⟨fun pins s σ H Q I q => h.run pins s σ H Q I (i σ H Q q)⟩
theorem iM {f : Value -> Value -> Sem Value} {r u : R2} (h : OpR X f r) (i : ∀ x y H Q, u x y H Q -> r x y H Q) : OpR X f u := fun pins s σ H x y v w Q I rx ry q => h pins s σ H x y v w Q I rx ry (i x y H Q q)
theorem mT {f : Value} {r u : List V -> Hp -> VK -> Prop} (h : CallR X f r) (i : ∀ xs H Q, u xs H Q -> r xs H Q) : CallR X f u := fun pins s σ H xs us Q I rx q => h pins s σ H xs us Q I rx (i xs H Q q)
theorem Iy {r u : R2} (h : IxR X r) (i : ∀ x y H Q, u x y H Q -> r x y H Q) : IxR X u := fun e1 e2 pins s σ H x y v w Q I rx ry q => h e1 e2 pins s σ H x y v w Q I rx ry (i x y H Q q)
def sl : L2.St -> Nat -> Option V
 | [], _ => none
 | x :: _, 0 => x
 | _ :: r, n + 1 => sl r n
theorem Po : ∀ {σ : L2.St} {i : Nat} {v : V}, sl σ i = some v -> σ[i]? = some (some v)
 | [], _, _, h => by cases h
 | x :: _, 0, v, h => by
  have e : x = some v := h;rw [e]; rfl
 | _ :: r, n + 1, v, h => by
  have e := Po (σ := r) (i := n) (v := v) h
  simpa using e
def EE (i : Nat) : TE := fun σ H Q => match sl σ i with
 | some v => Q v H
 | none => False
theorem cv (i : Nat) {x : Str} {pos : Pos} (hN : X.N[i]? = some x := by rfl) (hv : Vis X.env.scope x := by first | exact CV rfl | exact Ac (CV rfl) | exact Ac (Ac rfl)) (hd : (x == ("__debug__" : Str)) = false := by decide)
  (hcd : (x == ("__classdict__" : Str)) = false := by decide) : PE X (.Name x pos) (EE i) := cW (pe_var hN hv hd hcd) fun σ H Q h => by
 unfold EE at h;cases e : sl σ i with
 | none => rw [e] at h; exact h.elim
 | some v => rw [e] at h; exact ⟨v, Po e, h⟩
def cI0 (g : Int -> Int -> V) : R2 := fun x y H Q => match x, y with
 | .int i, .int j => Q (g i j) H
 | _, _ => False
def cI (C : Int -> Int -> Prop) (g : Int -> Int -> V) : R2 := fun x y H Q => match x, y with
 | .int i, .int j => C i j /\ Q (g i j) H
 | _, _ => False
theorem A5 {g : Int -> Int -> V} : ∀ x y H Q, cI0 g x y H Q -> rI0 g x y H Q := fun x y H Q h => by
 cases x with
 | int i => cases y with
  | int j => exact ⟨i, j, rfl, rfl, h⟩
  | _ => exact h.elim
 | _ => exact h.elim
theorem Iq {C : Int -> Int -> Prop} {g : Int -> Int -> V} : ∀ x y H Q, cI C g x y H Q -> rI C g x y H Q := fun x y H Q h => by
 cases x with
 | int i => cases y with
  | int j => exact ⟨i, j, rfl, rfl, h.1, h.2⟩
  | _ => exact h.elim
 | _ => exact h.elim
def rAddI : R2 := fun x y H Q => match x, y with
 | .int i, .int j => Q (.int (i + j)) H
 | _, _ => False
def Pr : R2 := fun x y H Q => match x, y with
 | .int i, .int j => Q (.int (i - j)) H
 | _, _ => False
def Pv : R2 := fun x y H Q => match x, y with
 | .int i, .int j => IntMulOk i j /\ Q (.int (i * j)) H
 | _, _ => False
def Pw : R2 := fun x y H Q => match x, y with
 | .int i, .int j => (0 < j) /\ Q (.int (i % j)) H
 | _, _ => False
def Ky : R2 := fun x y H Q => match x, y with
 | .int i, .int j => (CDiv i j) /\ Q (.int (i / j)) H
 | _, _ => False
def Pu : R2 := fun x y H Q => match x, y with
 | .int i, .int j => (CPow i j) /\ Q (.int (i ^ j.toNat)) H
 | _, _ => False
def rLtC : R2 := fun x y H Q => match x, y with
 | .int i, .int j => Q (.bl (decide (i < j))) H
 | _, _ => False
def rLeC : R2 := fun x y H Q => match x, y with
 | .int i, .int j => Q (.bl (decide (i <= j))) H
 | _, _ => False
def rGtC : R2 := fun x y H Q => match x, y with
 | .int i, .int j => Q (.bl (decide (j < i))) H
 | _, _ => False
def rGeC : R2 := fun x y H Q => match x, y with
 | .int i, .int j => Q (.bl (decide (j <= i))) H
 | _, _ => False
def cAdd (K : aD) : R2 := fun x y H Q => match x, y with
 | .int i, .int j => Q (.int (i + j)) H
 | .str a, .str b => a.length + b.length <= sizeLine /\ Q (.str (a ++ b)) H
 | .ref _, .ref _ => rCat x y H Q \/ rCatA K x y H Q
 | _, _ => False
theorem cG : OpR X (binaryOp .Add) (cAdd X.K) := by
 refine iM (OpR.or (X := X) op_add (OpR.or op_add_str (OpR.or op_cat op_catA))) fun x y H Q h => ?_
 cases x with
 | int i => cases y with
  | int j => exact .inl ⟨i, j, rfl, rfl, h⟩
  | _ => exact h.elim
 | str i => cases y with
  | str j => exact .inr (.inl ⟨i, j, rfl, rfl, h.1, h.2⟩)
  | _ => exact h.elim
 | ref i => cases y with
  | ref j => exact .inr (.inr h)
  | _ => exact h.elim
 | _ => exact h.elim
theorem gU : OpR X (binaryOp .Sub) Pr := iM op_sub fun x y H Q h => A5 (g := fun i j => .int (i - j)) x y H Q h
theorem Ny : OpR X (binaryOp .Mult) (rI IntMulOk fun i j => .int (i * j)) := opI fun _ _ _ _ _ _ _ hc q => mul_int q hc
theorem eQ : OpR X (binaryOp .Mult) Pv := iM Ny fun x y H Q h => Iq (C := IntMulOk) (g := fun i j => .int (i * j)) x y H Q h
theorem mulL {i j : Int} (h1 : -(2 ^ 64) < i) (h2 : i < 2 ^ 64) : IntMulOk i j := CMul.ok (.inl ⟨h1, h2⟩)
theorem mulR {i j : Int} (h1 : -(2 ^ 64) < j) (h2 : j < 2 ^ 64) : IntMulOk i j := CMul.ok (.inr ⟨h1, h2⟩)
theorem oR : OpR X (binaryOp .Mod) Pw := iM op_mod fun x y H Q h => Iq (C := fun _ j => 0 < j) (g := fun i j => .int (i % j)) x y H Q h
theorem xK : OpR X (binaryOp .FloorDiv) Ky := iM op_fdiv fun x y H Q h => Iq (C := CDiv) (g := fun i j => .int (i / j)) x y H Q h
theorem IF : OpR X (binaryOp .Pow) Pu := iM op_pow fun x y H Q h => Iq (C := CPow) (g := fun i j => .int (i ^ j.toNat)) x y H Q h
theorem wD : OpR X (compareOp .Lt) rLtC := iM op_lt fun x y H Q h => A5 (g := fun i j => .bl (decide (i < j))) x y H Q h
theorem tX : OpR X (compareOp .LtE) rLeC := iM op_le fun x y H Q h => A5 (g := fun i j => .bl (decide (i <= j))) x y H Q h
theorem Dh : OpR X (compareOp .Gt) rGtC := iM op_gt fun x y H Q h => A5 (g := fun i j => .bl (decide (j < i))) x y H Q h
theorem Qt : OpR X (compareOp .GtE) rGeC := iM op_ge fun x y H Q h => A5 (g := fun i j => .bl (decide (j <= i))) x y H Q h
def cNeg : V -> Hp -> VK -> Prop := fun x H Q => match x with
 | .int i => Q (.int (-i)) H
 | _ => False
theorem NW : UnR X (unaryOp .USub) cNeg := fun pins s σ H x v Q I rx h => un_neg pins s σ H x v Q I rx (by
 cases x with
 | int i => exact ⟨i, rfl, h⟩
 | _ => exact h.elim)
def cEq (K : aD) : R2 := fun x y H Q => match x, y with
 | .int i, .int j => Q (.bl (decide (i = j))) H
 | .str i, .str j => Q (.bl (decide (i = j))) H
 | _, _ => rEqD K x y H Q
def cNe (K : aD) : R2 := fun x y H Q => match x, y with
 | .int i, .int j => Q (.bl (!decide (i = j))) H
 | .str i, .str j => Q (.bl (!decide (i = j))) H
 | _, _ => rNeD K x y H Q
theorem dI {i j : Int} : decide (V.int i = V.int j) = decide (i = j) := by
 by_cases h : i = j
 ·rw [decide_eq_true h, h, decide_eq_true rfl]
 ·rw [decide_eq_false h, decide_eq_false fun e => h (V.int.inj e)]
theorem dS {i j : Str} : decide (V.str i = V.str j) = decide (i = j) := by
 by_cases h : i = j
 ·rw [decide_eq_true h, h, decide_eq_true rfl]
 ·rw [decide_eq_false h, decide_eq_false fun e => h (V.str.inj e)]
theorem bA (hu : X.A.units + 64 < cLine) : OpR X (compareOp .Eq) (cEq X.K) := by
 refine iM (OpR.or (X := X) op_eq (op_eqD hu)) fun x y H Q h => ?_
 cases x with
 | int i => cases y with
  | int j => exact .inl ⟨rfl, by rw [dI]; exact h⟩
  | _ => exact .inr h
 | str i => cases y with
  | str j => exact .inl ⟨rfl, by rw [dS]; exact h⟩
  | _ => exact .inr h
 | _ => exact .inr h
theorem qS (hu : X.A.units + 64 < cLine) : OpR X (compareOp .NotEq) (cNe X.K) := by
 refine iM (OpR.or (X := X) op_ne (op_neD hu)) fun x y H Q h => ?_
 cases x with
 | int i => cases y with
  | int j => exact .inl ⟨rfl, by rw [dI]; exact h⟩
  | _ => exact .inr h
 | str i => cases y with
  | str j => exact .inl ⟨rfl, by rw [dS]; exact h⟩
  | _ => exact .inr h
 | _ => exact .inr h
variable {a b c : Expr} {ta tb tc : TE} {pos : Pos}
def cT (K : aD) : V -> Hp -> (Bool -> Hp -> Prop) -> Prop := fun x H Q => match x with
 | .bl k => Q k H
 | .non => Q false H
 | .int i => Q (i != 0) H
 | x => ∃ k, TruV K x H k /\ Q k H
def cTest (K : aD) (t : TE) : TT := fun σ H Q => t σ H fun x H' => cT K x H' Q
theorem N1 {K : aD} : ∀ x H Q, cT K x H Q -> ∃ k, TruV K x H k /\ Q k H := fun x H Q h => by
 cases x with
 | bl k => exact ⟨k, rfl, h⟩
 | non => exact ⟨false, rfl, h⟩
 | int i => exact ⟨_, rfl, h⟩
 | _ => exact h
theorem t_val (ha : PE X a ta) (he : ∀ whole, isTrue a X.env whole = (do let v <- whole; standAt a.pos; holding [v] (truthy v)) := by intro _; rfl) : PT X a (cTest X.K ta) := by
 refine ⟨fun pins s σ H Q I h => ?_⟩
 exact isTrue_plain (thn (ha.run pins s σ H _ I h) fun v s1 ⟨x, H1, I1, r1, q1⟩ => tru_ok pins s1 σ H1 x v Q I1 r1 (N1 x H1 Q q1)) (he _)
def cB (t : TE) : TT := fun σ H Q => t σ H fun x H' => match x with
 | .bl k => Q k H'
 | _ => False
theorem Pn {op : CmpOp} {r : R2} (ho : OpR X (compareOp op) r) (ha : PE X a ta) (hb : PE X b tb) (hm : behindInMarks op b = false := by rfl) : PT X (.Compare a [op] [b] pos) (cB (tOp r ta tb)) := by
 refine ⟨fun pins s σ H Q I h => ?_⟩
 have h' : ta σ H fun x H1 => tb σ H1 fun y H2 => r x y H2 fun z H3 => (match z with | .bl k => Q k H3 | _ => False) := h
 refine wpAny_isTrue_Compare1 (thn (ha.run pins s σ H _ I h') fun v s1 ⟨x, H1, I1, r1, q1⟩ => thn (hb.run pins s1 σ H1 _ I1 q1) fun u s2 ⟨y, H2, I2, r2, q2⟩ => thn (ho pins s2 σ H2 x y v u _ I2 r1 r2 q2) fun d s3 hz => ?_) hm
 obtain ⟨z, H3, I3, r3, q3⟩ := hz;cases z with
 | bl k => cases r3; exact wpAny_truthy_bool ⟨H3, I3, q3⟩
 | _ => exact q3.elim
theorem e_cmp {op : CmpOp} {r : R2} (ho : OpR X (compareOp op) r) (ha : PE X a ta) (hb : PE X b tb) (hm : behindInMarks op b = false := by rfl) : PE X (.Compare a [op] [b] pos) (tOp r ta tb) := pe_cmpR ho ha hb hm
end
section
variable {X : Cx} {a b c : Expr} {ta tb tc : TE} {pos : Pos}
variable {rest : List Expr}
def cAndV (ta tb : TE) : TE := fun σ H Q => ta σ H fun x H1 => match x with
 | .bl c => if c = true then tb σ H1 Q else Q (.bl false) H1
 | _ => False
def cNotV (K : aD) (ta : TE) : TE := fun σ H Q => ta σ H fun x H1 => cT K x H1 fun k H2 => Q (.bl (!k)) H2
theorem e_and (ha : PE X a ta) (hb : PE X (.BoolOp .And (b :: rest) pos) tb) : PE X (.BoolOp .And (a :: b :: rest) pos) (cAndV ta tb) := by
 refine ⟨fun pins s σ H Q I h => ?_⟩
 refine BoolOp_and (thn (ha.run pins s σ H _ I h) fun v s1 hq => ?_)
 obtain ⟨x, H1, I1, r1, q1⟩ := hq;cases x with
 | bl c =>
  cases r1;refine wpAny_truthy_bool ?_
  cases c with
  | true => exact hb.run pins s1 σ H1 Q I1 q1
  | false => exact ⟨.bl false, H1, I1, rfl, q1⟩
 | _ => exact q1.elim
theorem e_not (ha : PE X a ta) : PE X (.UnaryOp .Not a pos) (cNotV X.K ta) := by
 refine ⟨fun pins s σ H Q I h => ?_⟩
 refine UnaryOp_ (thn (ha.run pins s σ H _ I h) fun v s1 hq => ?_)
 obtain ⟨x, H1, I1, r1, q1⟩ := hq;exact not_of (thn (tru_ok pins s1 σ H1 x v (fun c H2 => Q (.bl (!c)) H2) I1 r1 (N1 x H1 _ q1)) fun c s2 ⟨H2, I2, q2⟩ => ⟨.bl (!c), H2, I2, rfl, q2⟩)
def EF (r r' : R2) (ta tb tc : TE) : TE := fun σ H Q => ta σ H fun x H1 => tb σ H1 fun y H2 => r x y H2 fun z H3 => match z with
 | .bl k => if k = true then tc σ H3 fun w' H4 => r' y w' H4 Q else Q (.bl false) H3
 | _ => False
theorem PP {op op' : CmpOp} {r r' : R2} (ho : OpR X (compareOp op) r) (ho' : OpR X (compareOp op') r') (ha : PE X a ta) (hb : PE X b tb) (hc : PE X c tc)
  (hm : lastMarks [op, op'] [b, c] = false := by with_unfolding_all rfl) : PE X (.Compare a [op, op'] [b, c] pos) (EF r r' ta tb tc) := by
 refine ⟨fun pins s σ H Q I h => ?_⟩
 refine Compare_chain (thn (ha.run pins s σ H _ I h) fun v s1 ⟨x, H1, I1, r1, q1⟩ => chain_link (thn (hb.run pins s1 σ H1 _ I1 q1) fun u s2 ⟨y, H2, I2, r2, q2⟩ =>
  thn (ho pins s2 σ H2 x y v u _ I2 r1 r2 q2) fun d s3 hz => ?_)) hm
 obtain ⟨z, H3, I3, r3, q3⟩ := hz;cases z with
 | bl k =>
  cases r3;refine wpAny_truthy_bool ?_
  cases k with
  | false => exact ite_ff ⟨.bl false, H3, I3, rfl, q3⟩
  | true => exact ite_tt (chain_last (thn (hc.run pins s3 σ H3 _ I3 q3) fun w' s4 ⟨z', H4, I4, r4, q4⟩ => ho' pins s4 σ H4 y z' u w' Q I4 r2 r4 q4))
 | _ => exact q3.elim
theorem NY {op op' : CmpOp} {r r' : R2} (ho : OpR X (compareOp op) r) (ho' : OpR X (compareOp op') r') (ha : PE X a ta) (hb : PE X b tb) (hc : PE X c tc)
  (hm : lastMarks [op, op'] [b, c] = false := by with_unfolding_all rfl) : PT X (.Compare a [op, op'] [b, c] pos) (cB (EF r r' ta tb tc)) := by
 refine ⟨fun pins s σ H Q I h => ?_⟩
 refine isTrue_chain (thn (ha.run pins s σ H _ I h) fun v s1 ⟨x, H1, I1, r1, q1⟩ => test_link (thn (hb.run pins s1 σ H1 _ I1 q1) fun u s2 ⟨y, H2, I2, r2, q2⟩ =>
  thn (ho pins s2 σ H2 x y v u _ I2 r1 r2 q2) fun d s3 hz => ?_)) hm
 obtain ⟨z, H3, I3, r3, q3⟩ := hz;cases z with
 | bl k =>
  cases r3;refine wpAny_truthy_bool ?_
  cases k with
  | false => exact ite_ff ⟨H3, I3, q3⟩
  | true =>
   refine ite_tt (test_last (thn (hc.run pins s3 σ H3 _ I3 q3) fun w' s4 ⟨z', H4, I4, r4, q4⟩ => thn (ho' pins s4 σ H4 y z' u w' _ I4 r2 r4 q4) fun d' s5 hz2 => ?_))
   obtain ⟨z2, H5, I5, r5, q5⟩ := hz2;cases z2 with
   | bl k2 => cases r5; exact wpAny_truthy_bool ⟨H5, I5, q5⟩
   | _ => exact q5.elim
 | _ => exact q3.elim
def cIx (K : aD) : R2 := fun x y H Q => match x, y with
 | .ref p, .int i => ∃ xs v, (SqL K H p xs \/ SqT K H p xs) /\ atI xs i = some v /\ Q v H
 | .str z, .int i => z.length <= sizeLine /\ ∃ c, atI z.cps.toList i = some c /\ Q (.str ⟨#[c]⟩) H
 | _, _ => False
theorem ix_C : IxR X (cIx X.K) := Iy ix_seq fun x y H Q h => by
 cases x with
 | ref p => cases y with
  | int i =>
   obtain ⟨xs, v, h1 | h1, h2, q⟩ := h
   ·exact .inl ⟨p, xs, i, v, rfl, rfl, h1, h2, q⟩
   ·exact .inr (.inl ⟨p, xs, i, v, rfl, rfl, h1, h2, q⟩)
  | _ => exact h.elim
 | str z => cases y with
  | int i =>
   obtain ⟨h1, c, h2, q⟩ := h;exact .inr (.inr ⟨z, i, c, rfl, rfl, h1, h2, q⟩)
  | _ => exact h.elim
 | _ => exact h.elim
theorem e_ix (ha : PE X a ta) (hb : PE X b tb) (hs : PlainIx b := by intro _ _; rfl) : PE X (.Subscript a b pos) (tOp (cIx X.K) ta tb) := pe_ix ix_C ha hb hs
def cLen (K : aD) : V -> Hp -> VK -> Prop := fun x H Q => match x with
 | .str z => z.length <= sizeLine /\ Q (.int z.length) H
 | .ref p => ∃ ys, (SqL K H p ys \/ SqT K H p ys) /\ Q (.int ys.length) H
 | _ => False
def c1 (r : V -> Hp -> VK -> Prop) : List V -> Hp -> VK -> Prop := fun xs H Q => match xs with
 | [x] => r x H Q
 | _ => False
theorem e_len {p : Pos} (hm : X.mg "len" = none) (ha : PE X a ta) (hg : Gl X "len" := by rfl) (hs : starEach [a] X.env = [(false, eval a X.env)] := by rfl) : PE X (.Call (.Name "len" p) [a] [] pos) (tCB (c1 (cLen X.K)) (tCons ta tNil)) :=
 pe_callB (mT (CallR.or call_len_seq call_len_str) fun xs H Q h => by
  match xs, h with
  | [x], h =>
   cases x with
   | str z => exact .inr ⟨z, rfl, h.1, h.2⟩
   | ref p =>
    obtain ⟨ys, h1, q⟩ := h;exact .inl ⟨p, ys, rfl, h1, q⟩
   | _ => exact h.elim) hg hm boot_len (pa_cons ha pa_nil hs) (he := hs)
def cInt : V -> Hp -> VK -> Prop := fun x H Q => match x with
 | .int i => Q (.int i) H
 | .bl k => Q (.int (if k then 1 else 0)) H
 | _ => False
theorem e_int {p : Pos} (hm : X.mg "int" = none) (ha : PE X a ta) (hg : Gl X "int" := by rfl) (hs : starEach [a] X.env = [(false, eval a X.env)] := by rfl) : PE X (.Call (.Name "int" p) [a] [] pos) (tCB (c1 cInt) (tCons ta tNil)) :=
 pe_callTy (mT call_int1 fun xs H Q h => by
  match xs, h with
  | [x], h =>
   cases x with
   | int i => exact .inl ⟨i, rfl, h⟩
   | bl k => exact .inr ⟨k, rfl, h⟩
   | _ => exact h.elim) hg hm boot_int (pa_cons ha pa_nil hs) (he := hs)
def isTy (T n : String) : Bool := n == T || (n == "bool" && T == "int")
def kinds : List String := ["NoneType", "bool", "int", "str", "list", "tuple", "dict"]
def targets : List String := ["int", "bool", "str", "list", "tuple", "dict"]
theorem OD (K : aD) : (kinds.all fun n => targets.all fun T => decide (PySem.W.kitOne K (.type n) (.type T) = some (isTy T n))) = true := by kernel_rfl
theorem H7 {K : aD} {n T : String} (hn : n ∈ kinds) (hT : T ∈ targets) : PySem.W.kitOne K (.type n) (.type T) = some (isTy T n) :=
 of_decide_eq_true (cF.mp (cF.mp (OD K) n hn) T hT)
def CD (K : aD) (H : Hp) (a : Addr) (n : String) : Prop := n ∈ ["list", "tuple", "dict"] /\ TyX K H (.ref a) (.type n)
def N3 (K : aD) (T : String) : V -> Hp -> VK -> Prop := fun x H Q => match x with
 | .non => Q (.bl false) H
 | .bl _ => Q (.bl (T == "bool" || T == "int")) H
 | .int _ => Q (.bl (T == "int")) H
 | .str _ => Q (.bl (T == "str")) H
 | .ref a => ∃ n, CD K H a n /\ Q (.bl (n == T)) H
 | _ => False
def cIsiL (K : aD) (T : String) : List V -> Hp -> VK -> Prop := fun xs H Q => match xs with
 | [x, .ty n] => if n = T then N3 K T x H Q else False
 | _ => False
theorem K8 {T : String} (hT : T ∈ targets) : CallR X (.builtin "isinstance") (cIsiL X.K T) := mT call_isi fun xs H Q h => by
 match xs, h with
 | [x, .ty n], h =>
  have h0 : if n = T then N3 X.K T x H Q else False := h
  by_cases e : n = T
  case neg => rw [if_neg e] at h0; exact h0.elim
  rw [if_pos e] at h0
  replace h := h0
  subst e;have go : ∀ (k : String) (b : Bool), k ∈ kinds -> TyX X.K H x (.type k) -> b = isTy n k -> Q (.bl b) H -> rIsi X.K [x, .ty n] H Q := fun k b hk ty e q => ⟨x, .ty n, .type k, .type n, isTy n k, rfl, .ty n, ty, H7 hk hT, by rw [<- e]; exact q⟩
  have h6 : n = "int" \/ n = "bool" \/ n = "str" \/ n = "list" \/ n = "tuple" \/ n = "dict" := by simpa [targets] using hT
  cases x with
  | non => exact go "NoneType" false (by decide) (.base .non) (by rcases h6 with e | e | e | e | e | e <;> subst e <;> decide) h
  | bl b => exact go "bool" _ (by decide) (.base (.bl b)) (by rcases h6 with e | e | e | e | e | e <;> subst e <;> decide) h
  | int b => exact go "int" _ (by decide) (.base (.int b)) (by rcases h6 with e | e | e | e | e | e <;> subst e <;> decide) h
  | str b => exact go "str" _ (by decide) (.base (.str b)) (by rcases h6 with e | e | e | e | e | e <;> subst e <;> decide) h
  | ref a =>
   obtain ⟨k, ⟨hk, ty⟩, q⟩ := h;have h3 : k = "list" \/ k = "tuple" \/ k = "dict" := by simpa using hk
   exact go k _ (by rcases h3 with e | e | e <;> subst e <;> decide) ty (by rcases h6 with e | e | e | e | e | e <;> rcases h3 with e' | e' | e' <;> subst e <;> subst e' <;> decide) q
  | _ => exact h.elim
def cIsE (K : aD) (T : String) (ta : TE) : TE := fun σ H Q => ta σ H fun x H1 => N3 K T x H1 Q
theorem e_isi {p q : Pos} {T : String} {y : Str} (hm : X.mg "isinstance" = none) (hmT : X.mg y = none) (ha : PE X a ta) (hT : T ∈ targets := by decide) (hv : bootBuiltins y = some (.type T) := by decide +kernel)
  (hg : Gl X "isinstance" := by rfl) (hgT : Gl X y := by rfl) (hn : y ≠ "__name__" := by decide) (hd : (y == ("__debug__" : Str)) = false := by decide) (hs : starEach [a, .Name y q] X.env = (false, eval a X.env) :: starEach [.Name y q] X.env := by rfl) :
  PE X (.Call (.Name "isinstance" p) [a, .Name y q] [] pos) (cIsE X.K T ta) :=
 cW (pe_callB (K8 hT) hg hm boot_isinstance (pa_cons ha (pa_cons (pe_bltn (v := .ty T) hgT hmT hv rfl hn hd) pa_nil) hs) (he := hs)) fun σ H Q h => by
  show ta σ H fun x H1 => if T = T then N3 X.K T x H1 Q else False
  simp only [if_true];exact h
def cAll (K : aD) : V -> Hp -> VK -> Prop := fun x H Q => match x with
 | .ref p => ∃ bs : List Bool, SqL K H p (bs.map V.bl) /\ Q (.bl (bs.all id)) H
 | _ => False
theorem e_all {p : Pos} (hm : X.mg "all" = none) (ha : PE X a ta) (hc : X.calm = true := by rfl) (hg : Gl X "all" := by rfl) (hs : starEach [a] X.env = [(false, eval a X.env)] := by rfl) : PE X (.Call (.Name "all" p) [a] [] pos) (tCB (c1 (cAll X.K)) (tCons ta tNil)) :=
 pe_callB (mT (cr_all hc) fun xs H Q h => by
  match xs, h with
  | [x], h =>
   cases x with
   | ref p =>
    obtain ⟨bs, h1, q⟩ := h;exact ⟨p, bs, rfl, h1, q⟩
   | _ => exact h.elim) hg hm boot_all (pa_cons ha pa_nil hs) (he := hs)
def QM (K : aD) : V -> Hp -> VK -> Prop := fun x H Q => match x with
 | .ref p => ∃ ys, (SqL K H p ys \/ SqT K H p ys) /\ ∀ l, H l = none -> Q (.ref l) (upd H l (.lst ys))
 | _ => False
theorem SU {p : Pos} (hm : X.mg "list" = none) (ha : PE X a ta) (hg : Gl X "list" := by rfl) (hs : starEach [a] X.env = [(false, eval a X.env)] := by rfl) : PE X (.Call (.Name "list" p) [a] [] pos) (tCB (c1 (QM X.K)) (tCons ta tNil)) :=
 pe_callTy (mT call_list_of fun xs H Q h => by
  match xs, h with
  | [x], h =>
   cases x with
   | ref p =>
    obtain ⟨bs, h1, q⟩ := h;exact ⟨p, bs, rfl, h1, q⟩
   | _ => exact h.elim) hg hm boot_list (pa_cons ha pa_nil hs) (he := hs)
def N0 (K : aD) : V -> Hp -> VK -> Prop := fun x H Q => match x with
 | .ref p => ∃ ys, SqL K H p ys /\ ∀ l, H l = none -> Q (.ref l) (upd H l (.tup ys))
 | _ => False
theorem PN {p : Pos} (hm : X.mg "tuple" = none) (ha : PE X a ta) (hg : Gl X "tuple" := by rfl) (hs : starEach [a] X.env = [(false, eval a X.env)] := by rfl) : PE X (.Call (.Name "tuple" p) [a] [] pos) (tCB (c1 (N0 X.K)) (tCons ta tNil)) :=
 pe_callTy (mT call_tuple_of fun xs H Q h => by
  match xs, h with
  | [x], h =>
   cases x with
   | ref p =>
    obtain ⟨ys, h1, q⟩ := h;exact ⟨p, ys, rfl, .inl ⟨h1, q⟩⟩
   | _ => exact h.elim) hg hm boot_tuple (pa_cons ha pa_nil hs) (he := hs)
end
def Ok (P : Program) (w : World) (K : aD) (mg : Str -> Option Value) (base : Heap) (k : Nat) (x : Str) (ps : List Str) (sp : Sp) : Prop :=
 ∃ fd, FnOk P w K mg base CX0 k (He.ga K x) fd ps sp /\ mg x = some (.ref (He.ga K x)) /\ hX K (.ref (He.ga K x)) = true /\ Binds K fd ps [] /\ ∃ oc od osl, K.lookup (He.ga K x) = some ⟨oc, od, .func fd, osl⟩
section
variable {P : Program} {w : World} {K : aD} {mg : Str -> Option Value} {base : Heap}
abbrev rB (K : aD) (x : Str) (st : Stmt) : Prop := ∃ fd, FunD K x x (defArgs st) (defBody st) (defScope st) [] [] (He.ga K x) fd
end
section
variable {X : Cx} {o i e : Expr} {to ti te : TE} {pos tpos : Pos}
def Ir : V -> V -> Hp -> VK -> Prop := fun x y H Q => match x, y with
 | .ref p, .int i => ∃ xs v, H p = some (.lst xs) /\ 0 <= i /\ xs[i.toNat]? = some v /\ Q v H
 | _, _ => False
theorem Jl : PGet X Ir := by
 intro pins s σ H o i ov iv Q I ro ri h;cases o with
 | ref p => cases i with
  | int k =>
   obtain ⟨xs, v, hp, h0, hx, q⟩ := h;cases ro;obtain ⟨t, rfl⟩ := ri;obtain ⟨its, r, pl, hz⟩ := I.list (.inl (.inl hp));obtain ⟨w, ew, rw'⟩ := r.get hx;have hl := r.length;have hn := line63;have hlt : k.toNat < xs.length := (aG.mp hx).1;exact wpAny_getItem_list pl.isList h0 (by omega) (by simpa using ew) ⟨v, H, I, rw', q⟩
  | _ => exact h.elim
 | _ => exact h.elim
def Ip : V -> V -> V -> Hp -> (Hp -> Prop) -> Prop := fun o i v H Q => match o, i with
 | .ref p, .int k => ∃ xs, H p = some (.lst xs) /\ 0 <= k /\ k.toNat < xs.length /\ Q (upd H p (.lst (xs.set k.toNat v)))
 | _, _ => False
theorem Cd : PSet X Ip := by
 intro pins s σ H o i v ov iv u Q I ro ri rv h;refine set_list pins s σ H o i v ov iv u Q I ro ri rv ?_
 cases o with
 | ref p => cases i with
  | int k =>
   obtain ⟨xs, hp, h0, hk, q⟩ := h;exact ⟨p, xs, k, k.toNat, rfl, rfl, hp, by unfold ixN; rw [if_pos h0, if_pos (by omega)], q⟩
  | _ => exact h.elim
 | _ => exact h.elim
def cIp (r : R2) : TIp := fun x y H Q => r x y H Q
theorem Ds : PIp X .Add (cIp rAddI) := fun pins s σ H x y v u Q I r1 r2 h => ip_add pins s σ H x y v u Q I r1 r2 (A5 (g := fun i j => .int (i + j)) x y H Q h)
theorem Qj {op : Operator} {tip : TIp} (ho : PE X o to) (hi : PE X i ti) (he : PE X e te) (hp : PIp X op tip)
  (ha : ∀ ov iv new, augStore i ov iv new = (do holding [new, ov, iv] (setItem ov iv new); release [new, ov, iv] []; pure .next) := by intros; rfl) : PS X (.AugAssign (.Subscript o i tpos) op e pos) (tAugS to ti te Ir tip Ip) :=
 ps_augS ho hi Jl he hp Cd ha
end
section
variable {X : Cx} {tg e : Expr} {te : TE} {pos p : Pos}
def Px : R2 := fun x y H Q => match y with
 | .non => Q (.bl (decide (x = .non))) H
 | _ => False
def Kx : R2 := fun x y H Q => match y with
 | .non => Q (.bl (!decide (x = .non))) H
 | _ => False
theorem Dg : OpR X (compareOp .Is) Px := iM op_isN fun x y H Q h => by
 cases y with
 | non => exact ⟨rfl, h⟩
 | _ => exact h.elim
theorem FG : OpR X (compareOp .IsNot) Kx := iM op_notN fun x y H Q h => by
 cases y with
 | non => exact ⟨rfl, h⟩
 | _ => exact h.elim
def cPart (t : TE) : TO := fun σ H Q => t σ H fun x H1 => match x with
 | .int i => Q (some i) H1
 | _ => False
theorem L4 (h : PE X e te) : PO X (some e) (cPart te) := by
 refine ⟨fun pins s σ H Q I hw => ?_⟩
 rw [evalPart_some];refine thn (h.run pins s σ H _ I hw) fun u s1 hq => ?_
 obtain ⟨x, H1, I1, r1, q1⟩ := hq;cases x with
 | int i =>
  obtain ⟨t, rfl⟩ := r1;exact ⟨some i, H1, I1, .int i t, q1⟩
 | _ => exact q1.elim
theorem Pe {r u : V -> Option Int -> Option Int -> Hp -> VK -> Prop} (h : SlR X r) (i : ∀ x lo hi H Q, u x lo hi H Q -> r x lo hi H Q) : SlR X u := by
 intro pins s σ H x v vl vu lo hi sl Q I rx hs pl pu q;exact h pins s σ H x v vl vu lo hi sl Q I rx hs pl pu (i x lo hi H Q q)
def cSl (K : aD) : V -> Option Int -> Option Int -> Hp -> VK -> Prop := fun x lo hi H Q => match x with
 | .ref a => (∃ xs, SqL K H a xs /\ ∀ p, H p = none -> Q (.ref p) (upd H p (.lst (cutV xs lo hi)))) \/ (∃ xs, SqT K H a xs /\
  (HT.sIx xs.length 0 lo = 0 /\ HT.sIx xs.length xs.length hi = xs.length -> Q (.ref a) H) /\ (¬ (HT.sIx xs.length 0 lo = 0 /\ HT.sIx xs.length xs.length hi = xs.length) -> ∀ p, H p = none -> Q (.ref p) (upd H p (.tup (cutV xs lo hi)))))
 | .str z => z.length <= sizeLine /\ Q (.str (cutS z lo hi)) H
 | _ => False
theorem sl_C : SlR X (cSl X.K) := Pe (SlR.or sl_list (SlR.or sl_tupA sl_str)) fun x lo hi H Q h => by
 cases x with
 | ref a =>
  rcases h with ⟨xs, h1, q⟩ | ⟨xs, h1, q⟩
  ·exact .inl ⟨a, xs, rfl, h1, q⟩
  ·exact .inr (.inl ⟨a, xs, rfl, h1, q⟩)
 | str z => exact .inr (.inr ⟨z, rfl, h⟩)
 | _ => exact h.elim
def iSeq (K : aD) (tl : TE) : TI := fun σ H R => tl σ H fun x H1 => match x with
 | .ref a => ((∃ xs, SqL K H1 a xs) /\ R (Itl K a) H1) \/ ((∃ xs, SqT K H1 a xs) /\ R (Itt K a) H1)
 | _ => False
theorem Qp (hl : PE X e te) : PI X tg e (iSeq X.K te) := by
 refine ⟨fun pins s σ H R I h => ?_⟩
 refine thn (hl.run pins s σ H _ I h) fun v s1 hq => ?_
 obtain ⟨x, H1, I1, r1, q1⟩ := hq;cases x with
 | ref a =>
  rcases q1 with ⟨h1, q⟩ | ⟨h1, q⟩
  ·cases r1
   obtain ⟨xs, hq⟩ := h1;obtain ⟨its, rv, p, hz⟩ := I1.list hq;refine wpAny_pyIter_list p.isList ?_
   refine ⟨s1.heap.objs.size, [s1.heap.objs.size], _, _, H1, rfl, I1.kept (t' := s1.toks) fun b o e => Heap.get?_push_of_some _ e, turn_list a _, ⟨_, Heap.get?_push_size _ rfl, rfl, rfl⟩, fun b hb => ?_, q⟩
   have e : b = s1.heap.objs.size := by simpa using hb
   subst e;exact I1.fpOk (bS _) (I1.hok.fresh (bS _))
  ·cases r1
   obtain ⟨xs, hq⟩ := h1;obtain ⟨its, rv, p, hz⟩ := I1.tuple hq;refine wpAny_pyIter_tuple (show s1.heap.IsTuple a its.toArray from p) ?_
   refine ⟨s1.heap.objs.size, [s1.heap.objs.size], _, _, H1, rfl, I1.kept (t' := s1.toks) fun b o e => Heap.get?_push_of_some _ e, turn_tuple a _, ⟨_, Heap.get?_push_size _ rfl, rfl, rfl⟩, fun b hb => ?_, q⟩
   have e : b = s1.heap.objs.size := by simpa using hb
   subst e;exact I1.fpOk (bS _) (I1.hok.fresh (bS _))
 | _ => exact q1.elim
def Iu : V -> List V -> Hp -> VK -> Prop := fun x vs H Q => match x, vs with
 | .ref l, [y] => ∃ xs, H l = some (.lst xs) /\ xs.length < sizeLine /\ Q .non (upd H l (.lst (xs ++ [y])))
 | _, _ => False
theorem Gu : MtR X "list.append" Iu := fun pins s σ H x xs v us Q I rx r h => mt_append pins s σ H x xs v us Q I rx r (by
 match x, xs, h with
 | .ref l, [y], ⟨xs, h1, h2, q⟩ => exact ⟨l, xs, y, rfl, rfl, h1, h2, q⟩)
def cPop : V -> List V -> Hp -> VK -> Prop := fun x vs H Q => match x, vs with
 | .ref l, [] => ∃ xs y, H l = some (.lst xs) /\ xs[xs.length - 1]? = some y /\ Q y (upd H l (.lst xs.dropLast))
 | _, _ => False
theorem O3 : MtR X "list.pop" cPop := fun pins s σ H x xs v us Q I rx r h => mt_pop pins s σ H x xs v us Q I rx r (by
 match x, xs, h with
 | .ref l, [], ⟨xs, y, h1, h2, q⟩ => exact ⟨l, xs, y, rfl, rfl, h1, h2, q⟩)
theorem SW {x : Str} {i : Int} (h : ∃ t, X.mg x = some (.int i t)) (hg : Gl X x := by rfl) (hd : (x == ("__debug__" : Str)) = false := by decide) : PE X (.Name x pos) (tC (.int i)) := by
 obtain ⟨t, h⟩ := h;exact pe_glob hg h ⟨t, rfl⟩ hd
def QO (K : aD) (d : Addr) (neg : Bool) : R2 := fun x y H Q => match x, y with
 | .str z, .ref a => a = d /\ ∃ r, jW K d z = some r /\ Q (.bl (if neg then !r.isSome else r.isSome)) H
 | _, _ => False
theorem Df {d : Addr} (D : ∃ es n, KDict X.K X.w d es n) : OpR X (compareOp .NotIn) (QO X.K d true) := by
 obtain ⟨es, n, D⟩ := D;refine iM (op_notIn_kd D) fun x y H Q h => ?_
 match x, y, h with
 | .str z, .ref a, ⟨e, r, h1, q⟩ => exact ⟨z, r, rfl, by rw [e], h1, q⟩
def cIxKd (K : aD) (d : Addr) : R2 := fun x y H Q => match x, y with
 | .ref a, .str z => a = d /\ ∃ u v, jW K d z = some (some u) /\ RelV v u /\ Q v H
 | _, _ => False
theorem RP {d : Addr} (D : ∃ es n, KDict X.K X.w d es n) : IxR X (cIxKd X.K d) := by
 obtain ⟨es, n, D⟩ := D;refine Iy ix_kdict fun x y H Q h => ?_
 match x, y, h with
 | .ref a, .str z, ⟨e, u, v, h1, h2, q⟩ => exact ⟨d, z, v, by rw [e], rfl, ⟨es, n, u, D.at_, D.lit, h1, h2⟩, q⟩
end
structure XcF (K : aD) (mg : Str -> Option Value) (x : Str) : Prop where
 exc : PySem.W.excIn K (He.ga K x) veL "ValueError.__new__" = true
 glo : mg x = some (.ref (He.ga K x))
 kp : hX K (.ref (He.ga K x)) = true
 sub : DT K (.ref (He.ga K x)) (.type "BaseException") = some true
 ty : mI K (.ref (He.ga K x)) = some (.type "type")
theorem GX {K : aD} {mg : Str -> Option Value} {x : Str} (h : xcB K x = true) (g : mg x = some (.ref (He.ga K x))) : XcF K mg x := by
 obtain ⟨h1, h2⟩ := He.ba h;obtain ⟨h3, h4⟩ := He.ba h2;obtain ⟨h5, h6⟩ := He.ba h4;exact ⟨h1, g, h3, of_decide_eq_true h5, of_decide_eq_true h6⟩
section
variable {X : Cx} {x : Str} {p pos pos' : Pos} {W : WX} {e : Expr} {es : List Expr} {t : TA} {ps : List Str} {sp : Sp} {k j : Nat} {E : XK}
def QW (cls : Value) (W : WX) : TS := fun _ σ H => W cls none σ H
theorem L5 (F : XcF X.K X.mg x) (hg : Gl X x) (hdb : (x == ("__debug__" : Str)) = false) : PMk X (.Call (.Name x p) [] [] pos) (fun _ H Q => Q (.ref (He.ga X.K x)) none H) := by
 intro pins s σ H Q I q;refine wpAny_Call_Name_kw (ld_glob I hg F.glo ?_ hdb)
 refine vV I.kIn F.kp ?_
 show wpAny _ _ (call (.ref (He.ga X.K x)) []) _ _ _
 obtain ⟨_, _, _, _, _, _, _, _, _, _, _, _, _, _, _, _, _, c1, c2, c3, T⟩ := exc_obj I.kIn F.exc;exact wpAny_call_exc_subT PySem.F.excBase_ValueError T c1 c2 c3 (fun _ _ m => mk_of I m (raises_own F.sub F.ty) q (I.hok.gone m.new)) (eL _)
theorem Nx (F : XcF X.K X.mg x) (tk : Takes X W) (hc : X.calm = true := by rfl) (hg : Gl X x := by rfl) (hdb : (x == ("__debug__" : Str)) = false := by decide) : PS X (.Raise (some (.Call (.Name x p) [] [] pos)) none pos') (QW (.ref (He.ga X.K x)) W) :=
 ps_raise hc tk (L5 F hg hdb)
end
def sX (P : Program) (w : World) (K : aD) (mg : Str -> Option Value) (base : Heap) (k : Nat) (x : Str) (ps : List Str) (sp : Sp) : Prop :=
 ∃ fd, FnOk P w K mg base (L2.CX P w) k (He.ga K x) fd ps sp /\ mg x = some (.ref (He.ga K x)) /\ hX K (.ref (He.ga K x)) = true /\ Binds K fd ps []
section
variable {P : Program} {w : World} {K : aD} {mg : Str -> Option Value} {base : Heap}
theorem LG {x : Str} {st : Stmt} {N ps : List Str} {k : Nat} {sp : Sp} (F : rB K x st) (g : mg x = some (.ref (He.ga K x))) (S : FnScope N ps (defScope st)) (len : ∀ vs H Q E, sp vs H Q E -> vs.length = ps.length)
  (bnd : ∀ (kV doc pm : Value) (an : Option Addr) (cdv ct : Value) (us : List Value), us.length = ps.length -> bindArgs (dC x x (defArgs st) (defBody st) (defScope st) .none kV doc pm an cdv ct) ⟨us, []⟩ = pure (ps.zip us))
  (hbody : ∀ (cdv : Value) (A : Around) (outer : List Env) (s : Shared) (H : Hp) (vs : List V) (Q : VK) (E : XK), Room k (A.deeper (envOfC x (defScope st) s.heap.objs.size (He.ga K x) cdv)) -> sp vs H Q E ->
   ∃ t, PSs (cxOf (L2.CX P w) P w K mg base N x (defScope st) (He.ga K x) cdv A outer s H E) (defBody st) t /\ t { nx := fun _ H' => Q .non H', rt := Q } (start N vs) H) : sX P w K mg base (k + 1) x ps sp := by
 obtain ⟨fd, F⟩ := F;refine ⟨fd, ?_, g, F.kp, F.bindsN bnd⟩
 obtain ⟨oc, od, dV, kV, doc, pm, an, cdv, ct, osl, e, lk, hc⟩ := F.ex;subst e;exact fn_of lk hc.1 S len fun A outer s H vs Q E hr hsp => hbody cdv A outer s H vs Q E hr hsp
end
def vX : WX := fun _ _ _ _ => False
def QN (K : aD) (T U : String) : V -> Hp -> (Bool -> Prop) -> Prop := fun x H Q => match x with
 | .non => Q false
 | .bl _ => Q (isTy T "bool" || isTy U "bool")
 | .int _ => Q (isTy T "int" || isTy U "int")
 | .str _ => Q (isTy T "str" || isTy U "str")
 | .ref a => ∃ n, CD K H a n /\ Q (isTy T n || isTy U n)
 | _ => False
def N2 (K : aD) (T U : String) : List V -> Hp -> VK -> Prop := fun xs H Q => match xs with
 | [x, .ref tp] => H tp = some (.tup [.ty T, .ty U]) /\ QN K T U x H fun b => Q (.bl b) H
 | _ => False
def cIsE2 (K : aD) (T U : String) (ta : TE) : TE := tCB (N2 K T U) (tCons ta (tCons (tTup (tCons (tC (.ty T)) (tCons (tC (.ty U)) tNil))) tNil))
section
variable {X : Cx} {a : Expr} {ta : TE} {pos p : Pos}
theorem OE {K : aD} {n T U : String} (hn : n ∈ kinds) (hT : T ∈ targets) (hU : U ∈ targets) : PySem.W.kitAny K (.type n) [.type T, .type U] = some (isTy T n || isTy U n) := by
 have h1 := H7 (K := K) hn hT;have h2 := H7 (K := K) hn hU;cases e1 : isTy T n with
 | true =>
  rw [e1] at h1;exact kitAny_cons h1 (fun z => by cases z) fun _ => rfl
 | false =>
  rw [e1] at h1;refine kitAny_cons h1 (fun _ => ?_) (fun z => by cases z)
  cases e2 : isTy U n with
  | true =>
   rw [e2] at h2;exact kitAny_cons h2 (fun z => by cases z) fun _ => rfl
  | false =>
   rw [e2] at h2;exact kitAny_cons h2 (fun _ => rfl) (fun z => by cases z)
theorem K9 {T U : String} (hT : T ∈ targets) (hU : U ∈ targets) : CallR X (.builtin "isinstance") (N2 X.K T U) := mT call_isiT fun xs H Q h => by
 match xs, h with
 | [x, .ref tp], ⟨ht, h⟩ =>
  have go : ∀ (k : String) (b : Bool), k ∈ kinds -> TyX X.K H x (.type k) -> b = (isTy T k || isTy U k) -> Q (.bl b) H -> rIsiT X.K [x, .ref tp] H Q := fun k b hk ty e q => ⟨x, tp, _, .type k, [.type T, .type U], _, rfl, ht, .cons (.ty T) (.cons (.ty U) .nil), ty, OE hk hT hU, by rw [<- e]; exact q⟩
  cases x with
  | non =>
   refine go "NoneType" false (by decide) (.base .non) ?_ h
   have : ∀ T ∈ targets, isTy T "NoneType" = false := by decide
   rw [this T hT, this U hU];rfl
  | bl b => exact go "bool" _ (by decide) (.base (.bl b)) rfl h
  | int b => exact go "int" _ (by decide) (.base (.int b)) rfl h
  | str b => exact go "str" _ (by decide) (.base (.str b)) rfl h
  | ref a =>
   obtain ⟨k, ⟨hk, ty⟩, q⟩ := h;have h3 : k = "list" \/ k = "tuple" \/ k = "dict" := by simpa using hk
   exact go k _ (by rcases h3 with e | e | e <;> subst e <;> decide) ty rfl q
  | _ => exact h.elim
theorem SV {q1 q2 tpos : Pos} {j : Nat} {T U : String} {y z : Str} (hm : X.mg "isinstance" = none) (hmT : X.mg y = none) (hmU : X.mg z = none) (ha : PE X a ta) (hT : T ∈ targets := by decide) (hU : U ∈ targets := by decide)
  (hv : bootBuiltins y = some (.type T) := by decide +kernel) (hw : bootBuiltins z = some (.type U) := by decide +kernel) (hg : Gl X "isinstance" := by rfl) (hgT : Gl X y := by rfl) (hgU : Gl X z := by rfl) (hn : y ≠ "__name__" := by decide) (hd : (y == ("__debug__" : Str)) = false := by decide) (hn2 : z ≠ "__name__" := by decide) (hd2 : (z == ("__debug__" : Str)) = false := by decide)
  (hs : starEach [a, .Tuple [.Name y q1, .Name z q2] j tpos] X.env = (false, eval a X.env) :: starEach [.Tuple [.Name y q1, .Name z q2] j tpos] X.env := by rfl) :
  PE X (.Call (.Name "isinstance" p) [a, .Tuple [.Name y q1, .Name z q2] j tpos] [] pos) (cIsE2 X.K T U ta) :=
 pe_callB (K9 hT hU) hg hm boot_isinstance (pa_cons ha (pa_cons (pe_tup (pa_cons (pe_bltn (v := .ty T) hgT hmT hv rfl hn hd) (pa_cons (pe_bltn (v := .ty U) hgU hmU hw rfl hn2 hd2) pa_nil))) pa_nil) hs) (he := hs)
end
structure OkMX (P : Program) (w : World) (K : aD) (mg : Str -> Option Value) (base : Heap) (k : Nat) (C m : Str) (ps : List Str) (sp : Sp) : Prop where
 ex : ∃ fd, FnOk P w K mg base (L2.CX P w) k (He.ma K (He.ga K C) m) fd ps sp /\ Binds K fd ps []
 mt : Meth K (He.ga K C) m (He.ma K (He.ga K C) m)
section
variable {X : Cx} {o e : Expr} {es : List Expr} {t : TA} {ta : TE} {apos pos p : Pos} {C m x : Str} {ps : List Str} {sp : Sp} {k j : Nat} {E : XK} {W : WX}
def cMeth (C : Addr) (m : Str) (sp : Sp) (E : XK) (ta : TE) (t : TA) : TE := fun σ H Q => ta σ H fun x H1 => match x with
 | .ref a => ∃ dx fs, H1 a = some (.ins C dx fs) /\ fs.lookup m = none /\ t σ H1 fun vs H2 => sp (.ref a :: vs) H2 Q E
 | _ => False
def cFld (C : Addr) (f : Str) (ta : TE) : TE := fun σ H Q => ta σ H fun x H1 => match x with
 | .ref a => ∃ dx fs v, H1 a = some (.ins C dx fs) /\ fs.lookup f = some v /\ Q v H1
 | _ => False
theorem e_fld {C : Addr} {f : Str} (c : Cls X.K C) (n : NoAttr X.K C f) (he : PE X e ta) (hb : attributeBase e f X.env (eval e X.env) = eval e X.env := by rfl) : PE X (.Attribute e f pos) (cFld C f ta) := by
 refine ⟨fun pins s σ H Q I h => ?_⟩
 refine attr_of hb (thn (he.run pins s σ H _ I h) fun u s1 hh => ?_)
 obtain ⟨x, H1, I1, rx, hq⟩ := hh;cases x with
 | ref a =>
  obtain ⟨dx, fs, v, ea, l, q⟩ := hq;obtain rfl : u = Value.ref a := rx;exact getattr_ok I1 ea c n l fun _ _ I2 ru => ⟨v, H1, I2, ru, q⟩
 | _ => exact hq.elim
def cSetF (C : Addr) (f : Str) (ta tv : TE) : TS := fun D σ H => tv σ H fun y H1 => ta σ H1 fun x H2 => match x with
 | .ref a => ∃ dx fs, H2 a = some (.ins C dx fs) /\ fs.length < 1000 /\ D.nx σ (upd H2 a (.ins C dx (putF f y fs)))
 | _ => False
theorem Qe {C : Addr} {f : Str} {value : Expr} {tv : TE} {pos' : Pos} (c : Cls X.K C) (n : NoAttr X.K C f) (ha : PE X o ta) (hv : PE X value tv) (hs : swapsWith value (some (.Attribute o f pos')) pos.line X.env = pure false := by rfl) : PS X (.Assign [.Attribute o f pos'] value pos) (cSetF C f ta tv) := by
 refine ⟨fun pins s σ H D I h => ?_⟩
 refine plainObj_wpAny_Assign_Attribute (thn (hv.run pins s σ H _ I h) fun u s1 hh => ?_) hs
 obtain ⟨y, H1, I1, ry, q⟩ := hh;refine thn (ha.run pins s1 σ H1 _ I1 q) fun ov s2 hh => ?_
 obtain ⟨x, H2, I2, rx, hq⟩ := hh;cases x with
 | ref a =>
  obtain ⟨dx, fs, ea, l, q2⟩ := hq;obtain rfl : ov = Value.ref a := rx;exact setattr_ok I2 ea c n l ry fun _ I3 => ⟨σ, _, I3, q2⟩
 | _ => exact hq.elim
structure ClF (K : aD) (mg : Str -> Option Value) (C : Str) : Prop where
 cls : Cls K (He.ga K C)
 mak : Mk K (He.ga K C) (He.ma K (He.ga K C) "__init__")
 glo : mg C = some (.ref (He.ga K C))
def rLenO (C : Addr) (sp : Sp) (E : XK) : V -> Hp -> VK -> Prop := fun x H Q => match x with
 | .ref a => ∃ dx fs, H a = some (.ins C dx fs) /\ sp [.ref a] H (fun v H' => match v with | .int n => (0 <= n /\ n < 2 ^ 62) /\ Q (.int n) H' | _ => False) E
 | _ => False
end
abbrev GW (K : aD) (C m q : Str) (st : Stmt) : Prop := ∃ fd, FunD K m q (defArgs st) (defBody st) (defScope st) [] [] (He.ma K (He.ga K C) m) fd
section
variable {P : Program} {w : World} {K : aD} {mg : Str -> Option Value} {base : Heap}
theorem O0 {C m q : Str} {st : Stmt} {N ps : List Str} {k : Nat} {sp : Sp} (F : GW K C m q st) (g : Meth K (He.ga K C) m (He.ma K (He.ga K C) m)) (S : FnScope N ps (defScope st)) (len : ∀ vs H Q E, sp vs H Q E -> vs.length = ps.length)
  (bnd : ∀ (kV doc pm : Value) (an : Option Addr) (cdv ct : Value) (us : List Value), us.length = ps.length -> bindArgs (dC m q (defArgs st) (defBody st) (defScope st) .none kV doc pm an cdv ct) ⟨us, []⟩ = pure (ps.zip us))
  (hbody : ∀ (cdv : Value) (A : Around) (outer : List Env) (s : Shared) (H : Hp) (vs : List V) (Q : VK) (E : XK), Room k (A.deeper (envOfC q (defScope st) s.heap.objs.size (He.ma K (He.ga K C) m) cdv)) -> sp vs H Q E ->
   ∃ t, PSs (cxOf (L2.CX P w) P w K mg base N q (defScope st) (He.ma K (He.ga K C) m) cdv A outer s H E) (defBody st) t /\ t { nx := fun _ H' => Q .non H', rt := Q } (start N vs) H) : OkMX P w K mg base (k + 1) C m ps sp := by
 obtain ⟨fd, F⟩ := F;exact ⟨⟨fd, FunD.ok F S len fun cdv A outer s H vs Q E hr hsp => hbody cdv A outer s H vs Q E hr hsp, F.bindsN bnd⟩, g⟩
end
inductive D where
 | non | bl (b : Bool) | int (i : Int) | str (x : Str) | lst (xs : List D) | tup (xs : List D) | ins (C : Str) (ns : List Str) (xs : List D) | dct | opq (k : Option (Int × Int))
inductive Vl where
 | dat (d : D) | cel (n : Nat) | cels (ns : List Nat) | scr (ns : List Int) | tc (xs : List (D ⊕ Nat))
inductive Cell where
 | dead | lst (xs : List D) | ins (C : Str) (fs : List (Str × Vl)) | dct (fs : List (Str × Vl)) | lv (xs : List Vl) | dki (ks : List Int) (xs : List Vl) | dkt (ks : List (Int × Int)) (xs : List Vl)
abbrev aQ := List Cell
abbrev Ev := List (Option Vl)
structure Er where
 cls : Str
 ns : List Str := []
 xs : List D := []
inductive Res (α : Type) where
 | ok (a : α) (S : aQ) | err (e : Er) (S : aQ) | stuck
def Res.bind {α β : Type} (r : Res α) (k : α -> aQ -> Res β) : Res β := match r with
 | .ok a S => k a S
 | .err e S => .err e S
 | .stuck => .stuck
def mH (φ : List Addr) (S : aQ) (a : Addr) : Prop := ∃ (n : Nat) (c : Cell), S[n]? = some c /\ c ≠ .dead /\ φ[n]? = some a
def jU (B : Addr -> Prop) (φ : List Addr) (S : aQ) (a : Addr) : Prop := B a \/ mH φ S a
mutual
/-- the tree d is at v -/
def Rep (K : aD) (Bk : Addr -> Prop) (H : Hp) : D -> V -> Prop
 | .non, v => v = .non
 | .bl b, v => v = .bl b
 | .int i, v => v = .int i
 | .str x, v => v = .str x
 | .lst ds, v => ∃ a vs, v = .ref a /\ ¬ Bk a /\ H a = some (.lst vs) /\ RepL K Bk H ds vs
 | .tup ds, v => ∃ a vs, v = .ref a /\ SqT K H a vs /\ RepL K Bk H ds vs
 | .ins C ns ds, v => ∃ a dx vs, v = .ref a /\ ¬ Bk a /\ H a = some (.ins (He.ga K C) dx (ns.zip vs)) /\ RepL K Bk H ds vs
 | .dct, v => ∃ a, v = .ref a /\ ¬ Bk a /\ H a = some (.dK [])
 | .opq none, v => ∃ a, v = .ref a
 | .opq (some k), v => ∃ a, v = .ref a /\ ¬ Bk a /\ H a = some (.tup [.int k.1, .int k.2])
def RepL (K : aD) (Bk : Addr -> Prop) (H : Hp) : List D -> List V -> Prop
 | [], vs => vs = []
 | d :: ds, vs => ∃ v ws, vs = v :: ws /\ Rep K Bk H d v /\ RepL K Bk H ds ws
end
structure Kp (Bk : Addr -> Prop) (H : Hp) (Bk' : Addr -> Prop) (H' : Hp) : Prop where
 old : ∀ b o, H b = some o -> ¬ Bk b -> H' b = some o /\ ¬ Bk' b
 tup : ∀ b u, Rd H b (.tup u) -> Rd H' b (.tup u)
theorem SqT.kp {K : aD} {H H' : Hp} {a : Addr} {vs : List V} (t : ∀ b u, Rd H b (.tup u) -> Rd H' b (.tup u)) (h : SqT K H a vs) : SqT K H' a vs := by
 rcases h with h | h
 ·exact .inl (t _ _ h)
 ·exact .inr h
mutual
theorem Rep.kp {K : aD} {Bk Bk' : Addr -> Prop} {H H' : Hp} (k' : Kp Bk H Bk' H') : ∀ (d : D) (v : V), Rep K Bk H d v -> Rep K Bk' H' d v
 | .non, v, h => h
 | .bl b, v, h => h
 | .int i, v, h => h
 | .str x, v, h => h
 | .lst ds, v, ⟨a, vs, e, nb, h, r⟩ => ⟨a, vs, e, (k'.old _ _ h nb).2, (k'.old _ _ h nb).1, RepL.kp k' ds vs r⟩
 | .tup ds, v, ⟨a, vs, e, h, r⟩ => ⟨a, vs, e, SqT.kp k'.tup h, RepL.kp k' ds vs r⟩
 | .ins C ns ds, v, ⟨a, dx, vs, e, nb, h, r⟩ => ⟨a, dx, vs, e, (k'.old _ _ h nb).2, (k'.old _ _ h nb).1, RepL.kp k' ds vs r⟩
 | .dct, v, ⟨a, e, nb, h⟩ => ⟨a, e, (k'.old _ _ h nb).2, (k'.old _ _ h nb).1⟩
 | .opq none, v, h => h
 | .opq (some k), v, ⟨a, e, nb, h⟩ => ⟨a, e, (k'.old _ _ h nb).2, (k'.old _ _ h nb).1⟩
theorem RepL.kp {K : aD} {Bk Bk' : Addr -> Prop} {H H' : Hp} (k : Kp Bk H Bk' H') : ∀ (ds : List D) (vs : List V), RepL K Bk H ds vs -> RepL K Bk' H' ds vs
 | [], vs, h => h
 | d :: ds, vs, ⟨v, ws, e, h1, h2⟩ => ⟨v, ws, e, Rep.kp k d v h1, RepL.kp k ds ws h2⟩
end
def ScrAt (K : aD) (H : Hp) (a : Addr) (vs : List V) : Prop := (∃ o, H a = some (.frz o (.lst vs))) \/ SqL K (fun _ => none) a vs
theorem ScrAt.sq {K : aD} {H : Hp} {a : Addr} {vs : List V} (h : ScrAt K H a vs) : SqL K H a vs := by
 rcases h with ⟨o, h⟩ | (h | ⟨o, h⟩) | h
 ·exact .inl (.inr ⟨o, h⟩)
 ·cases h
 ·cases h
 ·exact .inr h
theorem ScrAt.keep {K : aD} {H H' : Hp} {a : Addr} {vs : List V} (h : ScrAt K H a vs) (k : ∀ o u, H a = some (.frz o u) -> H' a = some (.frz o u)) : ScrAt K H' a vs := by
 rcases h with ⟨o, h⟩ | h
 ·exact .inl ⟨o, k _ _ h⟩
 ·exact .inr h
def RepI (K : aD) (Bk : Addr -> Prop) (φ : List Addr) (H : Hp) : D ⊕ Nat -> V -> Prop
 | .inl d, v => Rep K Bk H d v
 | .inr n, v => ∃ a, v = .ref a /\ φ[n]? = some a
def RepIs (K : aD) (Bk : Addr -> Prop) (φ : List Addr) (H : Hp) : List (D ⊕ Nat) -> List V -> Prop
 | [], vs => vs = []
 | x :: xs, vs => ∃ v ws, vs = v :: ws /\ RepI K Bk φ H x v /\ RepIs K Bk φ H xs ws
theorem RepI.kp {K : aD} {Bk Bk' : Addr -> Prop} {φ φ' : List Addr} {H H' : Hp} (k : Kp Bk H Bk' H') (hφ : ∀ (n : Nat) (a : Addr), φ[n]? = some a -> φ'[n]? = some a) : ∀ {x : D ⊕ Nat} {v : V}, RepI K Bk φ H x v -> RepI K Bk' φ' H' x v
 | .inl d, v, h => Rep.kp k d v h
 | .inr n, v, ⟨a, h1, h2⟩ => ⟨a, h1, hφ _ _ h2⟩
theorem RepIs.kp {K : aD} {Bk Bk' : Addr -> Prop} {φ φ' : List Addr} {H H' : Hp} (k : Kp Bk H Bk' H') (hφ : ∀ (n : Nat) (a : Addr), φ[n]? = some a -> φ'[n]? = some a) : ∀ {xs : List (D ⊕ Nat)} {vs : List V}, RepIs K Bk φ H xs vs -> RepIs K Bk' φ' H' xs vs
 | [], vs, h => h
 | x :: xs, vs, ⟨v, ws, e, h1, h2⟩ => ⟨v, ws, e, h1.kp k hφ, RepIs.kp k hφ h2⟩
def RepV (K : aD) (B : Addr -> Prop) (φ : List Addr) (S : aQ) (H : Hp) : Vl -> V -> Prop
 | .dat d, v => Rep K (jU B φ S) H d v
 | .cel n, v => ∃ a, v = .ref a /\ φ[n]? = some a
 | .cels ns, v => ∃ (a : Addr) (as : List Addr), v = .ref a /\ ¬ jU B φ S a /\ H a = some (.lst (as.map V.ref)) /\ ns.map (fun n => φ[n]?) = as.map some
 | .scr ns, v => ∃ a, v = .ref a /\ ScrAt K H a (ns.map V.int)
 | .tc xs, v => ∃ a vs, v = .ref a /\ SqT K H a vs /\ RepIs K (jU B φ S) φ H xs vs
def RepVs (K : aD) (B : Addr -> Prop) (φ : List Addr) (S : aQ) (H : Hp) : List Vl -> List V -> Prop
 | [], vs => vs = []
 | d :: ds, vs => ∃ v ws, vs = v :: ws /\ RepV K B φ S H d v /\ RepVs K B φ S H ds ws
def RepF (K : aD) (B : Addr -> Prop) (φ : List Addr) (S : aQ) (H : Hp) : List (Str × Vl) -> List (Str × V) -> Prop
 | [], vs => vs = []
 | d :: ds, vs => ∃ v ws, vs = (d.1, v) :: ws /\ RepV K B φ S H d.2 v /\ RepF K B φ S H ds ws
def iQ (fs : List (Str × V)) : List (Key × V) := fs.map fun p => (Sum.inr p.1, p.2)
def kvI (ks : List Int) (vs : List V) : List (Key × V) := (ks.map Sum.inl).zip vs
def kvT (ks : List (Int × Int)) (vs : List V) : List (List Key × V) := (ks.map fun p => [Sum.inl p.1, Sum.inl p.2]).zip vs
def ES (K : aD) (B : Addr -> Prop) (φ : List Addr) (S : aQ) (H : Hp) : Cell -> Addr -> Prop
 | .dead, _ => True
 | .lst ds, a => ∃ vs, H a = some (.lst vs) /\ RepL K (jU B φ S) H ds vs
 | .ins C fs, a => ∃ dx vfs, H a = some (.ins (He.ga K C) dx vfs) /\ RepF K B φ S H fs vfs
 | .dct fs, a => ∃ vfs, H a = some (.dK (iQ vfs)) /\ RepF K B φ S H fs vfs
 | .lv xs, a => ∃ vs, H a = some (.lst vs) /\ RepVs K B φ S H xs vs
 | .dki ks xs, a => ∃ vs, H a = some (.dK (kvI ks vs)) /\ RepVs K B φ S H xs vs
 | .dkt ks xs, a => ∃ vs, H a = some (.dT (kvT ks vs)) /\ RepVs K B φ S H xs vs
structure GInv (K : aD) (B : Addr -> Prop) (φ : List Addr) (S : aQ) (H : Hp) : Prop where
 len : φ.length = S.length
 ok : ∀ (n : Nat) (c : Cell) (a : Addr), S[n]? = some c -> φ[n]? = some a -> ES K B φ S H c a
 inj : ∀ (n m : Nat) (c c' : Cell) (a : Addr), S[n]? = some c -> c ≠ .dead -> S[m]? = some c' -> c' ≠ .dead -> φ[n]? = some a -> φ[m]? = some a -> n = m
 blk : ∀ a, mH φ S a -> ¬ B a
 btr : ∀ a, B a -> ∃ o, H a = some o
structure Ext (φ : List Addr) (S : aQ) (H : Hp) (φ' : List Addr) (S' : aQ) (H' : Hp) : Prop where
 old : ∀ b o, H b = some o -> ¬ mH φ S b -> H' b = some o /\ ¬ mH φ' S' b
 ids : ∀ (n : Nat) (a : Addr), φ[n]? = some a -> φ'[n]? = some a
section
variable {K : aD} {B : Addr -> Prop} {φ φ' φ₂ : List Addr} {S S' S₂ : aQ} {H H' H₂ : Hp}
theorem Ext.refl : Ext φ S H φ S H := ⟨fun _ _ h n => ⟨h, n⟩, fun _ _ h => h⟩
theorem Ext.trans (a : Ext φ S H φ' S' H') (b : Ext φ' S' H' φ₂ S₂ H₂) : Ext φ S H φ₂ S₂ H₂ :=
 ⟨fun c o h n => b.old c o (a.old c o h n).1 (a.old c o h n).2, fun n x h => b.ids n x (a.ids n x h)⟩
theorem GInv.at_ (I : GInv K B φ S H) {a : Addr} (h : mH φ S a) : (∃ vs, H a = some (.lst vs)) \/ (∃ C dx fs, H a = some (.ins C dx fs)) \/ (∃ kvs, H a = some (.dK kvs)) \/ ∃ kvs, H a = some (.dT kvs) := by
 obtain ⟨n, c, h1, h2, h3⟩ := h;have q := I.ok n c a h1 h3;cases c with
 | dead => exact absurd rfl h2
 | lst ds => obtain ⟨vs, e, _⟩ := q; exact .inl ⟨vs, e⟩
 | ins C fs => obtain ⟨dx, vs, e, _⟩ := q; exact .inr (.inl ⟨_, dx, vs, e⟩)
 | dct fs => obtain ⟨vs, e, _⟩ := q; exact .inr (.inr (.inl ⟨_, e⟩))
 | lv xs => obtain ⟨vs, e, _⟩ := q; exact .inl ⟨vs, e⟩
 | dki ks xs => obtain ⟨vs, e, _⟩ := q; exact .inr (.inr (.inl ⟨_, e⟩))
 | dkt ks xs => obtain ⟨vs, e, _⟩ := q; exact .inr (.inr (.inr ⟨_, e⟩))
theorem GInv.some_ (I : GInv K B φ S H) {a : Addr} (h : mH φ S a) : H a ≠ none := by
 rcases I.at_ h with ⟨_, e⟩ | ⟨_, _, _, e⟩ | ⟨_, e⟩ | ⟨_, e⟩ <;> rw [e] <;> simp
theorem GInv.fresh (I : GInv K B φ S H) {a : Addr} (h : H a = none) : ¬ mH φ S a := fun q => I.some_ q h
theorem GInv.nblk (I : GInv K B φ S H) {a : Addr} (h : H a = none) : ¬ jU B φ S a := fun q => by
 rcases q with q | q
 ·obtain ⟨u, e⟩ := I.btr a q; rw [h] at e; cases e
 ·exact I.fresh h q
theorem GInv.ntup (I : GInv K B φ S H) {a : Addr} {xs : List V} (h : H a = some (.tup xs)) : ¬ mH φ S a := fun q => by
 rcases I.at_ q with ⟨_, e⟩ | ⟨_, _, _, e⟩ | ⟨_, e⟩ | ⟨_, e⟩ <;> rw [h] at e <;> cases e
theorem GInv.nfrz (I : GInv K B φ S H) {a : Addr} {o : Obj} {u : HO} (h : H a = some (.frz o u)) : ¬ mH φ S a := fun q => by
 rcases I.at_ q with ⟨_, e⟩ | ⟨_, _, _, e⟩ | ⟨_, e⟩ | ⟨_, e⟩ <;> rw [h] at e <;> cases e
theorem Ext.kp (e : Ext φ S H φ' S' H') (I : GInv K B φ S H) : Kp (jU B φ S) H (jU B φ' S') H' where
 old := fun b o h n => by
  obtain ⟨h1, h2⟩ := e.old b o h (fun q => n (.inr q))
  exact ⟨h1, fun q => by
   rcases q with q | q
   ·exact n (.inl q)
   ·exact h2 q⟩
 tup := fun b u h => by
  rcases h with h | ⟨o, h⟩
  ·exact .inl (e.old _ _ h (I.ntup h)).1
  ·exact .inr ⟨o, (e.old _ _ h (I.nfrz h)).1⟩
theorem xQ (e : ∀ (n : Nat) (a : Addr), φ[n]? = some a -> φ'[n]? = some a) : ∀ (ns : List Nat) (as : List Addr), ns.map (fun n => φ[n]?) = as.map some -> ns.map (fun n => φ'[n]?) = as.map some
 | [], as, h => h
 | n :: ns, [], h => by simp at h
 | n :: ns, a :: as, h => by
  simp only [aK, List.cons.injEq] at h ⊢;exact ⟨e _ _ h.1, xQ e ns as h.2⟩
theorem RepV.ext (e : Ext φ S H φ' S' H') (I : GInv K B φ S H) : ∀ {d : Vl} {v : V}, RepV K B φ S H d v -> RepV K B φ' S' H' d v
 | .dat d, v, h => Rep.kp (e.kp I) d v h
 | .cel n, v, ⟨a, h1, h2⟩ => ⟨a, h1, e.ids _ _ h2⟩
 | .cels ns, v, ⟨a, as, h1, h2, h3, h4⟩ => ⟨a, as, h1, ((e.kp I).old _ _ h3 h2).2, ((e.kp I).old _ _ h3 h2).1, xQ e.ids ns as h4⟩
 | .scr ns, v, ⟨a, h1, h2⟩ => ⟨a, h1, h2.keep fun o u h => (e.old _ _ h (I.nfrz h)).1⟩
 | .tc xs, v, ⟨a, vs, h1, h2, h3⟩ => ⟨a, vs, h1, SqT.kp (e.kp I).tup h2, h3.kp (e.kp I) e.ids⟩
theorem RepVs.ext (e : Ext φ S H φ' S' H') (I : GInv K B φ S H) : ∀ {ds : List Vl} {vs : List V}, RepVs K B φ S H ds vs -> RepVs K B φ' S' H' ds vs
 | [], vs, h => h
 | d :: ds, vs, ⟨v, ws, e1, h1, h2⟩ => ⟨v, ws, e1, h1.ext e I, RepVs.ext e I h2⟩
theorem RepF.ext (e : Ext φ S H φ' S' H') (I : GInv K B φ S H) : ∀ {ds : List (Str × Vl)} {vs : List (Str × V)}, RepF K B φ S H ds vs -> RepF K B φ' S' H' ds vs
 | [], vs, h => h
 | d :: ds, vs, ⟨v, ws, e1, h1, h2⟩ => ⟨v, ws, e1, h1.ext e I, RepF.ext e I h2⟩
theorem Ext.repL (e : Ext φ S H φ' S' H') (I : GInv K B φ S H) {ds : List D} {vs : List V} (h : RepL K (jU B φ S) H ds vs) : RepL K (jU B φ' S') H' ds vs := RepL.kp (e.kp I) ds vs h
theorem dB {B' : Addr -> Prop} (hV : ∀ {d : Vl} {v : V}, RepV K B φ S H d v -> RepV K B' φ' S' H' d v) : ∀ {ds : List Vl} {vs : List V}, RepVs K B φ S H ds vs -> RepVs K B' φ' S' H' ds vs
 | [], vs, h => h
 | d :: ds, vs, ⟨v, ws, e1, h1, h2⟩ => ⟨v, ws, e1, hV h1, dB hV h2⟩
def RepE (K : aD) (B : Addr -> Prop) (φ : List Addr) (S : aQ) (H : Hp) (ρ : Ev) (σ : L2.St) : Prop :=
 ρ.length = σ.length /\ ∀ (i : Nat) (d : Vl), ρ[i]? = some (some d) -> ∃ v, σ[i]? = some (some v) /\ RepV K B φ S H d v
theorem RepE.ext {ρ : Ev} {σ : L2.St} (e : Ext φ S H φ' S' H') (I : GInv K B φ S H) (h : RepE K B φ S H ρ σ) : RepE K B φ' S' H' ρ σ :=
 ⟨h.1, fun i d q => by
  obtain ⟨v, h1, h2⟩ := h.2 i d q;exact ⟨v, h1, h2.ext e I⟩⟩
theorem RepE.set {ρ : Ev} {σ : L2.St} {d : Vl} {v : V} (h : RepE K B φ S H ρ σ) (r : RepV K B φ S H d v) (i : Nat) : RepE K B φ S H (ρ.set i (some d)) (σ.set i (some v)) := by
 refine ⟨by simp [h.1], fun j d' q => ?_⟩
 rw [aV] at q ⊢
 by_cases e : i = j
 ·subst e
  rw [if_pos rfl] at q ⊢
  by_cases hl : i < ρ.length
  ·rw [if_pos hl] at q
   cases q;rw [if_pos (by rw [<- h.1]; exact hl)]
   exact ⟨v, rfl, r⟩
  ·rw [if_neg hl] at q; cases q
 ·rw [if_neg e] at q ⊢
  exact h.2 j d' q
theorem RepE.forget {ρ : Ev} {σ : L2.St} (h : RepE K B φ S H ρ σ) (i : Nat) : RepE K B φ S H (ρ.set i none) σ := by
 refine ⟨by simp [h.1], fun j d' q => ?_⟩
 rw [aV] at q
 by_cases e : i = j
 ·subst e
  rw [if_pos rfl] at q
  by_cases hl : i < ρ.length
  ·rw [if_pos hl] at q; cases q
  ·rw [if_neg hl] at q; cases q
 ·rw [if_neg e] at q
  exact h.2 j d' q
theorem lF {x : Cell} {p a : Addr} (hl : φ.length = S.length) : mH (φ ++ [p]) (S ++ [x]) a ↔ mH φ S a \/ (x ≠ .dead /\ a = p) := by
 constructor
 ·rintro ⟨n, c, h1, h2, h3⟩
  by_cases hn : n < S.length
  ·rw [aM hn] at h1
   rw [aM (by omega)] at h3
   exact .inl ⟨n, c, h1, h2, h3⟩
  ·have e : n = S.length := by
    have := (aG.mp h1).1;simp at this;omega
   subst e;rw [aX (bS _)] at h1;rw [<- hl, aX (bS _)] at h3;simp at h1 h3;subst h1;exact .inr ⟨h2, h3.symm⟩
 ·rintro (⟨n, c, h1, h2, h3⟩ | ⟨h, rfl⟩)
  ·exact ⟨n, c, by rw [aM (aG.mp h1).1]; exact h1, h2, by rw [aM (aG.mp h3).1]; exact h3⟩
  ·exact ⟨S.length, x, by simp, h, by rw [<- hl]; simp⟩
theorem Ext.new {p : Addr} {o : HO} (I : GInv K B φ S H) (hp : H p = none) : Ext φ S H φ S (upd H p o) :=
 ⟨fun b u h n => ⟨by rw [upd_ne (ne_of_none h hp)]; exact h, n⟩, fun _ _ h => h⟩
theorem GInv.mono {o : Ext φ S H φ S H'} (I : GInv K B φ S H) (h : ∀ (n : Nat) (c : Cell) (a : Addr), S[n]? = some c -> c ≠ .dead -> φ[n]? = some a -> H' a = H a) : GInv K B φ S H' where
 len := I.len
 ok := fun n c a h1 h2 => by
  have q := I.ok n c a h1 h2;cases c with
  | dead => trivial
  | lst ds => obtain ⟨vs, e, r⟩ := q; exact ⟨vs, by rw [h n _ a h1 (by simp) h2]; exact e, o.repL I r⟩
  | ins C fs => obtain ⟨dx, vs, e, r⟩ := q; exact ⟨dx, vs, by rw [h n _ a h1 (by simp) h2]; exact e, r.ext o I⟩
  | dct fs => obtain ⟨vs, e, r⟩ := q; exact ⟨vs, by rw [h n _ a h1 (by simp) h2]; exact e, r.ext o I⟩
  | lv xs => obtain ⟨vs, e, r⟩ := q; exact ⟨vs, by rw [h n _ a h1 (by simp) h2]; exact e, r.ext o I⟩
  | dki ks xs => obtain ⟨vs, e, r⟩ := q; exact ⟨vs, by rw [h n _ a h1 (by simp) h2]; exact e, r.ext o I⟩
  | dkt ks xs => obtain ⟨vs, e, r⟩ := q; exact ⟨vs, by rw [h n _ a h1 (by simp) h2]; exact e, r.ext o I⟩
 inj := I.inj
 blk := I.blk
 btr := fun a h => by
  obtain ⟨u, e⟩ := I.btr a h;exact ⟨u, (o.old a u e fun q => I.blk a q h).1⟩
theorem GInv.new {p : Addr} {o : HO} (I : GInv K B φ S H) (hp : H p = none) : GInv K B φ S (upd H p o) :=
 GInv.mono (o := Ext.new I hp) I fun n c a h1 h2 h3 => by
  rw [upd_ne];intro e;subst e;exact I.fresh hp ⟨n, c, h1, h2, h3⟩
theorem Ext.newC {p : Addr} {o : HO} {x : Cell} (I : GInv K B φ S H) (hp : H p = none) : Ext φ S H (φ ++ [p]) (S ++ [x]) (upd H p o) where
 old := fun b u h n => by
  have hb : b ≠ p := ne_of_none h hp;exact ⟨by rw [upd_ne hb]; exact h, fun q => by
   rcases (lF I.len).mp q with q | ⟨_, q⟩
   ·exact n q
   ·exact hb q⟩
 ids := fun n a h => by rw [aM (aG.mp h).1]; exact h
theorem GInv.newC {p : Addr} {o : HO} {x : Cell} (I : GInv K B φ S H) (hp : H p = none) (hx : x ≠ .dead -> ES K B (φ ++ [p]) (S ++ [x]) (upd H p o) x p) : GInv K B (φ ++ [p]) (S ++ [x]) (upd H p o) where
 len := by simp [I.len]
 ok := fun n c a h1 h2 => by
  by_cases hn : n < S.length
  ·rw [aM hn] at h1
   rw [aM (by rw [I.len]; exact hn)] at h2
   have q := I.ok n c a h1 h2;have ex := Ext.newC (o := o) (x := x) I hp;have ha : c ≠ .dead -> upd H p o a = H a := fun hc => by
    rw [upd_ne];intro e;subst e;exact I.fresh hp ⟨n, c, h1, hc, h2⟩
   cases c with
   | dead => trivial
   | lst ds => obtain ⟨vs, e, r⟩ := q; exact ⟨vs, by rw [ha (by simp)]; exact e, ex.repL I r⟩
   | ins C fs => obtain ⟨dx, vs, e, r⟩ := q; exact ⟨dx, vs, by rw [ha (by simp)]; exact e, r.ext ex I⟩
   | dct fs => obtain ⟨vs, e, r⟩ := q; exact ⟨vs, by rw [ha (by simp)]; exact e, r.ext ex I⟩
   | lv xs => obtain ⟨vs, e, r⟩ := q; exact ⟨vs, by rw [ha (by simp)]; exact e, r.ext ex I⟩
   | dki ks xs => obtain ⟨vs, e, r⟩ := q; exact ⟨vs, by rw [ha (by simp)]; exact e, r.ext ex I⟩
   | dkt ks xs => obtain ⟨vs, e, r⟩ := q; exact ⟨vs, by rw [ha (by simp)]; exact e, r.ext ex I⟩
  ·have e : n = S.length := by
    have := (aG.mp h1).1;simp at this;omega
   subst e;rw [aX (bS _)] at h1;rw [<- I.len, aX (bS _)] at h2;simp at h1 h2;subst h1 h2;cases x with
   | dead => trivial
   | _ => exact hx (by simp)
 inj := fun n m c c' a h1 h2 h3 h4 h5 h6 => by
  have key : ∀ (n : Nat) (c : Cell), (S ++ [x])[n]? = some c -> (n < S.length /\ S[n]? = some c) \/ n = S.length := fun n c h => by
   by_cases hn : n < S.length
   ·rw [aM hn] at h; exact .inl ⟨hn, h⟩
   ·have := (aG.mp h).1
    simp at this;exact .inr (by omega)
  have kφ : ∀ n : Nat, n < S.length -> (φ ++ [p])[n]? = φ[n]? := fun n hn => aM (by rw [I.len]; exact hn)
  have kp : (φ ++ [p])[S.length]? = some p := by rw [<- I.len]; simp
  rcases key n c h1 with ⟨hn, e1⟩ | e1 <;> rcases key m c' h3 with ⟨hm, e2⟩ | e2
  ·rw [kφ n hn] at h5
   rw [kφ m hm] at h6;exact I.inj n m c c' a e1 h2 e2 h4 h5 h6
  ·subst e2
   rw [kp] at h6;cases h6;rw [kφ n hn] at h5;exact absurd ⟨n, c, e1, h2, h5⟩ (I.fresh hp)
  ·subst e1
   rw [kp] at h5;cases h5;rw [kφ m hm] at h6;exact absurd ⟨m, c', e2, h4, h6⟩ (I.fresh hp)
  ·omega
 blk := fun a h => by
  rcases (lF I.len).mp h with h | ⟨_, h⟩
  ·exact I.blk a h
  ·rw [h]; intro q; obtain ⟨u, e⟩ := I.btr p q; rw [hp] at e; cases e
 btr := fun a h => by
  obtain ⟨u, e⟩ := I.btr a h;exact ⟨u, by rw [upd_ne (ne_of_none e hp)]; exact e⟩
theorem DR {n : Nat} {c x : Cell} {a : Addr} (h : S[n]? = some c) (hc : c ≠ .dead) (hx : x ≠ .dead) : mH φ (S.set n x) a ↔ mH φ S a := by
 constructor
 ·rintro ⟨m, c', h1, h2, h3⟩
  rw [aV] at h1
  by_cases e : n = m
  ·subst e
   exact ⟨n, c, h, hc, h3⟩
  ·rw [if_neg e] at h1
   exact ⟨m, c', h1, h2, h3⟩
 ·rintro ⟨m, c', h1, h2, h3⟩
  by_cases e : n = m
  ·subst e
   exact ⟨n, x, by rw [aV, if_pos rfl, if_pos (aG.mp h).1], hx, h3⟩
  ·exact ⟨m, c', by rw [aV, if_neg e]; exact h1, h2, h3⟩
theorem CA {n : Nat} {a : Addr} (h : mH φ (S.set n .dead) a) : mH φ S a := by
 obtain ⟨m, c', h1, h2, h3⟩ := h;rw [aV] at h1
 by_cases e : n = m
 ·rw [if_pos e] at h1
  by_cases hl : n < S.length
  ·rw [if_pos hl] at h1; cases h1; exact absurd rfl h2
  ·rw [if_neg hl] at h1; cases h1
 ·rw [if_neg e] at h1
  exact ⟨m, c', h1, h2, h3⟩
theorem Ext.put {n : Nat} {c x : Cell} {a : Addr} {o : HO} (hn : S[n]? = some c) (hc : c ≠ .dead) (ha : φ[n]? = some a) (hx : x ≠ .dead) : Ext φ S H φ (S.set n x) (upd H a o) where
 old := fun b u h nb => by
  have hb : b ≠ a := fun e => by subst e; exact nb ⟨n, c, hn, hc, ha⟩
  exact ⟨by rw [upd_ne hb]; exact h, fun q => nb ((DR hn hc hx).mp q)⟩
 ids := fun _ _ h => h
theorem GInv.put {n : Nat} {c x : Cell} {a : Addr} {o : HO} (I : GInv K B φ S H) (hn : S[n]? = some c) (hc : c ≠ .dead) (ha : φ[n]? = some a) (hx : x ≠ .dead) (ok : ES K B φ (S.set n x) (upd H a o) x a) : GInv K B φ (S.set n x) (upd H a o) where
 len := by simp [I.len]
 ok := fun m c' b h1 h2 => by
  by_cases e : n = m
  ·subst e
   rw [aV, if_pos rfl, if_pos (aG.mp hn).1] at h1;cases h1;rw [ha] at h2;cases h2;exact ok
  ·rw [aV, if_neg e] at h1
   have q := I.ok m c' b h1 h2;have ex := Ext.put (H := H) (o := o) hn hc ha hx;have hb : c' ≠ .dead -> upd H a o b = H b := fun hc' => upd_ne fun e2 => by
    subst e2;exact e (I.inj n m c c' b hn hc h1 hc' ha h2)
   cases c' with
   | dead => trivial
   | lst ds => obtain ⟨vs, e, r⟩ := q; exact ⟨vs, by rw [hb (by simp)]; exact e, ex.repL I r⟩
   | ins C fs => obtain ⟨dx, vs, e, r⟩ := q; exact ⟨dx, vs, by rw [hb (by simp)]; exact e, r.ext ex I⟩
   | dct fs => obtain ⟨vs, e, r⟩ := q; exact ⟨vs, by rw [hb (by simp)]; exact e, r.ext ex I⟩
   | lv xs => obtain ⟨vs, e, r⟩ := q; exact ⟨vs, by rw [hb (by simp)]; exact e, r.ext ex I⟩
   | dki ks xs => obtain ⟨vs, e, r⟩ := q; exact ⟨vs, by rw [hb (by simp)]; exact e, r.ext ex I⟩
   | dkt ks xs => obtain ⟨vs, e, r⟩ := q; exact ⟨vs, by rw [hb (by simp)]; exact e, r.ext ex I⟩
 inj := fun i j d d' b h1 h2 h3 h4 h5 h6 => by
  have key : ∀ (i : Nat) (d : Cell), (S.set n x)[i]? = some d -> d ≠ .dead -> ∃ d0, S[i]? = some d0 /\ d0 ≠ .dead := fun i d h hd => by
   by_cases e : n = i
   ·subst e; exact ⟨c, hn, hc⟩
   ·rw [aV, if_neg e] at h; exact ⟨d, h, hd⟩
  obtain ⟨d0, e1, e2⟩ := key i d h1 h2;obtain ⟨d1, e3, e4⟩ := key j d' h3 h4;exact I.inj i j d0 d1 b e1 e2 e3 e4 h5 h6
 blk := fun b h => I.blk b ((DR hn hc hx).mp h)
 btr := fun b h => by
  obtain ⟨u, e⟩ := I.btr b h;exact ⟨u, by rw [upd_ne]; exact e; intro q; subst q; exact I.blk b ⟨n, c, hn, hc, ha⟩ h⟩
theorem Ext.kill {n : Nat} : Ext φ S H φ (S.set n .dead) H := ⟨fun b o h nb => ⟨h, fun q => nb (CA q)⟩, fun _ _ h => h⟩
theorem GInv.kill {n : Nat} (I : GInv K B φ S H) : GInv K B φ (S.set n .dead) H where
 len := by simp [I.len]
 ok := fun m c' b h1 h2 => by
  by_cases e : n = m
  ·rw [aV, if_pos e] at h1
   by_cases hl : n < S.length
   ·rw [if_pos hl] at h1; cases h1; trivial
   ·rw [if_neg hl] at h1; cases h1
  ·rw [aV, if_neg e] at h1
   have q := I.ok m c' b h1 h2;have ex := Ext.kill (φ := φ) (S := S) (H := H) (n := n);cases c' with
   | dead => trivial
   | lst ds => obtain ⟨vs, e, r⟩ := q; exact ⟨vs, e, ex.repL I r⟩
   | ins C fs => obtain ⟨dx, vs, e, r⟩ := q; exact ⟨dx, vs, e, r.ext ex I⟩
   | dct fs => obtain ⟨vs, e, r⟩ := q; exact ⟨vs, e, r.ext ex I⟩
   | lv xs => obtain ⟨vs, e, r⟩ := q; exact ⟨vs, e, r.ext ex I⟩
   | dki ks xs => obtain ⟨vs, e, r⟩ := q; exact ⟨vs, e, r.ext ex I⟩
   | dkt ks xs => obtain ⟨vs, e, r⟩ := q; exact ⟨vs, e, r.ext ex I⟩
 inj := fun i j d d' b h1 h2 h3 h4 h5 h6 => by
  have key : ∀ (i : Nat) (d : Cell), (S.set n .dead)[i]? = some d -> d ≠ .dead -> S[i]? = some d := fun i d h hd => by
   rw [aV] at h
   by_cases e : n = i
   ·rw [if_pos e] at h
    by_cases hl : n < S.length
    ·rw [if_pos hl] at h; cases h; exact absurd rfl hd
    ·rw [if_neg hl] at h; cases h
   ·rw [if_neg e] at h; exact h
  exact I.inj i j d d' b (key i d h1 h2) h2 (key j d' h3 h4) h4 h5 h6
 blk := fun b h => I.blk b (CA h)
 btr := I.btr
theorem GInv.killed {n : Nat} {c : Cell} {a : Addr} (I : GInv K B φ S H) (hn : S[n]? = some c) (hc : c ≠ .dead) (ha : φ[n]? = some a) : ¬ jU B φ (S.set n .dead) a := fun q => by
 rcases q with q | ⟨m, c', h1, h2, h3⟩
 ·exact I.blk a ⟨n, c, hn, hc, ha⟩ q
 ·rw [aV] at h1
  by_cases e : n = m
  ·rw [if_pos e] at h1
   by_cases hl : n < S.length
   ·rw [if_pos hl] at h1; cases h1; exact h2 rfl
   ·rw [if_neg hl] at h1; cases h1
  ·rw [if_neg e] at h1
   exact e (I.inj n m c c' a hn hc h1 h2 ha h3)
end
abbrev FE := Ev -> aQ -> Res Vl
abbrev FT := Ev -> aQ -> Res Bool
abbrev FA := Ev -> aQ -> Res (List Vl)
abbrev FO := Ev -> aQ -> Res (Option Int)
abbrev Rl (α β : Type) := (Addr -> Prop) -> List Addr -> aQ -> Hp -> α -> β -> Prop
def RepX (K : aD) (B : Addr -> Prop) (φ : List Addr) (S : aQ) (H : Hp) (e : Er) (c : Value) (x : Option Addr) : Prop :=
 c = .ref (He.ga K e.cls) /\ ((e.ns = [] /\ x = none) \/ ∃ d vs, x = some d /\ H d = some (.xd (e.ns.zip vs)) /\ RepL K (jU B φ S) H e.xs vs)
section
variable {α β α' β' : Type}
def Fin (K : aD) (W : WX) (σ : L2.St) (R : Rl α β) (B : Addr -> Prop) (φ : List Addr) (S : aQ) (H : Hp) (r : Res α) (Q : β -> Hp -> Prop) : Prop := match r with
 | .ok d S' => ∀ φ' v H', GInv K B φ' S' H' -> Ext φ S H φ' S' H' -> R B φ' S' H' d v -> Q v H'
 | .err e S' => ∀ φ' c x H', GInv K B φ' S' H' -> Ext φ S H φ' S' H' -> RepX K B φ' S' H' e c x -> W c x σ H'
 | .stuck => False
def rd (K : aD) (W : WX) (R : Rl α β) (m : Ev -> aQ -> Res α) : L2.St -> Hp -> (β -> Hp -> Prop) -> Prop := fun σ H Q =>
 ∃ B φ S ρ, GInv K B φ S H /\ RepE K B φ S H ρ σ /\ Fin K W σ R B φ S H (m ρ S) Q
end
def RB : Rl Bool Bool := fun _ _ _ _ b c => c = b
def RO : Rl (Option Int) (Option Int) := fun _ _ _ _ b c => c = b
abbrev cR (K : aD) (W : WX) (m : FE) : TE := rd K W (RepV K) m
abbrev vF (K : aD) (W : WX) (m : FT) : TT := rd K W RB m
abbrev CN (K : aD) (W : WX) (m : FA) : TA := rd K W (RepVs K) m
abbrev rdO (K : aD) (W : WX) (m : FO) : TO := rd K W RO m
section
variable {α β α' β' : Type} {K : aD} {W : WX} {σ : L2.St} {R : Rl α β} {R' : Rl α' β'} {B : Addr -> Prop} {φ φ' : List Addr} {S S' : aQ} {H H' : Hp}
theorem Fin.ext {r : Res α} {Q : β -> Hp -> Prop} (f : Fin K W σ R B φ S H r Q) (e : Ext φ S H φ' S' H') : Fin K W σ R B φ' S' H' r Q := by
 cases r with
 | ok d S1 => exact fun φ1 v H1 I1 X r => f φ1 v H1 I1 (e.trans X) r
 | err x S1 => exact fun φ1 c x H1 I1 X r => f φ1 c x H1 I1 (e.trans X) r
 | stuck => exact f
theorem bZ {m : Ev -> aQ -> Res α} {k : α -> Ev -> aQ -> Res α'} {Q : β' -> Hp -> Prop} {Q1 : β -> Hp -> Prop} (h : rd K W R' (fun ρ S => (m ρ S).bind fun a S' => k a ρ S') σ H Q)
  (hk : ∀ B φ S ρ d v H1, GInv K B φ S H1 -> RepE K B φ S H1 ρ σ -> R B φ S H1 d v -> Fin K W σ R' B φ S H1 (k d ρ S) Q -> Q1 v H1) : rd K W R m σ H Q1 := by
 obtain ⟨B, φ, S, ρ, I, E, f⟩ := h;refine ⟨B, φ, S, ρ, I, E, ?_⟩
 dsimp only at f;cases e : m ρ S with
 | stuck => rw [e] at f; exact f
 | err x S' => rw [e] at f; exact f
 | ok d S' =>
  rw [e] at f;exact fun φ' v H' I' X r => hk B φ' S' ρ d v H' I' (E.ext X I) r (Fin.ext f X)
theorem gI {ρ : Ev} {m : Ev -> aQ -> Res α} {k : α -> aQ -> Res α'} {Q : β' -> Hp -> Prop} {Q1 : β -> Hp -> Prop} (I : GInv K B φ S H) (E : RepE K B φ S H ρ σ) (f : Fin K W σ R' B φ S H ((m ρ S).bind k) Q)
  (hk : ∀ φ' S' d v H1, GInv K B φ' S' H1 -> Ext φ S H φ' S' H1 -> RepE K B φ' S' H1 ρ σ -> R B φ' S' H1 d v -> Fin K W σ R' B φ' S' H1 (k d S') Q -> Q1 v H1) : rd K W R m σ H Q1 := by
 refine ⟨B, φ, S, ρ, I, E, ?_⟩
 cases e : m ρ S with
 | stuck => rw [e] at f; exact f
 | err x S' => rw [e] at f; exact f
 | ok d S' =>
  rw [e] at f;exact fun φ' v H' I' X r => hk φ' S' d v H' I' X (E.ext X I) r (Fin.ext f X)
theorem Fin.now {d : α} {v : β} {Q : β -> Hp -> Prop} (f : Fin K W σ R B φ S H (.ok d S) Q) (I : GInv K B φ S H) (r : R B φ S H d v) : Q v H := f φ v H I Ext.refl r
end
def newL (c : Bool) (ds : List D) (S : aQ) : Res Vl := if c then .ok (.cel S.length) (S ++ [.lst ds]) else .ok (.dat (.lst ds)) S
section
variable {K : aD} {W : WX} {σ : L2.St} {B : Addr -> Prop} {φ φ' : List Addr} {S S' : aQ} {H H' : Hp} {Q : VK}
theorem nU {l : List Addr} {p : Addr} : (l ++ [p])[l.length]? = some p := by simp
theorem Fin.newT {ds : List D} {vs : List V} {p : Addr} (f : Fin K W σ (RepV K) B φ S H (.ok (.dat (.tup ds)) S) Q) (I : GInv K B φ S H) (r : RepL K (jU B φ S) H ds vs) (hp : H p = none) : Q (.ref p) (upd H p (.tup vs)) :=
 f φ _ _ (I.new hp) (Ext.new I hp) ⟨p, vs, rfl, .inl (.inl upd_same), (Ext.new I hp).repL I r⟩
theorem Fin.newL {c : Bool} {ds : List D} {vs : List V} {p : Addr} (f : Fin K W σ (RepV K) B φ S H (newL c ds S) Q) (I : GInv K B φ S H) (r : RepL K (jU B φ S) H ds vs) (hp : H p = none) : Q (.ref p) (upd H p (.lst vs)) := by
 unfold PH.newL at f;cases c with
 | false =>
  refine f φ _ _ (I.new hp) (Ext.new I hp) ⟨p, vs, rfl, I.nblk hp, upd_same, (Ext.new I hp).repL I r⟩
 | true =>
  have X := Ext.newC (o := .lst vs) (x := .lst ds) I hp;refine f (φ ++ [p]) _ _ (I.newC hp fun _ => ⟨vs, upd_same, X.repL I r⟩) X ⟨p, rfl, ?_⟩
  rw [<- I.len];exact nU
end
instance instIntMulOk (a b : Int) : Decidable (IntMulOk a b) := by unfold IntMulOk; infer_instance
instance instCDiv (a b : Int) : Decidable (CDiv a b) := by unfold CDiv; infer_instance
instance instCPow (a b : Int) : Decidable (CPow a b) := by unfold CPow; infer_instance
def lk : Ev -> Nat -> Option Vl
 | [], _ => none
 | x :: _, 0 => x
 | _ :: r, n + 1 => lk r n
theorem LX : ∀ {ρ : Ev} {i : Nat} {d : Vl}, lk ρ i = some d -> ρ[i]? = some (some d)
 | [], _, _, h => by cases h
 | x :: _, 0, d, h => by
  have e : x = some d := h;rw [e]; rfl
 | _ :: r, n + 1, d, h => by
  have e := LX (ρ := r) (i := n) (d := d) h
  simpa using e
def aC (i : Nat) : FE := fun ρ S => match lk ρ i with
 | some d => .ok d S
 | none => .stuck
def mC (d : D) : FE := fun _ S => .ok (.dat d) S
def aR (f : Vl -> Vl -> aQ -> Res Vl) (a b : FE) : FE := fun ρ S => (a ρ S).bind fun x S1 => (b ρ S1).bind fun y S2 => f x y S2
def m1 (f : Vl -> aQ -> Res Vl) (a : FE) : FE := fun ρ S => (a ρ S).bind fun x S1 => f x S1
def eX (K : aD) (r : R2) (f : Vl -> Vl -> aQ -> Res Vl) : Prop := ∀ {W : WX} {σ : L2.St} {B : Addr -> Prop} {φ : List Addr} {S : aQ} {H : Hp} {x y : V} {d e : Vl} {Q : VK}, GInv K B φ S H -> RepV K B φ S H d x -> RepV K B φ S H e y -> Fin K W σ (RepV K) B φ S H (f d e S) Q -> r x y H Q
def EL (K : aD) (r : V -> Hp -> VK -> Prop) (f : Vl -> aQ -> Res Vl) : Prop := ∀ {W : WX} {σ : L2.St} {B : Addr -> Prop} {φ : List Addr} {S : aQ} {H : Hp} {x : V} {d : Vl} {Q : VK}, GInv K B φ S H -> RepV K B φ S H d x -> Fin K W σ (RepV K) B φ S H (f d S) Q -> r x H Q
section
variable {X : Cx} {W : WX} {e a b c : Expr} {pos p : Pos} {x : Str}
theorem fv (i : Nat) (hN : X.N[i]? = some x := by rfl) (hv : Vis X.env.scope x := by first | exact CV rfl | exact Ac (CV rfl) | exact Ac (Ac rfl)) (hd : (x == ("__debug__" : Str)) = false := by decide)
  (hcd : (x == ("__classdict__" : Str)) = false := by decide) : PE X (.Name x pos) (cR X.K W (aC i)) := cW (pe_var hN hv hd hcd) fun σ H Q h => by
 obtain ⟨B, φ, S, ρ, I, E, f⟩ := h;unfold aC at f;cases q : lk ρ i with
 | none => rw [q] at f; exact f.elim
 | some d =>
  rw [q] at f;obtain ⟨v, h1, h2⟩ := E.2 i d (LX q);exact ⟨v, h1, f.now I h2⟩
theorem Me {v : V} {d : D} (h : PE X e (tC v)) (r : ∀ Bk H, Rep X.K Bk H d v) : PE X e (cR X.K W (mC d)) := cW h fun σ H Q h => by
 obtain ⟨B, φ, S, ρ, I, E, f⟩ := h;exact Fin.now (v := v) f I (r _ _)
theorem BD {K : aD} {r : R2} {f : Vl -> Vl -> aQ -> Res Vl} {ma mb : FE} {σ : L2.St} {H : Hp} {Q : VK} (s : eX K r f) (h : cR K W (aR f ma mb) σ H Q) : tOp r (cR K W ma) (cR K W mb) σ H Q :=
 bZ (k := fun x ρ S => (mb ρ S).bind fun y S2 => f x y S2) h fun B φ S ρ d v H1 I E r1 f' => gI I E f' fun φ' S' e w H2 I2 X2 E2 r2 f2 => s I2 (r1.ext X2 I) r2 f2
theorem cQ {op : Operator} {r : R2} {f : Vl -> Vl -> aQ -> Res Vl} {ma mb : FE} (o : OpR X (binaryOp op) r) (s : eX X.K r f) (ha : PE X a (cR X.K W ma)) (hb : PE X b (cR X.K W mb)) : PE X (.BinOp a op b pos) (cR X.K W (aR f ma mb)) :=
 cW (pe_op o ha hb) fun σ H Q h => BD s h
theorem pS {op : CmpOp} {r : R2} {f : Vl -> Vl -> aQ -> Res Vl} {ma mb : FE} (o : OpR X (compareOp op) r) (s : eX X.K r f) (ha : PE X a (cR X.K W ma)) (hb : PE X b (cR X.K W mb)) (hm : behindInMarks op b = false := by rfl) : PE X (.Compare a [op] [b] pos) (cR X.K W (aR f ma mb)) :=
 cW (e_cmp o ha hb hm) fun σ H Q h => BD s h
theorem Kn {K : aD} {r : V -> Hp -> VK -> Prop} {f : Vl -> aQ -> Res Vl} {ma : FE} {σ : L2.St} {H : Hp} {Q : VK} (s : EL K r f) (h : cR K W (m1 f ma) σ H Q) : cR K W ma σ H fun x H1 => r x H1 Q :=
 bZ (k := fun x ρ S => f x S) h fun B φ S ρ d v H1 I E r1 f' => s I r1 f'
def rO : Vl -> Vl -> aQ -> Res Vl
 | .dat (.int i), .dat (.int j), S => .ok (.dat (.int (i - j))) S
 | _, _, _ => .stuck
def nX : Vl -> Vl -> aQ -> Res Vl
 | .dat (.int i), .dat (.int j), S => if IntMulOk i j then .ok (.dat (.int (i * j))) S else .stuck
 | _, _, _ => .stuck
def A1 : Vl -> Vl -> aQ -> Res Vl
 | .dat (.int i), .dat (.int j), S => if 0 < j then .ok (.dat (.int (i % j))) S else .stuck
 | _, _, _ => .stuck
def AJ : Vl -> Vl -> aQ -> Res Vl
 | .dat (.int i), .dat (.int j), S => if CDiv i j then .ok (.dat (.int (i / j))) S else .stuck
 | _, _, _ => .stuck
def Jy : Vl -> Vl -> aQ -> Res Vl
 | .dat (.int i), .dat (.int j), S => if CPow i j then .ok (.dat (.int (i ^ j.toNat))) S else .stuck
 | _, _, _ => .stuck
def Mj : Vl -> Vl -> aQ -> Res Vl
 | .dat (.int i), .dat (.int j), S => .ok (.dat (.bl (decide (i < j)))) S
 | _, _, _ => .stuck
def KL : Vl -> Vl -> aQ -> Res Vl
 | .dat (.int i), .dat (.int j), S => .ok (.dat (.bl (decide (i <= j)))) S
 | _, _, _ => .stuck
def NQ : Vl -> Vl -> aQ -> Res Vl
 | .dat (.int i), .dat (.int j), S => .ok (.dat (.bl (decide (j < i)))) S
 | _, _, _ => .stuck
def fGe : Vl -> Vl -> aQ -> Res Vl
 | .dat (.int i), .dat (.int j), S => .ok (.dat (.bl (decide (j <= i)))) S
 | _, _, _ => .stuck
variable {K : aD}
theorem oM : eX K Pr rO := fun {W σ B φ S H x y d e Q} I r1 r2 f => by
 unfold rO at f;split at f
 ·cases r1; cases r2; exact Fin.now f I rfl
 ·exact f.elim
theorem lA : eX K Pv nX := fun {W σ B φ S H x y d e Q} I r1 r2 f => by
 unfold nX at f;split at f
 ·cases r1; cases r2
  split at f
  ·rename_i h; exact ⟨h, Fin.now f I rfl⟩
  ·exact f.elim
 ·exact f.elim
theorem xE : eX K Pw A1 := fun {W σ B φ S H x y d e Q} I r1 r2 f => by
 unfold A1 at f;split at f
 ·cases r1; cases r2
  split at f
  ·rename_i h; exact ⟨h, Fin.now f I rfl⟩
  ·exact f.elim
 ·exact f.elim
theorem Dc : eX K Ky AJ := fun {W σ B φ S H x y d e Q} I r1 r2 f => by
 unfold AJ at f;split at f
 ·cases r1; cases r2
  split at f
  ·rename_i h; exact ⟨h, Fin.now f I rfl⟩
  ·exact f.elim
 ·exact f.elim
theorem Pp : eX K Pu Jy := fun {W σ B φ S H x y d e Q} I r1 r2 f => by
 unfold Jy at f;split at f
 ·cases r1; cases r2
  split at f
  ·rename_i h; exact ⟨h, Fin.now f I rfl⟩
  ·exact f.elim
 ·exact f.elim
theorem Gg : eX K rLtC Mj := fun {W σ B φ S H x y d e Q} I r1 r2 f => by
 unfold Mj at f;split at f
 ·cases r1; cases r2; exact Fin.now f I rfl
 ·exact f.elim
theorem F3 : eX K rLeC KL := fun {W σ B φ S H x y d e Q} I r1 r2 f => by
 unfold KL at f;split at f
 ·cases r1; cases r2; exact Fin.now f I rfl
 ·exact f.elim
theorem Nn : eX K rGtC NQ := fun {W σ B φ S H x y d e Q} I r1 r2 f => by
 unfold NQ at f;split at f
 ·cases r1; cases r2; exact Fin.now f I rfl
 ·exact f.elim
theorem s_ge : eX K rGeC fGe := fun {W σ B φ S H x y d e Q} I r1 r2 f => by
 unfold fGe at f;split at f
 ·cases r1; cases r2; exact Fin.now f I rfl
 ·exact f.elim
def wJ : Vl -> aQ -> Res Vl
 | .dat (.int i), S => .ok (.dat (.int (-i))) S
 | _, _ => .stuck
theorem tE {ma : FE} (ha : PE X a (cR X.K W ma)) : PE X (.UnaryOp .USub a pos) (cR X.K W (m1 wJ ma)) :=
 cW (pe_un NW ha) fun σ H Q h => Kn (r := cNeg) (fun {W σ B φ S H x d Q} I r f => by
  unfold wJ at f;split at f
  ·cases r; exact Fin.now f I rfl
  ·exact f.elim) h
theorem RepL.len {Bk : Addr -> Prop} {H : Hp} : ∀ {ds : List D} {vs : List V}, RepL K Bk H ds vs -> vs.length = ds.length
 | [], vs, h => by cases h; rfl
 | d :: ds, vs, ⟨v, ws, e, _, h2⟩ => by subst e; simp [RepL.len h2]
theorem RepL.get {Bk : Addr -> Prop} {H : Hp} : ∀ {ds : List D} {vs : List V} {i : Nat} {d : D}, RepL K Bk H ds vs -> ds[i]? = some d -> ∃ v, vs[i]? = some v /\ Rep K Bk H d v
 | [], vs, i, d, h, q => by simp at q
 | d :: ds, vs, 0, d', ⟨v, ws, e, h1, h2⟩, q => by simp at q; subst q e; exact ⟨v, rfl, h1⟩
 | d :: ds, vs, i + 1, d', ⟨v, ws, e, h1, h2⟩, q => by
  subst e;obtain ⟨v', h3, h4⟩ := RepL.get (i := i) (d := d') h2 (by simpa using q)
  exact ⟨v', by simpa using h3, h4⟩
theorem RepL.append {Bk : Addr -> Prop} {H : Hp} : ∀ {ds es : List D} {vs ws : List V}, RepL K Bk H ds vs -> RepL K Bk H es ws -> RepL K Bk H (ds ++ es) (vs ++ ws)
 | [], es, vs, ws, h, h' => by cases h; exact h'
 | d :: ds, es, vs, ws, ⟨v, us, e, h1, h2⟩, h' => by subst e; exact ⟨v, us ++ ws, rfl, h1, RepL.append h2 h'⟩
theorem RepL.take {Bk : Addr -> Prop} {H : Hp} : ∀ {ds : List D} {vs : List V} (n : Nat), RepL K Bk H ds vs -> RepL K Bk H (ds.take n) (vs.take n)
 | ds, vs, 0, h => by simp [RepL]
 | [], vs, n + 1, h => by cases h; rfl
 | d :: ds, vs, n + 1, ⟨v, us, e, h1, h2⟩ => by subst e; exact ⟨v, us.take n, rfl, h1, RepL.take n h2⟩
theorem RepL.drop {Bk : Addr -> Prop} {H : Hp} : ∀ {ds : List D} {vs : List V} (n : Nat), RepL K Bk H ds vs -> RepL K Bk H (ds.drop n) (vs.drop n)
 | ds, vs, 0, h => h
 | [], vs, n + 1, h => by cases h; rfl
 | d :: ds, vs, n + 1, ⟨v, us, e, h1, h2⟩ => by subst e; exact RepL.drop n h2
theorem RepL.set {Bk : Addr -> Prop} {H : Hp} {d : D} {v : V} (r : Rep K Bk H d v) : ∀ {ds : List D} {vs : List V} (n : Nat), RepL K Bk H ds vs -> RepL K Bk H (ds.set n d) (vs.set n v)
 | [], vs, n, h => by cases h; rfl
 | _ :: ds, vs, 0, ⟨_, us, e, h1, h2⟩ => by subst e; exact ⟨v, us, rfl, r, h2⟩
 | d' :: ds, vs, n + 1, ⟨v', us, e, h1, h2⟩ => by subst e; exact ⟨v', us.set n v, rfl, h1, RepL.set r n h2⟩
theorem RepL.snoc {Bk : Addr -> Prop} {H : Hp} {ds : List D} {vs : List V} {d : D} {v : V} (h : RepL K Bk H ds vs) (r : Rep K Bk H d v) : RepL K Bk H (ds ++ [d]) (vs ++ [v]) := h.append ⟨v, [], rfl, r, rfl⟩
theorem RepL.atI {Bk : Addr -> Prop} {H : Hp} {ds : List D} {vs : List V} {i : Int} {d : D} (h : RepL K Bk H ds vs) (q : L2.atI ds i = some d) : ∃ v, L2.atI vs i = some v /\ Rep K Bk H d v := by
 unfold L2.atI at q ⊢;rw [h.len];cases e : ixN ds.length i with
 | none => rw [e] at q; cases q
 | some j =>
  rw [e] at q;exact h.get (i := j) q
theorem RepVs.len {B : Addr -> Prop} {φ : List Addr} {S : aQ} {H : Hp} : ∀ {ds : List Vl} {vs : List V}, RepVs K B φ S H ds vs -> vs.length = ds.length
 | [], vs, h => by cases h; rfl
 | d :: ds, vs, ⟨v, ws, e, _, h2⟩ => by subst e; simp [RepVs.len h2]
def wN : List Vl -> Option (List D)
 | [] => some []
 | .dat d :: r => match wN r with
  | some ds => some (d :: ds)
  | none => none
 | _ :: _ => none
theorem yX {B : Addr -> Prop} {φ : List Addr} {S : aQ} {H : Hp} : ∀ {xs : List Vl} {vs : List V} {ds : List D}, wN xs = some ds -> RepVs K B φ S H xs vs -> RepL K (jU B φ S) H ds vs
 | [], vs, ds, h, r => by cases h; exact r
 | .dat d :: xs, vs, ds, h, ⟨v, ws, e, h1, h2⟩ => by
  unfold wN at h;cases q : wN xs with
  | none => rw [q] at h; cases h
  | some es => rw [q] at h; cases h; exact ⟨v, ws, e, h1, yX q h2⟩
 | .cel _ :: xs, vs, ds, h, _ => by cases h
 | .cels _ :: xs, vs, ds, h, _ => by cases h
 | .scr _ :: xs, vs, ds, h, _ => by cases h
 | .tc _ :: xs, vs, ds, h, _ => by cases h
def nL (S : aQ) : Vl -> Option (List D)
 | .dat (.lst xs) => some xs
 | .cel n => match S[n]? with
  | some (.lst xs) => some xs
  | _ => none
 | _ => none
theorem kO {B : Addr -> Prop} {φ : List Addr} {S : aQ} {H : Hp} {d : Vl} {v : V} {xs : List D} (I : GInv K B φ S H) (h : nL S d = some xs) (r : RepV K B φ S H d v) : ∃ a vs, v = .ref a /\ H a = some (.lst vs) /\ RepL K (jU B φ S) H xs vs := by
 unfold nL at h;split at h
 ·cases h
  obtain ⟨a, vs, e, _, h1, h2⟩ := r;exact ⟨a, vs, e, h1, h2⟩
 ·rename_i n
  obtain ⟨a, e, h1⟩ := r;split at h
  ·rename_i ys q
   cases h;obtain ⟨vs, h2, h3⟩ := I.ok n _ a q h1;exact ⟨a, vs, e, h2, h3⟩
  ·cases h
 ·cases h
end
section
variable {X : Cx} {W : WX} {e a b c : Expr} {es rest : List Expr} {pos p : Pos} {x : Str} {K : aD} {ma mb mc : FE} {mt mu : FT} {mas : FA} {B : Addr -> Prop} {φ : List Addr} {S : aQ} {H : Hp} {σ : L2.St} {Q : VK}
def dR (cl : Bool) (x y : Vl) (S : aQ) : Res Vl := match x, y with
 | .dat (.int i), .dat (.int j) => .ok (.dat (.int (i + j))) S
 | .dat (.str a), .dat (.str b) => if a.length + b.length <= sizeLine then .ok (.dat (.str (a ++ b))) S else .stuck
 | .dat (.tup xs), .dat (.tup ys) => if xs.length + ys.length <= sizeLine then .ok (.dat (.tup (xs ++ ys))) S else .stuck
 | x, y => match nL S x, nL S y with
  | some xs, some ys => if xs.length + ys.length <= sizeLine then newL cl (xs ++ ys) S else .stuck
  | _, _ => .stuck
theorem dP {cl : Bool} : eX K (cAdd K) (dR cl) := fun {W σ B φ S H x y d e Q} I r1 r2 f => by
 unfold dR at f;split at f
 ·cases r1; cases r2; exact Fin.now f I rfl
 ·cases r1; cases r2
  split at f
  ·rename_i h; exact ⟨h, Fin.now f I rfl⟩
  ·exact f.elim
 ·rename_i xs ys
  obtain ⟨a, vs, rfl, h1, l1⟩ := r1;obtain ⟨b, ws, rfl, h2, l2⟩ := r2;split at f
  ·rename_i h
   refine Ac ⟨a, b, vs, ws, rfl, rfl, h1, h2, by rw [l1.len, l2.len]; exact h, fun e => ?_, fun e1 e2 => ?_, fun _ _ p hp => Fin.newT f I (l1.append l2) hp⟩
   ·have l := l1.append l2
    rw [e, bL] at l;exact Fin.now f I ⟨b, ws, rfl, h2, l⟩
   ·have l := l1.append l2
    rw [e2, cS] at l;exact Fin.now f I ⟨a, vs, rfl, h1, l⟩
  ·exact f.elim
 ·split at f
  ·rename_i xs ys q1 q2
   obtain ⟨a, vs, rfl, h1, l1⟩ := kO I q1 r1;obtain ⟨b, ws, rfl, h2, l2⟩ := kO I q2 r2;split at f
   ·rename_i h
    exact CV ⟨a, b, vs, ws, rfl, rfl, h1, h2, by rw [l1.len, l2.len]; exact h, fun p hp => Fin.newL f I (l1.append l2) hp⟩
   ·exact f.elim
  ·exact f.elim
def bR (x y : Vl) (S : aQ) : Res Vl := match x, y with
 | .dat (.tup xs), .dat (.int i) => match atI xs i with
  | some d => .ok (.dat d) S
  | none => .stuck
 | .dat (.str z), .dat (.int i) => if z.length <= sizeLine then (match atI z.cps.toList i with
  | some c => .ok (.dat (.str ⟨#[c]⟩)) S
  | none => .stuck) else .stuck
 | .cels ns, .dat (.int i) => match atI ns i with
  | some n => .ok (.cel n) S
  | none => .stuck
 | x, .dat (.int i) => match nL S x with
  | some xs => (match atI xs i with
   | some d => .ok (.dat d) S
   | none => .stuck)
  | none => .stuck
 | _, _ => .stuck
theorem EI {α β : Type} {f : α -> β} {xs : List α} {i : Int} : atI (xs.map f) i = (atI xs i).map f := by
 unfold atI;rw [aN];cases ixN xs.length i with
 | none => rfl
 | some j => simp
theorem s_ix : eX K (cIx K) bR := fun {W σ B φ S H x y d e Q} I r1 r2 f => by
 unfold bR at f;split at f
 ·cases r2
  obtain ⟨a, vs, rfl, h1, l1⟩ := r1;split at f
  ·rename_i q
   obtain ⟨v, h2, h3⟩ := l1.atI q;exact ⟨vs, v, .inr h1, h2, Fin.now f I h3⟩
  ·exact f.elim
 ·cases r1; cases r2
  split at f
  ·rename_i h
   split at f
   ·rename_i c q
    exact ⟨h, c, q, Fin.now f I rfl⟩
   ·exact f.elim
  ·exact f.elim
 ·rename_i ns i
  cases r2;obtain ⟨a, as, rfl, h1, h2, h3⟩ := r1;split at f
  ·rename_i n q
   have q2 : atI (ns.map fun n => φ[n]?) i = some φ[n]? := by rw [EI, q]; rfl
   rw [h3, EI] at q2;cases q3 : atI as i with
   | none => rw [q3] at q2; cases q2
   | some b =>
    rw [q3] at q2;refine ⟨as.map V.ref, .ref b, .inl (SqL.of h2), by rw [EI, q3]; rfl, Fin.now f I ⟨b, rfl, ?_⟩⟩
    simpa using q2.symm
  ·exact f.elim
 ·cases r2
  split at f
  ·rename_i xs q1
   obtain ⟨a, vs, rfl, h1, l1⟩ := kO I q1 r1;split at f
   ·rename_i q
    obtain ⟨v, h2, h3⟩ := l1.atI q;exact ⟨vs, v, .inl (SqL.of h1), h2, Fin.now f I h3⟩
   ·exact f.elim
  ·exact f.elim
 ·exact f.elim
theorem bD (ha : PE X a (cR X.K W ma)) (hb : PE X b (cR X.K W mb)) (hs : PlainIx b := by intro _ _; rfl) : PE X (.Subscript a b pos) (cR X.K W (aR bR ma mb)) := cW (e_ix ha hb hs) fun σ H Q h => BD s_ix h
mutual
def D.py : D -> Option PyData
 | .non => some .none
 | .bl b => some (.bool b)
 | .int i => some (.int i)
 | .str x => some (.str x)
 | .lst xs => match D.pys xs with
  | some ys => some (.list ys)
  | none => none
 | .tup xs => match D.pys xs with
  | some ys => some (.tuple ys)
  | none => none
 | .ins _ _ _ => none
 | .dct => none
 | .opq _ => none
def D.pys : List D -> Option (List PyData)
 | [] => some []
 | d :: ds => match D.py d, D.pys ds with
  | some x, some xs => some (x :: xs)
  | _, _ => none
end
mutual
theorem Rep.dp {Bk : Addr -> Prop} {H : Hp} : ∀ (d : D) (v : V) (p : PyData), d.py = some p -> Rep K Bk H d v -> Dp K H v p
 | .non, v, p, h, r => by cases h; cases r; exact .non
 | .bl b, v, p, h, r => by cases h; cases r; exact .bl b
 | .int b, v, p, h, r => by cases h; cases r; exact .int b
 | .str b, v, p, h, r => by cases h; cases r; exact .str b
 | .lst xs, v, p, h, ⟨a, vs, e, _, h1, h2⟩ => by
  subst e;unfold D.py at h;cases q : D.pys xs with
  | none => rw [q] at h; cases h
  | some ys => rw [q] at h; cases h; exact .lst (SqL.of h1) (RepL.dp xs vs ys q h2)
 | .tup xs, v, p, h, ⟨a, vs, e, h1, h2⟩ => by
  subst e;unfold D.py at h;cases q : D.pys xs with
  | none => rw [q] at h; cases h
  | some ys => rw [q] at h; cases h; exact .tup h1 (RepL.dp xs vs ys q h2)
 | .ins _ _ _, v, p, h, r => by cases h
 | .dct, v, p, h, r => by cases h
 | .opq _, v, p, h, r => by cases h
theorem RepL.dp {Bk : Addr -> Prop} {H : Hp} : ∀ (ds : List D) (vs : List V) (ps : List PyData), D.pys ds = some ps -> RepL K Bk H ds vs -> DpAll K H vs ps
 | [], vs, ps, h, r => by cases h; cases r; exact .nil
 | d :: ds, vs, ps, h, ⟨v, ws, e, h1, h2⟩ => by
  subst e;unfold D.pys at h;cases q1 : D.py d with
  | none => rw [q1] at h; cases h
  | some x =>
   cases q2 : D.pys ds with
   | none => rw [q1, q2] at h; cases h
   | some xs => rw [q1, q2] at h; cases h; exact .cons (Rep.dp d v x q1 h1) (RepL.dp ds ws xs q2 h2)
end
def ID (S : aQ) : Vl -> Option PyData
 | .dat d => d.py
 | .cel n => match S[n]? with
  | some (.lst xs) => D.py (.lst xs)
  | _ => none
 | _ => none
def JS (S : aQ) : List Vl -> Option (List PyData)
 | [] => some []
 | x :: r => match ID S x, JS S r with
  | some p, some ps => some (p :: ps)
  | _, _ => none
def tJ (S : aQ) : Vl -> Option PyData
 | .dat d => d.py
 | .cel n => match S[n]? with
  | some (.lst xs) => D.py (.lst xs)
  | some (.lv xs) => (match JS S xs with
   | some ps => some (.list ps)
   | none => none)
  | _ => none
 | _ => none
theorem Kz {d : Vl} {v : V} {p : PyData} (I : GInv K B φ S H) (h : ID S d = some p) (r : RepV K B φ S H d v) : Dp K H v p := by
 unfold ID at h;split at h
 ·exact Rep.dp _ _ _ h r
 ·rename_i n
  obtain ⟨a, rfl, h1⟩ := r;split at h
  ·rename_i xs q
   obtain ⟨vs, h2, h3⟩ := I.ok n _ a q h1;unfold D.py at h;cases q : D.pys xs with
   | none => rw [q] at h; cases h
   | some ys => rw [q] at h; cases h; exact .lst (SqL.of h2) (RepL.dp xs vs ys q h3)
  ·cases h
 ·cases h
theorem IC (I : GInv K B φ S H) : ∀ {xs : List Vl} {vs : List V} {ps : List PyData}, JS S xs = some ps -> RepVs K B φ S H xs vs -> DpAll K H vs ps
 | [], vs, ps, h, r => by cases h; cases r; exact .nil
 | x :: xs, vs, ps, h, ⟨v, ws, e, h1, h2⟩ => by
  subst e;unfold JS at h;cases q1 : ID S x with
  | none => rw [q1] at h; cases h
  | some p =>
   cases q2 : JS S xs with
   | none => rw [q1, q2] at h; cases h
   | some qs => rw [q1, q2] at h; cases h; exact .cons (Kz I q1 h1) (IC I q2 h2)
theorem oQ {d : Vl} {v : V} {p : PyData} (I : GInv K B φ S H) (h : tJ S d = some p) (r : RepV K B φ S H d v) : Dp K H v p := by
 unfold tJ at h;split at h
 ·exact Rep.dp _ _ _ h r
 ·rename_i n
  obtain ⟨a, rfl, h1⟩ := r;split at h
  ·rename_i xs q
   obtain ⟨vs, h2, h3⟩ := I.ok n _ a q h1;unfold D.py at h;cases q : D.pys xs with
   | none => rw [q] at h; cases h
   | some ys => rw [q] at h; cases h; exact .lst (SqL.of h2) (RepL.dp xs vs ys q h3)
  ·rename_i xs q
   obtain ⟨vs, h2, h3⟩ := I.ok n _ a q h1;cases q : JS S xs with
   | none => rw [q] at h; cases h
   | some ys => rw [q] at h; cases h; exact .lst (SqL.of h2) (IC I q h3)
  ·cases h
 ·cases h
def Nl (p q : PyData) : Bool := SeqAt.shaped p && SeqAt.shaped q
def fK (x y : Vl) (S : aQ) : Res Vl := match x, y with
 | .dat (.int i), .dat (.int j) => .ok (.dat (.bl (decide (i = j)))) S
 | .dat (.str i), .dat (.str j) => .ok (.dat (.bl (decide (i = j)))) S
 | x, y => match tJ S x, tJ S y with
  | some p, some q => if Nl p q = true then .ok (.dat (.bl (PyData.eqv p q))) S else .stuck
  | _, _ => .stuck
def GV (x y : Vl) (S : aQ) : Res Vl := match x, y with
 | .dat (.int i), .dat (.int j) => .ok (.dat (.bl (!decide (i = j)))) S
 | .dat (.str i), .dat (.str j) => .ok (.dat (.bl (!decide (i = j)))) S
 | x, y => match tJ S x, tJ S y with
  | some p, some q => if Nl p q = true then .ok (.dat (.bl (!PyData.eqv p q))) S else .stuck
  | _, _ => .stuck
theorem PZ {x y : V} (h : rEqD K x y H Q) : cEq K x y H Q := by
 unfold cEq;split
 ·obtain ⟨d, e, h1, h2, _, _, q⟩ := h
  cases h1; cases h2;exact q
 ·obtain ⟨d, e, h1, h2, _, _, q⟩ := h
  cases h1; cases h2;exact q
 ·exact h
theorem PY {x y : V} (h : rNeD K x y H Q) : cNe K x y H Q := by
 unfold cNe;split
 ·obtain ⟨d, e, h1, h2, _, _, q⟩ := h
  cases h1; cases h2;exact q
 ·obtain ⟨d, e, h1, h2, _, _, q⟩ := h
  cases h1; cases h2;exact q
 ·exact h
theorem s_eq : eX K (cEq K) fK := fun {W σ B φ S H x y d e Q} I r1 r2 f => by
 unfold fK at f;split at f
 ·cases r1; cases r2; exact Fin.now f I rfl
 ·cases r1; cases r2; exact Fin.now f I rfl
 ·split at f
  ·rename_i p q h1 h2
   split at f
   ·rename_i h
    obtain ⟨h3, h4⟩ := He.ba h;exact PZ ⟨p, q, oQ I h1 r1, oQ I h2 r2, h3, h4, Fin.now f I rfl⟩
   ·exact f.elim
  ·exact f.elim
theorem CM : eX K (cNe K) GV := fun {W σ B φ S H x y d e Q} I r1 r2 f => by
 unfold GV at f;split at f
 ·cases r1; cases r2; exact Fin.now f I rfl
 ·cases r1; cases r2; exact Fin.now f I rfl
 ·split at f
  ·rename_i p q h1 h2
   split at f
   ·rename_i h
    obtain ⟨h3, h4⟩ := He.ba h;exact PY ⟨p, q, oQ I h1 r1, oQ I h2 r2, h3, h4, Fin.now f I rfl⟩
   ·exact f.elim
  ·exact f.elim
def fIn (neg : Bool) (x y : Vl) (S : aQ) : Res Vl := match tJ S x, tJ S y with
 | some p, some (.list qs) => if Nl p (.list qs) = true then .ok (.dat (.bl (if neg then !(qs.any fun z => PyData.eqv z p) else (qs.any fun z => PyData.eqv z p)))) S else .stuck
 | _, _ => .stuck
theorem s_in : eX K (rInD K) (fIn false) := fun {W σ B φ S H x y d e Q} I r1 r2 f => by
 unfold fIn at f;split at f
 ·rename_i p qs h1 h2
  split at f
  ·rename_i h
   obtain ⟨h3, h4⟩ := He.ba h;exact ⟨p, qs, oQ I h1 r1, oQ I h2 r2, h3, h4, Fin.now f I rfl⟩
  ·exact f.elim
 ·exact f.elim
def isNon : Vl -> Bool
 | .dat .non => true
 | _ => false
def CS (neg : Bool) (x y : Vl) (S : aQ) : Res Vl := match y with
 | .dat .non => .ok (.dat (.bl (if neg then !(isNon x) else isNon x))) S
 | _ => .stuck
theorem Fj {d : Vl} {v : V} (r : RepV K B φ S H d v) : decide (v = .non) = isNon d := by
 cases d with
 | dat d =>
  cases d with
  | non => cases r; rfl
  | bl b => cases r; rfl
  | int b => cases r; rfl
  | str b => cases r; rfl
  | lst xs => obtain ⟨a, vs, rfl, _⟩ := r; rfl
  | tup xs => obtain ⟨a, vs, rfl, _⟩ := r; rfl
  | ins C ns xs => obtain ⟨a, dx, vs, rfl, _⟩ := r; rfl
  | dct => obtain ⟨a, rfl, _⟩ := r; rfl
  | opq k => cases k with
   | none => obtain ⟨a, rfl⟩ := r; rfl
   | some k => obtain ⟨a, rfl, _⟩ := r; rfl
 | cel n => obtain ⟨a, rfl, _⟩ := r; rfl
 | cels ns => obtain ⟨a, as, rfl, _⟩ := r; rfl
 | scr ns => obtain ⟨a, rfl, _⟩ := r; rfl
 | tc xs => obtain ⟨a, vs, rfl, _⟩ := r; rfl
theorem Ks : eX K Px (CS false) := fun {W σ B φ S H x y d e Q} I r1 r2 f => by
 unfold CS at f;split at f
 ·cases r2
  show Q (.bl (decide (x = .non))) H
  rw [Fj r1];exact Fin.now f I rfl
 ·exact f.elim
theorem Kq : eX K Kx (CS true) := fun {W σ B φ S H x y d e Q} I r1 r2 f => by
 unfold CS at f;split at f
 ·cases r2
  show Q (.bl (!decide (x = .non))) H
  rw [Fj r1];exact Fin.now f I rfl
 ·exact f.elim
def unB : Vl -> aQ -> Res Bool
 | .dat (.bl b), S => .ok b S
 | _, _ => .stuck
def mB (a : FE) : FT := fun ρ S => (a ρ S).bind unB
theorem Km {Q : Bool -> Hp -> Prop} (h : vF K W (mB ma) σ H Q) : cR K W ma σ H fun x H' => (match x with | .bl k => Q k H' | _ => False) :=
 bZ (k := fun x _ S => unB x S) h fun B φ S ρ d v H1 I E r f => by
  unfold unB at f;split at f
  ·cases r; exact Fin.now f I rfl
  ·exact f.elim
theorem aW {op : CmpOp} {r : R2} {f : Vl -> Vl -> aQ -> Res Vl} (o : OpR X (compareOp op) r) (s : eX X.K r f) (ha : PE X a (cR X.K W ma)) (hb : PE X b (cR X.K W mb)) (hm : behindInMarks op b = false := by rfl) : PT X (.Compare a [op] [b] pos) (vF X.K W (mB (aR f ma mb))) :=
 CC (Pn o ha hb hm) fun σ H Q h => BD s (Km h)
def BB (x : Vl) (S : aQ) : Res Bool := match x with
 | .dat .non => .ok false S
 | .dat (.bl b) => .ok b S
 | .dat (.int i) => .ok (i != 0) S
 | .dat (.str y) => if y.length <= sizeLine then .ok ((y.length : Int) != 0) S else .stuck
 | .dat (.tup xs) => .ok (!xs.isEmpty) S
 | x => match nL S x with
  | some xs => .ok (!xs.isEmpty) S
  | none => .stuck
theorem RepL.emp {Bk : Addr -> Prop} {ds : List D} {vs : List V} (h : RepL K Bk H ds vs) : (!ds.isEmpty) = !vs.isEmpty := by
 have := h.len;cases ds <;> cases vs <;> simp at this ⊢
theorem DV {d : Vl} {v : V} {Q : Bool -> Hp -> Prop} (I : GInv K B φ S H) (r : RepV K B φ S H d v) (f : Fin K W σ RB B φ S H (BB d S) Q) : cT K v H Q := by
 unfold BB at f;split at f
 ·cases r; exact Fin.now f I rfl
 ·cases r; exact Fin.now f I rfl
 ·cases r; exact Fin.now f I rfl
 ·cases r
  split at f
  ·rename_i h; exact ⟨_, ⟨h, rfl⟩, Fin.now f I rfl⟩
  ·exact f.elim
 ·obtain ⟨a, vs, rfl, h1, l1⟩ := r
  exact ⟨_, .inr (.inl ⟨vs, h1, l1.emp⟩), Fin.now f I rfl⟩
 ·split at f
  ·rename_i xs q1
   obtain ⟨a, vs, rfl, h1, l1⟩ := kO I q1 r;exact ⟨_, .inl ⟨vs, SqL.of h1, l1.emp⟩, Fin.now f I rfl⟩
  ·exact f.elim
def gR (a : FE) : FT := fun ρ S => (a ρ S).bind BB
theorem eV (ha : PE X a (cR X.K W ma)) (he : ∀ whole, isTrue a X.env whole = (do let v <- whole; standAt a.pos; holding [v] (truthy v)) := by intro _; rfl) : PT X a (vF X.K W (gR ma)) :=
 CC (t_val ha he) fun σ H Q h => bZ (k := fun x _ S => BB x S) h fun B φ S ρ d v H1 I E r f => DV I r f
def LO (a b : FT) : FT := fun ρ S => (a ρ S).bind fun c S1 => if c = true then b ρ S1 else .ok false S1
def CP (a b : FT) : FT := fun ρ S => (a ρ S).bind fun c S1 => if c = true then .ok true S1 else b ρ S1
def oS (a : FT) : FT := fun ρ S => (a ρ S).bind fun c S1 => .ok (!c) S1
theorem ND {e : Expr} {t u : TT} (h : PW X e t) (i : ∀ σ H Q, u σ H Q -> t σ H Q) : PW X e u := ⟨fun whole pins s σ H Q I q => h.run whole pins s σ H Q I (i σ H Q q)⟩
theorem Nj {Q : Bool -> Hp -> Prop} (h : vF K W (LO mt mu) σ H Q) : tAnd (vF K W mt) (vF K W mu) σ H Q :=
 bZ (k := fun c ρ S => if c = true then mu ρ S else .ok false S) h fun B φ S ρ d v H1 I E r f => by
  have r : v = d := r;subst r;cases v with
  | true => exact ⟨B, φ, S, ρ, I, E, f⟩
  | false => exact Fin.now f I rfl
theorem Qa {Q : Bool -> Hp -> Prop} (h : vF K W (CP mt mu) σ H Q) : tOr (vF K W mt) (vF K W mu) σ H Q :=
 bZ (k := fun c ρ S => if c = true then .ok true S else mu ρ S) h fun B φ S ρ d v H1 I E r f => by
  have r : v = d := r;subst r;cases v with
  | false => exact ⟨B, φ, S, ρ, I, E, f⟩
  | true => exact Fin.now f I rfl
theorem MY (ha : PT X a (vF X.K W mt)) (hb : PW X (.BoolOp .And (b :: rest) pos) (vF X.K W mu)) : PW X (.BoolOp .And (a :: b :: rest) pos) (vF X.K W (LO mt mu)) := ND (pw_and ha hb) fun σ H Q h => Nj h
theorem nV (ha : PT X a (vF X.K W mt)) (hb : PW X (.BoolOp .Or (b :: rest) pos) (vF X.K W mu)) : PW X (.BoolOp .Or (a :: b :: rest) pos) (vF X.K W (CP mt mu)) := ND (pw_or ha hb) fun σ H Q h => Qa h
theorem hJ (ha : PT X a (vF X.K W mt)) : PT X (.UnaryOp .Not a pos) (vF X.K W (oS mt)) := CC (pt_not ha) fun σ H Q h =>
 bZ (k := fun c _ S => .ok (!c) S) h fun B φ S ρ d v H1 I E r f => by cases r; exact Fin.now f I rfl
def mO (a b : FE) : FE := fun ρ S => (a ρ S).bind fun x S1 => match x with
 | .dat (.bl c) => if c = true then b ρ S1 else .ok (.dat (.bl false)) S1
 | _ => .stuck
def mOrV (a b : FE) : FE := fun ρ S => (a ρ S).bind fun x S1 => match x with
 | .dat (.bl c) => if c = true then .ok (.dat (.bl true)) S1 else b ρ S1
 | _ => .stuck
def LM (a : FE) : FE := fun ρ S => (a ρ S).bind fun x S1 => (BB x S1).bind fun k S2 => .ok (.dat (.bl (!k))) S2
theorem kX (ha : PE X a (cR X.K W ma)) (hb : PE X (.BoolOp .And (b :: rest) pos) (cR X.K W mb)) : PE X (.BoolOp .And (a :: b :: rest) pos) (cR X.K W (mO ma mb)) := cW (e_and ha hb) fun σ H Q h =>
 bZ (k := fun x ρ S1 => match x with | .dat (.bl c) => if c = true then mb ρ S1 else .ok (.dat (.bl false)) S1 | _ => .stuck) h fun B φ S ρ d v H1 I E r f => by
  split at f
  ·rename_i c
   cases r;cases c with
   | true => exact ⟨B, φ, S, ρ, I, E, f⟩
   | false => exact Fin.now f I rfl
  ·exact f.elim
def R6 (a b : FE) : FE := fun ρ S => (a ρ S).bind fun x S1 => (BB x S1).bind fun k S2 => if k = true then .ok x S2 else b ρ S2
theorem El {x : Vl} {k : Bool} {S' : aQ} (h : BB x S = .ok k S') : S' = S := by
 unfold BB at h;split at h
 ·cases h; rfl
 ·cases h; rfl
 ·cases h; rfl
 ·split at h <;> cases h; rfl
 ·cases h; rfl
 ·split at h <;> cases h; rfl
theorem tru_V {d : Vl} {v : V} {k : Bool} (I : GInv K B φ S H) (r : RepV K B φ S H d v) (h : BB d S = .ok k S) : TruV K v H k := by
 obtain ⟨k', h1, h2⟩ := N1 v H (fun b _ => b = k) (DV (W := vX) (σ := []) I r (by
  rw [h];exact fun φ' v' H' _ _ r => r))
 rw [<- h2]; exact h1
theorem SK (ha : PE X a (cR X.K W ma)) (hb : PE X (.BoolOp .Or (b :: rest) pos) (cR X.K W mb)) : PE X (.BoolOp .Or (a :: b :: rest) pos) (cR X.K W (R6 ma mb)) := cW (pe_orT ha hb) fun σ H Q h =>
 bZ (k := fun x ρ S1 => (BB x S1).bind fun k S2 => if k = true then .ok x S2 else mb ρ S2) h fun B φ S ρ d v H1 I E r f => by
  cases q : BB d S with
  | stuck => rw [q] at f; exact f.elim
  | err e S' =>
   exfalso
   unfold BB at q;split at q <;> first | cases q | (split at q <;> cases q)
  | ok k S' =>
   have e := El q;subst e;rw [q] at f;refine ⟨k, tru_V I r q, ?_⟩
   cases k with
   | true => exact Fin.now f I r
   | false => exact ⟨B, φ, S', ρ, I, E, f⟩
theorem SL (ha : PE X a (cR X.K W ma)) : PE X (.UnaryOp .Not a pos) (cR X.K W (LM ma)) := cW (e_not ha) fun σ H Q h =>
 bZ (k := fun x _ S1 => (BB x S1).bind fun k S2 => Res.ok (Vl.dat (D.bl (!k))) S2) h fun B φ S ρ d v H1 I E r f => by
  cases q : BB d S with
  | stuck => rw [q] at f; exact f.elim
  | err e S' =>
   exfalso
   unfold BB at q;split at q <;> first | cases q | (split at q <;> cases q)
  | ok k S' =>
   have e := El q;subst e;rw [q] at f;refine DV (W := W) (σ := σ) I r ?_
   rw [q];intro φ' v' H' I' X' r';cases r';exact Fin.now (Fin.ext f X') I' rfl
def qV (f g : Vl -> Vl -> aQ -> Res Vl) (a b c : FE) : FE := fun ρ S => (a ρ S).bind fun x S1 => (b ρ S1).bind fun y S2 => (f x y S2).bind fun z S3 => match z with
 | .dat (.bl k) => if k = true then (c ρ S3).bind fun w S4 => g y w S4 else .ok (.dat (.bl false)) S3
 | _ => .stuck
theorem Cb {r r' : R2} {f g : Vl -> Vl -> aQ -> Res Vl} (s : eX K r f) (s' : eX K r' g) (h : cR K W (qV f g ma mb mc) σ H Q) : EF r r' (cR K W ma) (cR K W mb) (cR K W mc) σ H Q := by
 refine bZ (k := fun x ρ S1 => (mb ρ S1).bind fun y S2 => (f x y S2).bind fun z S3 => match z with | .dat (.bl k) => if k = true then (mc ρ S3).bind fun w S4 => g y w S4 else .ok (.dat (.bl false)) S3 | _ => .stuck) h fun B φ S ρ d v H1 I E r1 f' => gI I E f' fun φ' S' e w H2 I2 X2 E2 r2 f2 => ?_
 have r1' := r1.ext X2 I;refine s (W := W) (σ := σ) I2 r1' r2 ?_
 cases q : f d e S' with
 | stuck => rw [q] at f2; exact f2
 | err x S3 => rw [q] at f2; exact f2
 | ok z S3 =>
  rw [q] at f2;intro φ3 v3 H3 I3 X3 r3;have f3 := Fin.ext f2 X3;dsimp only [Res.bind] at f3;split at f3
  ·rename_i k
   cases r3;cases k with
   | false => exact Fin.now f3 I3 rfl
   | true => exact gI I3 (E2.ext X3 I2) f3 fun φ4 S4 d4 v4 H4 I4 X4 E4 r4 f4 => s' I4 ((r2.ext X3 I2).ext X4 I3) r4 f4
  ·exact f3.elim
theorem E8 {op op' : CmpOp} {r r' : R2} {f g : Vl -> Vl -> aQ -> Res Vl} (ho : OpR X (compareOp op) r) (s : eX X.K r f) (ho' : OpR X (compareOp op') r') (s' : eX X.K r' g) (ha : PE X a (cR X.K W ma)) (hb : PE X b (cR X.K W mb)) (hc : PE X c (cR X.K W mc))
  (hm : lastMarks [op, op'] [b, c] = false := by with_unfolding_all rfl) : PE X (.Compare a [op, op'] [b, c] pos) (cR X.K W (qV f g ma mb mc)) := cW (PP ho ho' ha hb hc hm) fun σ H Q h => Cb s s' h
theorem Fv {op op' : CmpOp} {r r' : R2} {f g : Vl -> Vl -> aQ -> Res Vl} (ho : OpR X (compareOp op) r) (s : eX X.K r f) (ho' : OpR X (compareOp op') r') (s' : eX X.K r' g) (ha : PE X a (cR X.K W ma)) (hb : PE X b (cR X.K W mb)) (hc : PE X c (cR X.K W mc))
  (hm : lastMarks [op, op'] [b, c] = false := by with_unfolding_all rfl) : PT X (.Compare a [op, op'] [b, c] pos) (vF X.K W (mB (qV f g ma mb mc))) := CC (NY ho ho' ha hb hc hm) fun σ H Q h => Cb s s' (Km h)
def mIf (t : FT) (a b : FE) : FE := fun ρ S => (t ρ S).bind fun c S1 => if c = true then a ρ S1 else b ρ S1
def aO : FA := fun _ S => .ok [] S
def aB (a : FE) (r : FA) : FA := fun ρ S => (a ρ S).bind fun x S1 => (r ρ S1).bind fun xs S2 => .ok (x :: xs) S2
theorem Hc {t u : TA} (h : PA X es t) (i : ∀ σ H Q, u σ H Q -> t σ H Q) : PA X es u := ⟨fun pos pins s σ H Q I q => h.run pos pins s σ H Q I (i σ H Q q)⟩
theorem aH : PA X [] (CN X.K W aO) := Hc pa_nil fun σ H Q h => by
 obtain ⟨B, φ, S, ρ, I, E, f⟩ := h;exact Fin.now (v := []) f I rfl
theorem aA (ha : PE X a (cR X.K W ma)) (hr : PA X es (CN X.K W mas)) (hs : starEach (a :: es) X.env = (false, eval a X.env) :: starEach es X.env := by rfl) : PA X (a :: es) (CN X.K W (aB ma mas)) := Hc (pa_cons ha hr hs) fun σ H Q h =>
 bZ (k := fun x ρ S1 => (mas ρ S1).bind fun xs S2 => .ok (x :: xs) S2) h fun B φ S ρ d v H1 I E r f => gI I E f fun φ' S' ds vs H2 I2 X2 E2 r2 f2 => Fin.now f2 I2 ⟨v, vs, rfl, r.ext X2 I, r2⟩
def dG (cl : Bool) (r : FA) : FE := fun ρ S => (r ρ S).bind fun xs S1 => match wN xs with
 | some ds => if ds.length <= sizeLine then newL cl ds S1 else .stuck
 | none => .stuck
def cC (r : FA) : FE := fun ρ S => (r ρ S).bind fun xs S1 => match wN xs with
 | some ds => if ds.length <= sizeLine then .ok (.dat (.tup ds)) S1 else .stuck
 | none => .stuck
theorem cU {cl : Bool} (h : PA X es (CN X.K W mas)) : PE X (.List es pos) (cR X.K W (dG cl mas)) := cW (pe_lst h) fun σ H Q h =>
 bZ (k := fun xs ρ S1 => match wN xs with | some ds => if ds.length <= sizeLine then newL cl ds S1 else .stuck | none => .stuck) h fun B φ S ρ d v H1 I E r f => by
  split at f
  ·rename_i ds q
   have l := yX q r;split at f
   ·rename_i hl
    exact ⟨by rw [l.len]; exact hl, fun p hp => Fin.newL f I l hp⟩
   ·exact f.elim
  ·exact f.elim
theorem bP (h : PA X es (CN X.K W mas)) : PE X (.Tuple es x1 pos) (cR X.K W (cC mas)) := cW (pe_tup h) fun σ H Q h =>
 bZ (k := fun xs ρ S1 => match wN xs with | some ds => if ds.length <= sizeLine then Res.ok (Vl.dat (D.tup ds)) S1 else .stuck | none => .stuck) h fun B φ S ρ d v H1 I E r f => by
  split at f
  ·rename_i ds q
   have l := yX q r;split at f
   ·rename_i hl
    exact ⟨by rw [l.len]; exact hl, fun p hp => Fin.newT f I l hp⟩
   ·exact f.elim
  ·exact f.elim
end
section
variable {X : Cx} {W : WX} {e a b c : Expr} {es rest : List Expr} {pos p q p2 : Pos} {x y z : Str} {K : aD} {ma mb mc : FE} {mt mu : FT} {mas : FA} {B : Addr -> Prop} {φ : List Addr} {S : aQ} {H : Hp} {σ : L2.St} {Q : VK}
theorem zG {r : V -> Hp -> VK -> Prop} {f : Vl -> aQ -> Res Vl} (s : EL K r f) (h : cR K W (m1 f ma) σ H Q) : tCB (c1 r) (tCons (cR K W ma) tNil) σ H Q := Kn s h
def fF (x : Vl) (S : aQ) : Res Vl := match x with
 | .dat (.tup xs) => .ok (.dat (.int xs.length)) S
 | .dat (.str z) => if z.length <= sizeLine then .ok (.dat (.int z.length)) S else .stuck
 | .cels ns => .ok (.dat (.int ns.length)) S
 | x => match nL S x with
  | some xs => .ok (.dat (.int xs.length)) S
  | none => .stuck
theorem s_len : EL K (cLen K) fF := fun {W σ B φ S H x d Q} I r f => by
 unfold fF at f;split at f
 ·obtain ⟨a, vs, rfl, h1, l1⟩ := r
  refine ⟨vs, .inr h1, ?_⟩
  rw [l1.len];exact Fin.now f I rfl
 ·cases r
  split at f
  ·rename_i h; exact ⟨h, Fin.now f I rfl⟩
  ·exact f.elim
 ·rename_i ns
  obtain ⟨a, as, rfl, h1, h2, h3⟩ := r;refine ⟨as.map V.ref, .inl (SqL.of h2), ?_⟩
  have e : as.length = ns.length := by
   have := congrArg CH h3
   simpa using this.symm
  rw [aN, e];exact Fin.now f I rfl
 ·split at f
  ·rename_i xs q1
   obtain ⟨a, vs, rfl, h1, l1⟩ := kO I q1 r;refine ⟨vs, .inl (SqL.of h1), ?_⟩
   rw [l1.len];exact Fin.now f I rfl
  ·exact f.elim
theorem fG (hm : X.mg "len" = none) (ha : PE X a (cR X.K W ma)) (hg : Gl X "len" := by rfl) (hs : starEach [a] X.env = [(false, eval a X.env)] := by rfl) : PE X (.Call (.Name "len" p) [a] [] pos) (cR X.K W (m1 fF ma)) := cW (e_len hm ha hg hs) fun σ H Q h => zG s_len h
def pX (x : Vl) (S : aQ) : Res Vl := match x with
 | .dat (.int i) => .ok (.dat (.int i)) S
 | .dat (.bl k) => .ok (.dat (.int (if k then 1 else 0))) S
 | _ => .stuck
theorem s_int : EL K cInt pX := fun {W σ B φ S H x d Q} I r f => by
 unfold pX at f;split at f
 ·cases r; exact Fin.now f I rfl
 ·cases r; exact Fin.now f I rfl
 ·exact f.elim
theorem oF (hm : X.mg "int" = none) (ha : PE X a (cR X.K W ma)) (hg : Gl X "int" := by rfl) (hs : starEach [a] X.env = [(false, eval a X.env)] := by rfl) : PE X (.Call (.Name "int" p) [a] [] pos) (cR X.K W (m1 pX ma)) := cW (e_int hm ha hg hs) fun σ H Q h => zG s_int h
def C9 : List D -> Option (List Bool)
 | [] => some []
 | .bl b :: r => match C9 r with
  | some bs => some (b :: bs)
  | none => none
 | _ :: _ => none
theorem GM {Bk : Addr -> Prop} : ∀ {ds : List D} {bs : List Bool} {vs : List V}, C9 ds = some bs -> RepL K Bk H ds vs -> vs = bs.map V.bl
 | [], bs, vs, h, r => by cases h; exact r
 | d :: ds, bs, vs, h, ⟨v, ws, e, h1, h2⟩ => by
  subst e;cases d with
  | bl b =>
   unfold C9 at h;cases q : C9 ds with
   | none => rw [q] at h; cases h
   | some es => rw [q] at h; cases h; cases h1; rw [GM q h2]; rfl
  | _ => cases h
def Sb : List D -> Option (List Int)
 | [] => some []
 | .int b :: r => match Sb r with
  | some bs => some (b :: bs)
  | none => none
 | _ :: _ => none
def Bu (x : Vl) (S : aQ) : Res Vl := match nL S x with
 | some xs => (match C9 xs with
  | some bs => .ok (.dat (.bl (bs.all id))) S
  | none => .stuck)
 | none => .stuck
theorem s_all : EL K (cAll K) Bu := fun {W σ B φ S H x d Q} I r f => by
 unfold Bu at f;split at f
 ·rename_i xs q1
  obtain ⟨a, vs, rfl, h1, l1⟩ := kO I q1 r;split at f
  ·rename_i bs q2
   rw [GM q2 l1] at h1;exact ⟨bs, SqL.of h1, Fin.now f I rfl⟩
  ·exact f.elim
 ·exact f.elim
theorem Mi (hm : X.mg "all" = none) (ha : PE X a (cR X.K W ma)) (hc : X.calm = true := by rfl) (hg : Gl X "all" := by rfl) (hs : starEach [a] X.env = [(false, eval a X.env)] := by rfl) : PE X (.Call (.Name "all" p) [a] [] pos) (cR X.K W (m1 Bu ma)) := cW (e_all hm ha hc hg hs) fun σ H Q h => zG s_all h
def qD (cl : Bool) (x : Vl) (S : aQ) : Res Vl := match x with
 | .dat (.tup xs) => newL cl xs S
 | x => match nL S x with
  | some xs => newL cl xs S
  | none => .stuck
theorem Qf {cl : Bool} : EL K (QM K) (qD cl) := fun {W σ B φ S H x d Q} I r f => by
 unfold qD at f;split at f
 ·obtain ⟨a, vs, rfl, h1, l1⟩ := r
  exact ⟨vs, .inr h1, fun l hl => Fin.newL f I l1 hl⟩
 ·split at f
  ·rename_i xs q1
   obtain ⟨a, vs, rfl, h1, l1⟩ := kO I q1 r;exact ⟨vs, .inl (SqL.of h1), fun l hl => Fin.newL f I l1 hl⟩
  ·exact f.elim
theorem Bt {cl : Bool} (hm : X.mg "list" = none) (ha : PE X a (cR X.K W ma)) (hg : Gl X "list" := by rfl) (hs : starEach [a] X.env = [(false, eval a X.env)] := by rfl) : PE X (.Call (.Name "list" p) [a] [] pos) (cR X.K W (m1 (qD cl) ma)) := cW (SU hm ha hg hs) fun σ H Q h => zG Qf h
def fTuple (x : Vl) (S : aQ) : Res Vl := match nL S x with
 | some xs => .ok (.dat (.tup xs)) S
 | none => .stuck
theorem Nm : EL K (N0 K) fTuple := fun {W σ B φ S H x d Q} I r f => by
 unfold fTuple at f;split at f
 ·rename_i xs q1
  obtain ⟨a, vs, rfl, h1, l1⟩ := kO I q1 r;exact ⟨vs, SqL.of h1, fun l hl => Fin.newT f I l1 hl⟩
 ·exact f.elim
theorem Dz (hm : X.mg "tuple" = none) (ha : PE X a (cR X.K W ma)) (hg : Gl X "tuple" := by rfl) (hs : starEach [a] X.env = [(false, eval a X.env)] := by rfl) : PE X (.Call (.Name "tuple" p) [a] [] pos) (cR X.K W (m1 fTuple ma)) := cW (PN hm ha hg hs) fun σ H Q h => zG Nm h
def fAbs (x : Vl) (S : aQ) : Res Vl := match x with
 | .dat (.int i) => .ok (.dat (.int (if i < 0 then -i else i))) S
 | _ => .stuck
theorem Ff {a : Addr} {xs : List V} (h : SqT K H a xs) : CD K H a "tuple" := by
 refine ⟨by decide, ?_⟩
 rcases h with (h | ⟨o, h⟩) | ⟨o, its, n, h, hc, _⟩
 ·exact .base (.tup h)
 ·exact .fTuple h
 ·exact .kTuple h hc
theorem uG {a : Addr} {xs : List V} (h : SqL K H a xs) : CD K H a "list" := by
 refine ⟨by decide, ?_⟩
 rcases h with (h | ⟨o, h⟩) | ⟨o, its, n, h, hc, _⟩
 ·exact .base (.lst h)
 ·exact .base (.frz h)
 ·exact .kList h hc
def kindOf (S : aQ) : Vl -> Option String
 | .dat .non => some "NoneType"
 | .dat (.bl _) => some "bool"
 | .dat (.int _) => some "int"
 | .dat (.str _) => some "str"
 | .dat (.lst _) => some "list"
 | .dat (.tup _) => some "tuple"
 | .dat .dct => some "dict"
 | .dat (.opq _) => none
 | .dat (.ins _ _ _) => none
 | .cels _ => some "list"
 | .scr _ => some "list"
 | .tc _ => some "tuple"
 | .cel n => match S[n]? with
  | some (.lst _) => some "list"
  | some (.dct _) => some "dict"
  | some (.lv _) => some "list"
  | _ => none
def fIsi (T : String) (x : Vl) (S : aQ) : Res Vl := match kindOf S x with
 | some n => .ok (.dat (.bl (isTy T n))) S
 | none => .stuck
theorem zR {d : Vl} {v : V} {n : String} (I : GInv K B φ S H) (r : RepV K B φ S H d v) (h : kindOf S d = some n) : (v = .non /\ n = "NoneType") \/ (∃ b, v = .bl b /\ n = "bool") \/ (∃ b, v = .int b /\ n = "int") \/ (∃ b, v = .str b /\ n = "str") \/ ∃ a, v = .ref a /\ CD K H a n := by
 cases d with
 | dat d =>
  cases d with
  | non => cases h; cases r; exact .inl ⟨rfl, rfl⟩
  | bl b => cases h; cases r; exact .inr (.inl ⟨b, rfl, rfl⟩)
  | int b => cases h; cases r; exact .inr (.inr (.inl ⟨b, rfl, rfl⟩))
  | str b => cases h; cases r; exact .inr (.inr (.inr (.inl ⟨b, rfl, rfl⟩)))
  | lst xs => cases h; obtain ⟨a, vs, rfl, _, h1, _⟩ := r; exact .inr (.inr (.inr (.inr ⟨a, rfl, uG (SqL.of h1)⟩)))
  | tup xs => cases h; obtain ⟨a, vs, rfl, h1, _⟩ := r; exact .inr (.inr (.inr (.inr ⟨a, rfl, Ff h1⟩)))
  | ins C ns xs => cases h
  | opq _ => cases h
  | dct => cases h; obtain ⟨a, rfl, _, h1⟩ := r; exact .inr (.inr (.inr (.inr ⟨a, rfl, by decide, .base (.dK h1)⟩)))
 | cels ns => cases h; obtain ⟨a, as, rfl, _, h1, _⟩ := r; exact .inr (.inr (.inr (.inr ⟨a, rfl, uG (SqL.of h1)⟩)))
 | scr ns => cases h; obtain ⟨a, rfl, h1⟩ := r; exact .inr (.inr (.inr (.inr ⟨a, rfl, uG h1.sq⟩)))
 | tc xs => cases h; obtain ⟨a, vs, rfl, h1, _⟩ := r; exact .inr (.inr (.inr (.inr ⟨a, rfl, Ff h1⟩)))
 | cel n =>
  obtain ⟨a, rfl, h1⟩ := r;have h : (match S[n]? with | some (.lst _) => some "list" | some (.dct _) => some "dict" | some (.lv _) => some "list" | _ => none) = some _ := h
  split at h
  ·rename_i q
   cases h;obtain ⟨vs, h2, _⟩ := I.ok n _ a q h1;exact .inr (.inr (.inr (.inr ⟨a, rfl, uG (SqL.of h2)⟩)))
  ·rename_i q
   cases h;obtain ⟨vs, h2, _⟩ := I.ok n _ a q h1;exact .inr (.inr (.inr (.inr ⟨a, rfl, by decide, .base (.dK h2)⟩)))
  ·rename_i q
   cases h;obtain ⟨vs, h2, _⟩ := I.ok n _ a q h1;exact .inr (.inr (.inr (.inr ⟨a, rfl, uG (SqL.of h2)⟩)))
  ·cases h
theorem s_isi {T : String} (hT : T ∈ targets) : EL K (N3 K T) (fIsi T) := fun {W σ B φ S H x d Q} I r f => by
 unfold fIsi at f;have h6 : T = "int" \/ T = "bool" \/ T = "str" \/ T = "list" \/ T = "tuple" \/ T = "dict" := by simpa [targets] using hT
 split at f
 ·rename_i n h
  have q : ∀ b, b = isTy T n -> Q (.bl b) H := fun b e => by rw [e]; exact Fin.now f I rfl
  rcases zR I r h with ⟨rfl, rfl⟩ | ⟨b, rfl, rfl⟩ | ⟨b, rfl, rfl⟩ | ⟨b, rfl, rfl⟩ | ⟨a, rfl, hk⟩
  ·exact q false (by rcases h6 with e | e | e | e | e | e <;> subst e <;> decide)
  ·exact q _ (by rcases h6 with e | e | e | e | e | e <;> subst e <;> decide)
  ·exact q _ (by rcases h6 with e | e | e | e | e | e <;> subst e <;> decide)
  ·exact q _ (by rcases h6 with e | e | e | e | e | e <;> subst e <;> decide)
  ·have h3 : n = "list" \/ n = "tuple" \/ n = "dict" := by simpa using hk.1
   exact ⟨n, hk, q _ (by rcases h6 with e | e | e | e | e | e <;> rcases h3 with e' | e' | e' <;> subst e <;> subst e' <;> decide)⟩
 ·exact f.elim
theorem hY {T : String} (hm : X.mg "isinstance" = none) (hmT : X.mg y = none) (ha : PE X a (cR X.K W ma)) (hT : T ∈ targets := by decide) (hv : bootBuiltins y = some (.type T) := by decide +kernel)
  (hg : Gl X "isinstance" := by rfl) (hgT : Gl X y := by rfl) (hn : y ≠ "__name__" := by decide) (hd : (y == ("__debug__" : Str)) = false := by decide) (hs : starEach [a, .Name y q] X.env = (false, eval a X.env) :: starEach [.Name y q] X.env := by rfl) :
  PE X (.Call (.Name "isinstance" p) [a, .Name y q] [] pos) (cR X.K W (m1 (fIsi T) ma)) := cW (e_isi hm hmT ha hT hv hg hgT hn hd hs) fun σ H Q h => Kn (s_isi hT) h
def fIsi2 (T U : String) (x : Vl) (S : aQ) : Res Vl := match kindOf S x with
 | some n => .ok (.dat (.bl (isTy T n || isTy U n))) S
 | none => .stuck
theorem Qg {T U : String} (hT : T ∈ targets) (hU : U ∈ targets) {x : V} {d : Vl} (I : GInv K B φ S H) (r : RepV K B φ S H d x) (f : Fin K W σ (RepV K) B φ S H (fIsi2 T U d S) Q) {tp : Addr} {H' : Hp} (ntp : H tp = none) (hH : H' = upd H tp (.tup [.ty T, .ty U])) : QN K T U x H' fun b => Q (.bl b) H' := by
 unfold fIsi2 at f;split at f
 ·rename_i n h
  have X1 := Ext.new (o := .tup [.ty T, .ty U]) I ntp;have I1 := I.new (o := .tup [.ty T, .ty U]) ntp;have hq : Q (.bl (isTy T n || isTy U n)) H' := by subst hH; exact f φ _ _ I1 X1 rfl
  have r' : RepV K B φ S H' d x := by subst hH; exact r.ext X1 I
  rcases zR I r h with ⟨rfl, rfl⟩ | ⟨b, rfl, rfl⟩ | ⟨b, rfl, rfl⟩ | ⟨b, rfl, rfl⟩ | ⟨a, rfl, hk⟩
  ·have : ∀ T ∈ targets, isTy T "NoneType" = false := by decide
   rw [this T hT, this U hU] at hq;exact hq
  ·exact hq
  ·exact hq
  ·exact hq
  ·have I1' : GInv K B φ S H' := by subst hH; exact I1
   rcases zR I1' r' h with ⟨z, _⟩ | ⟨b, z, _⟩ | ⟨b, z, _⟩ | ⟨b, z, _⟩ | ⟨a', z, hk'⟩ <;> cases z
   exact ⟨n, hk', hq⟩
 ·exact f.elim
theorem Mh {q1 q2 tpos : Pos} {j : Nat} {T U : String} (hm : X.mg "isinstance" = none) (hmT : X.mg y = none) (hmU : X.mg z = none) (ha : PE X a (cR X.K W ma)) (hT : T ∈ targets := by decide) (hU : U ∈ targets := by decide)
  (hv : bootBuiltins y = some (.type T) := by decide +kernel) (hw : bootBuiltins z = some (.type U) := by decide +kernel) (hg : Gl X "isinstance" := by rfl) (hgT : Gl X y := by rfl) (hgU : Gl X z := by rfl) (hn : y ≠ "__name__" := by decide) (hd : (y == ("__debug__" : Str)) = false := by decide) (hn2 : z ≠ "__name__" := by decide) (hd2 : (z == ("__debug__" : Str)) = false := by decide)
  (hs : starEach [a, .Tuple [.Name y q1, .Name z q2] j tpos] X.env = (false, eval a X.env) :: starEach [.Tuple [.Name y q1, .Name z q2] j tpos] X.env := by rfl) :
  PE X (.Call (.Name "isinstance" p) [a, .Tuple [.Name y q1, .Name z q2] j tpos] [] pos) (cR X.K W (m1 (fIsi2 T U) ma)) :=
 cW (SV hm hmT hmU ha hT hU hv hw hg hgT hgU hn hd hn2 hd2 hs) fun σ H Q h => bZ (k := fun x _ S => fIsi2 T U x S) h fun B φ S ρ d v H1 I E r f => by
  show _ /\ _
  exact ⟨(by show 2 <= sizeLine; decide), fun tp htp => ⟨upd_same, Qg hT hU I r f htp rfl⟩⟩
def cutD (xs : List D) (lo hi : Option Int) : List D := (xs.drop (HT.sIx xs.length 0 lo)).take (HT.sIx xs.length xs.length hi - HT.sIx xs.length 0 lo)
theorem RepL.cut {Bk : Addr -> Prop} {ds : List D} {vs : List V} {lo hi : Option Int} (h : RepL K Bk H ds vs) : RepL K Bk H (cutD ds lo hi) (cutV vs lo hi) := by
 unfold cutD cutV;rw [h.len];exact (h.drop _).take _
def QI (cl : Bool) (x : Vl) (lo hi : Option Int) (S : aQ) : Res Vl := match x with
 | .dat (.tup xs) => .ok (.dat (.tup (cutD xs lo hi))) S
 | .dat (.str z) => if z.length <= sizeLine then .ok (.dat (.str (cutS z lo hi))) S else .stuck
 | .scr ns => newL cl (cutD (ns.map D.int) lo hi) S
 | x => match nL S x with
  | some xs => newL cl (cutD xs lo hi) S
  | none => .stuck
def qU : FO := fun _ S => .ok none S
def hC (a : FE) : FO := fun ρ S => (a ρ S).bind fun x S1 => match x with
 | .dat (.int i) => .ok (some i) S1
 | _ => .stuck
theorem NF {e : Option Expr} {t u : TO} (h : PO X e t) (i : ∀ σ H Q, u σ H Q -> t σ H Q) : PO X e u := ⟨fun pins s σ H Q I q => h.run pins s σ H Q I (i σ H Q q)⟩
theorem iJ : PO X none (rdO X.K W qU) := NF po_none fun σ H Q h => by
 obtain ⟨B, φ, S, ρ, I, E, f⟩ := h;exact Fin.now (v := none) f I rfl
theorem fD (ha : PE X a (cR X.K W ma)) : PO X (some a) (rdO X.K W (hC ma)) := NF (L4 ha) fun σ H Q h =>
 bZ (k := fun x _ S1 => match x with | .dat (.int i) => .ok (some i) S1 | _ => .stuck) h fun B φ S ρ d v H1 I E r f => by
  split at f
  ·cases r; exact Fin.now f I rfl
  ·exact f.elim
theorem Cj {Bk : Addr -> Prop} : ∀ ns : List Int, RepL K Bk H (ns.map D.int) (ns.map V.int)
 | [] => rfl
 | n :: ns => ⟨_, _, rfl, rfl, Cj ns⟩
theorem K3 {xs : List D} {lo hi : Option Int} (h : HT.sIx xs.length 0 lo = 0 /\ HT.sIx xs.length xs.length hi = xs.length) : cutD xs lo hi = xs := by
 unfold cutD;rw [h.1, h.2];simp
def Ao (cl : Bool) (a : FE) (l h : FO) : FE := fun ρ S => (a ρ S).bind fun x S1 => (l ρ S1).bind fun lo S2 => (h ρ S2).bind fun hi S3 => QI cl x lo hi S3
theorem uN {cl : Bool} {lo hi : Option Expr} {ml mh : FO} (ha : PE X a (cR X.K W ma)) (hl : PO X lo (rdO X.K W ml)) (hh : PO X hi (rdO X.K W mh)) : PE X (.Subscript a (.Slice lo hi none p2) pos) (cR X.K W (Ao cl ma ml mh)) := cW (pe_slice sl_C ha hl hh) fun σ H Q h =>
 bZ (k := fun x ρ S1 => (ml ρ S1).bind fun lo S2 => (mh ρ S2).bind fun hi S3 => QI cl x lo hi S3) h fun B φ S ρ d v H1 I E r f => gI I E f fun φ1 S1 d1 v1 H2 I1 X1 E1 r1 f1 => gI I1 E1 f1 fun φ2 S2 d2 v2 H3 I2 X2 E2 r2 f2 => by
  cases r1;cases r2
  replace r := (r.ext X1 I).ext X2 I1
  unfold QI at f2;split at f2
  ·rename_i xs
   obtain ⟨a, vs, rfl, h1, l1⟩ := r;refine Ac ⟨vs, h1, fun hw => ?_, fun hw p hp => Fin.newT f2 I2 l1.cut hp⟩
   rw [l1.len] at hw;have e := K3 (xs := xs) hw;rw [e] at f2;exact Fin.now f2 I2 ⟨a, vs, rfl, h1, l1⟩
  ·cases r
   split at f2
   ·rename_i hz; exact ⟨hz, Fin.now f2 I2 rfl⟩
   ·exact f2.elim
  ·obtain ⟨a, rfl, h1⟩ := r
   exact CV ⟨_, h1.sq, fun p hp => Fin.newL f2 I2 (Cj _).cut hp⟩
  ·split at f2
   ·rename_i xs q1
    obtain ⟨a, vs, rfl, h1, l1⟩ := kO I2 q1 r;exact CV ⟨vs, SqL.of h1, fun p hp => Fin.newL f2 I2 l1.cut hp⟩
   ·exact f2.elim
def xV (a : FE) : FE := fun ρ S => (a ρ S).bind fun x S1 => match x with
 | .cel n => (match S1[n]? with
  | some (.lst ds) => .ok (.dat (.lst ds)) (S1.set n .dead)
  | _ => .stuck)
 | _ => .stuck
theorem tF (ha : PE X a (cR X.K W ma)) : PE X a (cR X.K W (xV ma)) := cW ha fun σ H Q h =>
 bZ (k := fun x _ S1 => match x with | .cel n => (match S1[n]? with | some (Cell.lst ds) => Res.ok (Vl.dat (D.lst ds)) (S1.set n Cell.dead) | _ => Res.stuck) | _ => Res.stuck) h fun B φ S ρ d v H1 I E r f => by
  split at f
  ·rename_i n
   obtain ⟨a, rfl, h1⟩ := r;split at f
   ·rename_i ds q
    obtain ⟨vs, h2, l⟩ := I.ok n _ a q h1;have X1 := Ext.kill (φ := φ) (S := S) (H := H1) (n := n);exact f φ _ H1 I.kill X1 ⟨a, vs, rfl, I.killed q (by simp) h1, h2, X1.repL I l⟩
   ·exact f.elim
  ·exact f.elim
def LL (a : FE) (r : FA) : FA := fun ρ S => (a ρ S).bind fun x S1 => match (match x with | .dat (.tup xs) => some xs | x => nL S1 x) with
 | some xs => (r ρ S1).bind fun ys S2 => .ok (xs.map Vl.dat ++ ys) S2
 | none => .stuck
theorem RepL.vs {Bk : Addr -> Prop} : ∀ {ds : List D} {vs : List V}, RepL K (jU B φ S) H ds vs -> RepVs K B φ S H (ds.map Vl.dat) vs
 | [], vs, h => h
 | d :: ds, vs, ⟨v, ws, e, h1, h2⟩ => ⟨v, ws, e, h1, RepL.vs (Bk := Bk) h2⟩
theorem RepVs.append : ∀ {ds es : List Vl} {vs ws : List V}, RepVs K B φ S H ds vs -> RepVs K B φ S H es ws -> RepVs K B φ S H (ds ++ es) (vs ++ ws)
 | [], es, vs, ws, h, h' => by cases h; exact h'
 | d :: ds, es, vs, ws, ⟨v, us, e, h1, h2⟩, h' => by subst e; exact ⟨v, us ++ ws, rfl, h1, RepVs.append h2 h'⟩
theorem P4 (ha : PE X a (cR X.K W ma)) (hr : PA X es (CN X.K W mas)) (hs : starEach (.Starred a p :: es) X.env = (true, eval a X.env) :: starEach es X.env := by rfl) : PA X (.Starred a p :: es) (CN X.K W (LL ma mas)) := Hc (StX.pa_star ha hr hs) fun σ H Q h =>
 bZ (k := fun x ρ S1 => match (match x with | Vl.dat (D.tup xs) => some xs | x => nL S1 x) with | some xs => (mas ρ S1).bind fun ys S2 => Res.ok (xs.map Vl.dat ++ ys) S2 | none => Res.stuck) h fun B φ S ρ d v H1 I E r f => by
  split at f
  ·rename_i xs q
   have : ∃ a vs, v = .ref a /\ (SqT X.K H1 a vs \/ SqL X.K H1 a vs) /\ RepL X.K (jU B φ S) H1 xs vs := by
    split at q
    ·cases q
     obtain ⟨a, vs, rfl, h1, l⟩ := r;exact ⟨a, vs, rfl, .inl h1, l⟩
    ·obtain ⟨a, vs, rfl, h1, l⟩ := kO I q r
     exact ⟨a, vs, rfl, .inr (SqL.of h1), l⟩
   obtain ⟨a, vs, rfl, h1, l⟩ := this;refine ⟨a, vs, rfl, h1, gI I E f fun φ1 S1 d1 v1 H2 I1 X1 E1 r1 f1 => Fin.now f1 I1 (RepVs.append (RepVs.ext X1 I (RepL.vs (Bk := fun _ => True) l)) r1)⟩
  ·exact f.elim
end
inductive Out where
 | next (ρ : Ev) (S : aQ) | ret (d : Vl) (S : aQ) | brk (ρ : Ev) (S : aQ) | cnt (ρ : Ev) (S : aQ) | err (e : Er) (ρ : Ev) (S : aQ) | stuck
abbrev FS := Ev -> aQ -> Out
def Res.toS {α : Type} (r : Res α) (ρ : Ev) (k : α -> aQ -> Out) : Out := match r with
 | .ok a S => k a S
 | .err e S => .err e ρ S
 | .stuck => .stuck
def FinS (K : aD) (W : WX) (D : Ends) (B : Addr -> Prop) (φ : List Addr) (S : aQ) (H : Hp) (o : Out) : Prop := match o with
 | .next ρ' S' => ∀ φ' σ' H', GInv K B φ' S' H' -> Ext φ S H φ' S' H' -> RepE K B φ' S' H' ρ' σ' -> D.nx σ' H'
 | .ret d S' => ∀ φ' v H', GInv K B φ' S' H' -> Ext φ S H φ' S' H' -> RepV K B φ' S' H' d v -> D.rt v H'
 | .brk ρ' S' => ∀ φ' σ' H', GInv K B φ' S' H' -> Ext φ S H φ' S' H' -> RepE K B φ' S' H' ρ' σ' -> D.bk σ' H'
 | .cnt ρ' S' => ∀ φ' σ' H', GInv K B φ' S' H' -> Ext φ S H φ' S' H' -> RepE K B φ' S' H' ρ' σ' -> D.ct σ' H'
 | .err e ρ' S' => ∀ φ' σ' c x H', GInv K B φ' S' H' -> Ext φ S H φ' S' H' -> RepE K B φ' S' H' ρ' σ' -> RepX K B φ' S' H' e c x -> W c x σ' H'
 | .stuck => False
def mN (K : aD) (W : WX) (m : FS) : TS := fun D σ H => ∃ B φ S ρ, GInv K B φ S H /\ RepE K B φ S H ρ σ /\ FinS K W D B φ S H (m ρ S)
section
variable {X : Cx} {W : WX} {e a b c : Expr} {es rest : List Expr} {pos p q p2 : Pos} {x y z : Str} {K : aD} {ma mb mc : FE} {mt mu : FT} {mas : FA} {B : Addr -> Prop} {φ φ' : List Addr} {S S' : aQ} {H H' : Hp} {σ : L2.St} {Q : VK} {m n : FS} {st : Stmt} {gN : List Stmt} {D : Ends}
theorem hW {t u : TS} (h : PS X st t) (i : ∀ D σ H, u D σ H -> t D σ H) : PS X st u := ⟨fun pins s σ H D I q => h.run pins s σ H D I (i D σ H q)⟩
theorem EM {t u : TS} (h : PSs X gN t) (i : ∀ D σ H, u D σ H -> t D σ H) : PSs X gN u := ⟨fun pins s σ H D I q => h.run pins s σ H D I (i D σ H q)⟩
theorem FinS.ext {o : Out} (f : FinS K W D B φ S H o) (e : Ext φ S H φ' S' H') : FinS K W D B φ' S' H' o := by
 cases o with
 | next ρ S1 => exact fun φ1 v H1 I1 X r => f φ1 v H1 I1 (e.trans X) r
 | ret d S1 => exact fun φ1 v H1 I1 X r => f φ1 v H1 I1 (e.trans X) r
 | brk ρ S1 => exact fun φ1 v H1 I1 X r => f φ1 v H1 I1 (e.trans X) r
 | cnt ρ S1 => exact fun φ1 v H1 I1 X r => f φ1 v H1 I1 (e.trans X) r
 | err x ρ S1 => exact fun φ1 σ1 c x H1 I1 X r => f φ1 σ1 c x H1 I1 (e.trans X) r
 | stuck => exact f
theorem cJ {α β : Type} {R : Rl α β} {ρ : Ev} {m : Ev -> aQ -> Res α} {k : α -> aQ -> Out} {Q1 : β -> Hp -> Prop} (I : GInv K B φ S H) (E : RepE K B φ S H ρ σ) (f : FinS K W D B φ S H ((m ρ S).toS ρ k))
  (hk : ∀ φ' S' d v H1, GInv K B φ' S' H1 -> Ext φ S H φ' S' H1 -> RepE K B φ' S' H1 ρ σ -> R B φ' S' H1 d v -> FinS K W D B φ' S' H1 (k d S') -> Q1 v H1) : rd K W R m σ H Q1 := by
 refine ⟨B, φ, S, ρ, I, E, ?_⟩
 cases e : m ρ S with
 | stuck => rw [e] at f; exact f
 | err x S' =>
  rw [e] at f;exact fun φ' c d H' I' X r => f φ' σ c d H' I' X (E.ext X I) r
 | ok d S' =>
  rw [e] at f;exact fun φ' v H' I' X r => hk φ' S' d v H' I' X (E.ext X I) r (FinS.ext f X)
def aT (m n : FS) : FS := fun ρ S => match m ρ S with
 | .next ρ' S' => n ρ' S'
 | o => o
def bK : FS := fun ρ S => .next ρ S
def bW (a : FE) : FS := fun ρ S => (a ρ S).toS ρ fun d S1 => .ret d S1
def dQ (a : FE) : FS := fun ρ S => (a ρ S).toS ρ fun _ S1 => .next ρ S1
def cA (t : FT) (m n : FS) : FS := fun ρ S => (t ρ S).toS ρ fun c S1 => if c = true then m ρ S1 else n ρ S1
theorem Nb (h : mN K W (aT m n) D σ H) : tSeq (mN K W m) (mN K W n) D σ H := by
 obtain ⟨B, φ, S, ρ, I, E, f⟩ := h;refine ⟨B, φ, S, ρ, I, E, ?_⟩
 unfold aT at f;cases e : m ρ S with
 | next ρ' S' =>
  rw [e] at f;exact fun φ' σ' H' I' X r => ⟨B, φ', S', ρ', I', r, FinS.ext f X⟩
 | ret d S' => rw [e] at f; exact f
 | brk d S' => rw [e] at f; exact f
 | cnt d S' => rw [e] at f; exact f
 | err x d S' => rw [e] at f; exact f
 | stuck => rw [e] at f; exact f
theorem aS : PSs X [] (mN X.K W bK) := EM pss_nil fun D σ H h => by
 obtain ⟨B, φ, S, ρ, I, E, f⟩ := h;exact f φ σ H I Ext.refl E
theorem aI (h : PS X st (mN X.K W m)) : PSs X [st] (mN X.K W m) := pss_one h
theorem aF (h : PS X st (mN X.K W m)) (hr : PSs X gN (mN X.K W n)) : PSs X (st :: gN) (mN X.K W (aT m n)) := EM (pss_cons h hr) fun D σ H h => Nb h
theorem aU (ha : PE X a (cR X.K W ma)) : PS X (.Return (some a) pos) (mN X.K W (bW ma)) := hW (ps_ret ha) fun D σ H h => by
 obtain ⟨B, φ, S, ρ, I, E, f⟩ := h;exact cJ I E f fun φ' S' d v H1 I1 X1 E1 r f1 => f1 φ' v H1 I1 Ext.refl r
theorem Oz : PS X (.Return none pos) (mN X.K W (bW (mC .non))) := hW ps_retN fun D σ H h => by
 obtain ⟨B, φ, S, ρ, I, E, f⟩ := h;exact f φ _ H I Ext.refl rfl
theorem cM (ha : PE X a (cR X.K W ma)) (hs : swapsWith a none pos.line X.env = pure false := by rfl) : PS X (.Expr a pos) (mN X.K W (dQ ma)) := hW (ps_expr ha hs) fun D σ H h => by
 obtain ⟨B, φ, S, ρ, I, E, f⟩ := h;exact cJ I E f fun φ' S' d v H1 I1 X1 E1 r f1 => f1 φ' σ H1 I1 Ext.refl E1
theorem bE {s1 s2 : List Stmt} (ht : PT X c (vF X.K W mt)) (ha : PSs X s1 (mN X.K W m)) (hb : PSs X s2 (mN X.K W n)) : PS X (.If c s1 s2 pos) (mN X.K W (cA mt m n)) := hW (ps_if ht ha hb) fun D σ H h => by
 obtain ⟨B, φ, S, ρ, I, E, f⟩ := h;refine cJ I E f fun φ' S' d v H1 I1 X1 E1 r f1 => ?_
 have r : v = d := r;subst r;cases v with
 | true => exact ⟨B, φ', S', ρ, I1, E1, f1⟩
 | false => exact ⟨B, φ', S', ρ, I1, E1, f1⟩
inductive Tg where
 | nm (i : Nat) | tp (is : List Nat) | tn (i : Nat) (is : List Nat)
def Dw : List Nat -> TGs
 | [] => gNil
 | i :: r => gCons (gName i) (Dw r)
def Hq (K : aD) : Tg -> TG
 | .nm i => gName i
 | .tp is => gTup K is.length (Dw is)
 | .tn i is => gTup K 2 (gCons (gName i) (gCons (gTup K is.length (Dw is)) gNil))
def putAll : List Nat -> List L2.V -> L2.St -> L2.St
 | i :: r, v :: vs, σ => putAll r vs (σ.set i (some v))
 | _, _, σ => σ
def iV : List Nat -> List PH.D -> Ev -> Ev
 | i :: r, v :: vs, σ => iV r vs (σ.set i (some (.dat v)))
 | _, _, σ => σ
def oK : Tg -> Vl -> Ev -> Option Ev
 | .nm i, d, ρ => some (ρ.set i (some d))
 | .tp is, .dat (.tup ds), ρ => if ds.length = is.length then some (iV is ds ρ) else none
 | .tp _, _, _ => none
 | .tn i is, .dat (.tup [d, .tup ds]), ρ => if ds.length = is.length then some (iV is ds (ρ.set i (some (.dat d)))) else none
 | .tn _ _, _, _ => none
def KZ : Tg -> List Nat
 | .nm i => [i]
 | .tp is => is
 | .tn i is => i :: is
theorem zX {Q : L2.St -> Hp -> Prop} : ∀ {is : List Nat} {vs : List L2.V} {σ : L2.St} {H : Hp}, vs.length = is.length -> Q (putAll is vs σ) H -> Dw is vs σ H Q
 | [], [], σ, H, _, q => ⟨rfl, q⟩
 | i :: is, v :: vs, σ, H, h, q => ⟨v, vs, rfl, zX (is := is) (by simpa using h) q⟩
 | [], _ :: _, _, _, h, _ => by simp at h
 | _ :: _, [], _, _, h, _ => by simp at h
theorem BS : ∀ {is : List Nat} {ds : List PH.D} {vs : List L2.V} {ρ : Ev} {σ : L2.St}, RepL K (jU B φ S) H ds vs -> RepE K B φ S H ρ σ -> RepE K B φ S H (iV is ds ρ) (putAll is vs σ)
 | [], ds, vs, ρ, σ, h, E => by cases ds <;> cases vs <;> exact E
 | i :: is, [], vs, ρ, σ, h, E => by cases h; exact E
 | i :: is, d :: ds, vs, ρ, σ, ⟨v, ws, e, h1, h2⟩, E => by subst e; exact BS (is := is) h2 (E.set (d := .dat d) h1 i)
def Ke : Tg -> L2.V -> List L2.V -> L2.St -> L2.St
 | .nm i, v, _, σ => σ.set i (some v)
 | .tp is, _, vs, σ => putAll is vs σ
 | .tn i is, _, v :: vs, σ => putAll is vs (σ.set i (some v))
 | .tn _ _, _, [], σ => σ
theorem zD {t : Tg} {d : Vl} {v : L2.V} {ρ ρ' : Ev} {Q : L2.St -> Hp -> Prop} (E : RepE K B φ S H ρ σ) (r : RepV K B φ S H d v) (h : oK t d ρ = some ρ') (q : ∀ vs, RepE K B φ S H ρ' (Ke t v vs σ) -> Q (Ke t v vs σ) H) : Hq K t v σ H Q := by
 cases t with
 | nm i => cases h; exact q [] (E.set r i)
 | tp is =>
  cases d with
  | dat d =>
   cases d with
   | tup ds =>
    have h : (if ds.length = is.length then some (iV is ds ρ) else none) = some ρ' := h
    split at h
    ·rename_i hl
     cases h;obtain ⟨a, vs, rfl, h1, l⟩ := r;exact ⟨a, vs, rfl, h1, by rw [l.len, hl], zX (by rw [l.len, hl]) (q vs (BS l E))⟩
    ·cases h
   | _ => cases h
  | _ => cases h
 | tn i is =>
  cases d with
  | dat d =>
   cases d with
   | tup xs =>
    cases xs with
    | nil => cases h
    | cons d0 xs =>
     cases xs with
     | nil => cases h
     | cons d1 xs =>
      cases xs with
      | cons _ _ => cases d1 <;> cases h
      | nil =>
       cases d1 with
       | tup ds =>
        have h : (if ds.length = is.length then some (iV is ds (ρ.set i (some (.dat d0)))) else none) = some ρ' := h
        split at h
        ·rename_i hl
         cases h;obtain ⟨a, vs, rfl, h1, v0, ws, rfl, r0, v1, us, rfl, ⟨b, zs, rfl, h2, l⟩, rfl⟩ := r;refine ⟨a, [v0, .ref b], rfl, h1, rfl, v0, _, rfl, .ref b, _, rfl, b, zs, rfl, h2, by rw [l.len, hl], ?_⟩
         refine zX (Q := fun σ' H' => gNil [] σ' H' Q) (by rw [l.len, hl]) ⟨rfl, ?_⟩
         exact q (v0 :: zs) (BS l (E.set (d := .dat d0) r0 i))
        ·cases h
       | _ => cases h
   | _ => cases h
  | _ => cases h
def cN (a : FE) (t : Tg) : FS := fun ρ S => (a ρ S).toS ρ fun d S1 => match oK t d ρ with
 | some ρ' => .next ρ' S1
 | none => .stuck
theorem Hu {t : Tg} (h : mN K W (cN ma t) D σ H) : tAsg (cR K W ma) (Hq K t) D σ H := by
 obtain ⟨B, φ, S, ρ, I, E, f⟩ := h;refine cJ I E f fun φ' S' d v H1 I1 X1 E1 r f1 => ?_
 split at f1
 ·rename_i ρ' q
  exact zD E1 r q fun vs E2 => f1 φ' _ H1 I1 Ext.refl E2
 ·exact f1.elim
theorem qX {tg e : Expr} {t : Tg} (he : PE X e (cR X.K W ma)) (hg : PG X tg (Hq X.K t)) (hs : swapsWithSole [tg] e pos.line X.env = pure false := by rfl) (hw : swappedStores [tg] e X.env = pure none := by rfl)
  (h1 : (assignEach [tg] X.env).map (·.2) = [assign tg X.env] := by rfl) : PS X (.Assign [tg] e pos) (mN X.K W (cN ma t)) := hW (ps_asg he hg hs hw h1) fun D σ H h => Hu h
theorem bG {i : Nat} {x : Str} {e : Expr} {pos' : Pos} (hN : X.N.Nodup) (hi : X.N[i]? = some x) (hx : Loc X.env.scope x) (he : PE X e (cR X.K W ma)) (hs : swapsWith e (some (.Name x pos')) pos.line X.env = pure false := by rfl) (hf : X.fn x = true \/ X.env.scope.names.lookup x = some .local := by first | exact .inl rfl | exact .inr rfl | assumption) :
  PS X (.Assign [.Name x pos'] e pos) (mN X.K W (cN ma (.nm i))) := hW (ps_set hN hi hx he hs hf) fun D σ H h => Hu (t := .nm i) h
def wipeE (ρ : Ev) : List Nat -> Ev
 | [] => ρ
 | v :: vs => (wipeE ρ vs).set v none
theorem RepE.wipeE {ρ : Ev} (E : RepE K B φ S H ρ σ) : ∀ is : List Nat, RepE K B φ S H (wipeE ρ is) σ
 | [] => E
 | i :: is => (RepE.wipeE E is).forget i
def kJ (is : List Nat) (m : FS) : FS := fun ρ S => match m ρ S with
 | .next ρ' S' => .next (wipeE ρ' is) S'
 | .cnt ρ' S' => .cnt (wipeE ρ' is) S'
 | .brk ρ' S' => .brk (wipeE ρ' is) S'
 | o => o
theorem Kh {is : List Nat} (h : mN K W (kJ is m) D σ H) : mN K W m D σ H := by
 obtain ⟨B, φ, S, ρ, I, E, f⟩ := h;refine ⟨B, φ, S, ρ, I, E, ?_⟩
 unfold kJ at f;cases e : m ρ S with
 | next ρ' S' => rw [e] at f; exact fun φ' σ' H' I' X r => f φ' σ' H' I' X (r.wipeE is)
 | ret d S' => rw [e] at f; exact f
 | brk ρ' S' => rw [e] at f; exact fun φ' σ' H' I' X r => f φ' σ' H' I' X (r.wipeE is)
 | cnt ρ' S' => rw [e] at f; exact fun φ' σ' H' I' X r => f φ' σ' H' I' X (r.wipeE is)
 | err x d S' => rw [e] at f; exact f
 | stuck => rw [e] at f; exact f
theorem fQ (is : List Nat) (h : PSs X gN (mN X.K W m)) : PSs X gN (mN X.K W (kJ is m)) := EM h fun D σ H h => Kh h
abbrev FI := Ev -> aQ -> Res (List PH.D)
def NK (K : aD) (B : Addr -> Prop) (φ : List Addr) (S : aQ) (H : Hp) (J : It) (ds : List PH.D) : Prop := ∀ φ1 S1 H1 B1, GInv K B1 φ1 S1 H1 -> Kp (jU B φ S) H (jU B1 φ1 S1) H1 ->
 (∀ i, i < ds.length -> J.go i H1) /\ J.stop ds.length H1 /\ ∀ i x H2 d, ds[i]? = some d -> J.yld i H1 x H2 -> GInv K B1 φ1 S1 H2 /\ Ext φ1 S1 H1 φ1 S1 H2 /\ Rep K (jU B1 φ1 S1) H2 d x
def RI (K : aD) : Rl (List PH.D) It := fun B φ S H ds J => NK K B φ S H J ds
abbrev Gj (K : aD) (W : WX) (m : FI) : TI := rd K W (RI K) m
theorem EN {tg iter : Expr} {t u : TI} (h : PI X tg iter t) (i : ∀ σ H R, u σ H R -> t σ H R) : PI X tg iter u := ⟨fun pins s σ H R I q => h.run pins s σ H R I (i σ H R q)⟩
theorem Kp.trans {B1 B2 B3 : Addr -> Prop} {H1 H2 H3 : Hp} (a : Kp B1 H1 B2 H2) (b : Kp B2 H2 B3 H3) : Kp B1 H1 B3 H3 := ⟨fun c o h n => b.old c o (a.old c o h n).1 (a.old c o h n).2, fun c u h => b.tup c u (a.tup c u h)⟩
theorem Ext.kpB {B1 : Addr -> Prop} {φ1 : List Addr} {S1 : aQ} {H1 : Hp} (h1 : ∀ a, B a -> B1 a) (h2 : ∀ a, H a ≠ none -> B1 a -> B a) (I : GInv K B φ S H) (x : Ext φ S H φ1 S1 H1) : Kp (jU B φ S) H (jU B1 φ1 S1) H1 where
 old := fun b o h n => by
  obtain ⟨h3, h4⟩ := x.old b o h (fun q => n (.inr q))
  exact ⟨h3, fun q => by
   rcases q with q | q
   ·exact n (.inl (h2 b (by rw [h]; simp) q))
   ·exact h4 q⟩
 tup := (x.kp I).tup
theorem OI {v : L2.V} {ds : List PH.D} (I : GInv K B φ S H) (r : Rep K (jU B φ S) H (.lst ds) v) : ∃ a, v = .ref a /\ (∃ xs, SqL K H a xs) /\ NK K B φ S H (Itl K a) ds := by
 obtain ⟨a, vs, rfl, nb, h1, l⟩ := r;refine ⟨a, rfl, ⟨vs, SqL.of h1⟩, fun φ1 S1 H1 B1 I1 X1 => ?_⟩
 have h2 := (X1.old a _ h1 nb).1;have l2 := RepL.kp X1 ds vs l;have hl := l.len;refine ⟨fun i hi => ⟨vs, vs[i], SqL.of h2, by simp [hl, hi]⟩, ⟨vs, SqL.of h2, by omega⟩, fun i x H2 d hd y => ?_⟩
 obtain ⟨rfl, y⟩ := y;obtain ⟨v', h3, h4⟩ := l2.get hd;rw [y vs (SqL.of h2)] at h3;cases h3;exact ⟨I1, Ext.refl, h4⟩
theorem RQ {v : L2.V} {ds : List PH.D} (I : GInv K B φ S H) (r : Rep K (jU B φ S) H (.tup ds) v) : ∃ a, v = .ref a /\ (∃ xs, SqT K H a xs) /\ NK K B φ S H (Itt K a) ds := by
 obtain ⟨a, vs, rfl, h1, l⟩ := r;refine ⟨a, rfl, ⟨vs, h1⟩, fun φ1 S1 H1 B1 I1 X1 => ?_⟩
 have h2 : SqT K H1 a vs := SqT.kp X1.tup h1;have l2 := RepL.kp X1 ds vs l;have hl := l.len;refine ⟨fun i hi => ⟨vs, vs[i], h2, by simp [hl, hi]⟩, ⟨vs, h2, by omega⟩, fun i x H2 d hd y => ?_⟩
 obtain ⟨rfl, y⟩ := y;obtain ⟨v', h3, h4⟩ := l2.get hd;rw [y vs h2] at h3;cases h3;exact ⟨I1, Ext.refl, h4⟩
def itemsOf : Vl -> aQ -> Res (List PH.D)
 | .dat (.lst ds), S => .ok ds S
 | .dat (.tup ds), S => .ok ds S
 | _, _ => .stuck
def kK (a : FE) : FI := fun ρ S => (a ρ S).bind itemsOf
theorem iS {tg : Expr} (ha : PE X a (cR X.K W ma)) : PI X tg a (Gj X.K W (kK ma)) := EN (Qp ha) fun σ H R h =>
 bZ (k := fun x _ S => itemsOf x S) h fun B φ S ρ d v H1 I E r f => by
  unfold itemsOf at f;split at f
  ·obtain ⟨a, rfl, h1, h2⟩ := OI I r
   exact CV ⟨h1, Fin.now f I h2⟩
  ·obtain ⟨a, rfl, h1, h2⟩ := RQ I r
   exact Ac ⟨h1, Fin.now f I h2⟩
  ·exact f.elim
def fJ (lo : Int) (n : Nat) : List PH.D := (aP n).map fun (k : Nat) => PH.D.int (lo + (k : Int))
theorem RR {lo : Int} {n : Nat} : NK K B φ S H (Itr lo n) (fJ lo n) := fun φ1 S1 H1 B1 I1 X1 => by
 refine ⟨fun i hi => by show i < n; simpa [fJ] using hi, by show n <= _; simp [fJ], fun i x H2 d hd y => ?_⟩
 obtain ⟨rfl, rfl⟩ := y;have : d = .int (lo + (i : Int)) := by
  unfold fJ at hd;rw [bT] at hd;cases q : (aP n)[i]? with
  | none => rw [q] at hd; cases hd
  | some k =>
   rw [q] at hd;have := aG.mp q;obtain ⟨_, e⟩ := this;simp at e;subst e;cases hd;rfl
 subst this;exact ⟨I1, Ext.refl, rfl⟩
def iX (a : FE) : FI := fun ρ S => (a ρ S).bind fun x S1 => match x with
 | .dat (.int j) => if -(2 ^ 62) <= j /\ j < 2 ^ 62 then .ok (fJ 0 j.toNat) S1 else .stuck
 | _ => .stuck
theorem fU {tg : Expr} (hg : Gl X "range") (hm : X.mg "range" = none) (ha : PE X a (cR X.K W ma)) (hs : starEach [a] X.env = [(false, eval a X.env)] := by rfl) : PI X tg (.Call (.Name "range" p) [a] [] pos) (Gj X.K W (iX ma)) := EN (pi_range1 hg hm (pa_cons ha pa_nil hs) hs) fun σ H R h =>
 bZ (k := fun x _ S1 => match x with | Vl.dat (PH.D.int j) => if -(2 ^ 62) <= j /\ j < 2 ^ 62 then Res.ok (fJ 0 j.toNat) S1 else .stuck | _ => .stuck) h fun B φ S ρ d v H1 I E r f => by
  split at f
  ·rename_i j
   cases r;split at f
   ·rename_i hj
    exact ⟨j, rfl, hj.1, hj.2, Fin.now f I RR⟩
   ·exact f.elim
  ·exact f.elim
def dX : Nat -> List PH.D -> List PH.D
 | _, [] => []
 | n, d :: r => .tup [.int (n : Nat), d] :: dX (n + 1) r
theorem DB : ∀ (n : Nat) (ds : List PH.D), (dX n ds).length = ds.length
 | _, [] => rfl
 | n, d :: r => by simp [dX, DB (n + 1) r]
theorem DC : ∀ (n : Nat) (ds : List PH.D) (i : Nat), (dX n ds)[i]? = (ds[i]?).map fun d => PH.D.tup [.int ((n + i : Nat) : Int), d]
 | n, [], i => by simp [dX]
 | n, d :: r, 0 => by simp [dX]
 | n, d :: r, i + 1 => by
  simp only [dX, iN];rw [DC (n + 1) r i, show n + 1 + i = n + (i + 1) by omega]
def Cr (a : FE) : FI := fun ρ S => (a ρ S).bind fun x S1 => match x with
 | .dat (.lst ds) => .ok (dX 0 ds) S1
 | _ => .stuck
theorem OJ {a : Addr} {vs : List L2.V} {ds : List PH.D} (I : GInv K B φ S H) (nb : ¬ jU B φ S a) (h1 : H a = some (.lst vs)) (l : RepL K (jU B φ S) H ds vs) : NK K B φ S H (Ite K a) (dX 0 ds) := fun φ1 S1 H1 B1 I1 X1 => by
 have h2 := (X1.old a _ h1 nb).1;have l2 := RepL.kp X1 ds vs l;have hl := l.len;rw [DB];refine ⟨fun i hi => ⟨vs, vs[i], SqL.of h2, by simp [hl, hi]⟩, ⟨vs, SqL.of h2, by omega⟩, fun i x H2 d hd y => ?_⟩
 obtain ⟨T, x', rfl, nT, rfl, y⟩ := y;rw [DC, fV] at hd;cases q : ds[i]? with
 | none => rw [q] at hd; cases hd
 | some d' =>
  rw [q] at hd;cases hd;obtain ⟨v', h3, h4⟩ := l2.get q;rw [y vs (SqL.of h2)] at h3;cases h3;have X2 := Ext.new (o := .tup [.int (i : Nat), x']) I1 nT;exact ⟨I1.new nT, X2, T, _, rfl, .inl (.inl upd_same), _, _, rfl, rfl, _, _, rfl, Rep.kp (X2.kp I1) _ _ h4, rfl⟩
theorem As {elts : List Expr} {kk : Nat} {tpos : Pos} (hg : Gl X "enumerate") (hm : X.mg "enumerate" = none) (ha : PE X a (cR X.K W ma)) (hs : starEach [a] X.env = [(false, eval a X.env)] := by rfl) : PI X (.Tuple elts kk tpos) (.Call (.Name "enumerate" p) [a] [] pos) (Gj X.K W (Cr ma)) := EN (pi_enum hg hm (pa_cons ha pa_nil hs) hs) fun σ H R h =>
 bZ (k := fun x _ S1 => match x with | Vl.dat (PH.D.lst ds) => Res.ok (dX 0 ds) S1 | _ => .stuck) h fun B φ S ρ d v H1 I E r f => by
  split at f
  ·obtain ⟨a, vs, rfl, nb, h1, l⟩ := r
   exact ⟨a, vs, rfl, SqL.of h1, Fin.now f I (OJ I nb h1 l)⟩
  ·exact f.elim
def vW : List PH.D -> List PH.D -> List PH.D
 | a :: r, b :: s => .tup [a, b] :: vW r s
 | _, _ => []
theorem EX : ∀ (xs ys : List PH.D) (i : Nat) (d : PH.D), (vW xs ys)[i]? = some d -> ∃ a b, xs[i]? = some a /\ ys[i]? = some b /\ d = .tup [a, b]
 | [], ys, i, d, h => by simp [vW] at h
 | _ :: _, [], i, d, h => by simp [vW] at h
 | a :: r, b :: s, 0, d, h => by simp [vW] at h; exact ⟨a, b, rfl, rfl, h.symm⟩
 | a :: r, b :: s, i + 1, d, h => by
  simp only [vW, iN] at h;obtain ⟨x, y, h1, h2, h3⟩ := EX r s i d h;exact ⟨x, y, by simpa using h1, by simpa using h2, h3⟩
theorem EW : ∀ (xs ys : List PH.D), (vW xs ys).length = min xs.length ys.length
 | [], ys => by simp [vW]
 | _ :: _, [] => by simp [vW]
 | a :: r, b :: s => by simp [vW, EW r s]
def LK (a b : FE) : FI := fun ρ S => (a ρ S).bind fun x S1 => (b ρ S1).bind fun y S2 => match x, y with
 | .dat (.lst ds), .dat (.lst es) => .ok (vW ds es) S2
 | _, _ => .stuck
theorem SJ {elts : List Expr} {kk : Nat} {tpos : Pos} (hg : Gl X "zip") (hm : X.mg "zip" = none) (ha : PE X a (cR X.K W ma)) (hb : PE X b (cR X.K W mb)) (hs : starEach [a, b] X.env = (false, eval a X.env) :: starEach [b] X.env := by rfl) (hs2 : starEach [b] X.env = [(false, eval b X.env)] := by rfl) (hpl : (backTo pos (starEach [b] X.env)).any (·.1) = false := by rfl) : PI X (.Tuple elts kk tpos) (.Call (.Name "zip" p) [a, b] [] pos) (Gj X.K W (LK ma mb)) := EN (pi_zip hg hm (pa_cons ha (pa_cons hb pa_nil hs2) hs) hs hpl) fun σ H R h =>
 bZ (k := fun x ρ S1 => (mb ρ S1).bind fun y S2 => match x, y with | Vl.dat (PH.D.lst ds), Vl.dat (PH.D.lst es) => Res.ok (vW ds es) S2 | _, _ => .stuck) h fun B φ S ρ d v H1 I E r f => gI I E f fun φ' S' d2 v2 H2 I2 X2 E2 r2 f2 => by
  split at f2
  ·rename_i ds es
   replace r := r.ext X2 I
   obtain ⟨a, vs, rfl, na, h1, l1⟩ := r;obtain ⟨b, ws, rfl, nb, h2, l2⟩ := r2;refine ⟨a, b, vs, ws, rfl, SqL.of h1, SqL.of h2, Fin.now f2 I2 fun φ3 S3 H3 B3 I3 X3 => ?_⟩
   have h1' := (X3.old a _ h1 na).1;have h2' := (X3.old b _ h2 nb).1;have l1' := RepL.kp X3 ds vs l1;have l2' := RepL.kp X3 es ws l2;have e1 := l1.len;have e2 := l2.len;rw [EW];refine ⟨fun i hi => ?_, ⟨vs, ws, SqL.of h1', SqL.of h2', by omega⟩, fun i x H4 d hd y => ?_⟩
   ·have i1 : i < vs.length := by omega
    have i2 : i < ws.length := by omega
    exact ⟨vs, ws, vs[i], ws[i], SqL.of h1', SqL.of h2', by simp [i1], by simp [i2]⟩
   ·obtain ⟨T, x', y', rfl, nT, rfl, y1, y2⟩ := y
    obtain ⟨a', b', g1, g2, rfl⟩ := EX ds es i d hd;obtain ⟨v1, k1, k2⟩ := l1'.get g1;obtain ⟨v2, k3, k4⟩ := l2'.get g2;rw [y1 vs (SqL.of h1')] at k1;rw [y2 ws (SqL.of h2')] at k3;cases k1;cases k3;have X4 := Ext.new (o := .tup [x', y']) I3 nT;exact ⟨I3.new nT, X4, T, _, rfl, .inl (.inl upd_same), _, _, rfl, Rep.kp (X4.kp I3) _ _ k2, _, _, rfl, Rep.kp (X4.kp I3) _ _ k4, rfl⟩
  ·exact f2.elim
end
section
variable {X : Cx} {W : WX} {e a b c : Expr} {es rest : List Expr} {pos p q p2 : Pos} {x y z : Str} {K : aD} {ma mb mc : FE} {mt mu : FT} {mas : FA} {mi : FI} {B : Addr -> Prop} {φ φ' : List Addr} {S S' : aQ} {H H' : Hp} {σ : L2.St} {Q : VK} {m n : FS} {st : Stmt} {gN : List Stmt} {D : Ends} {t : Tg}
def loop (t : Tg) (mb : FS) : List PH.D -> Ev -> aQ -> Out
 | [], ρ, S => .next ρ S
 | d :: r, ρ, S => match oK t (.dat d) ρ with
  | none => .stuck
  | some ρ1 => match mb ρ1 S with
   | .next ρ2 S2 => loop t mb r ρ2 S2
   | .cnt ρ2 S2 => loop t mb r ρ2 S2
   | .brk ρ2 S2 => .next ρ2 S2
   | .ret d S2 => .ret d S2
   | .err e ρ2 S2 => .err e ρ2 S2
   | .stuck => .stuck
def tK (mi : FI) (t : Tg) (mb : FS) : FS := fun ρ S => (mi ρ S).toS ρ fun ds S1 => loop t mb ds ρ S1
theorem Ng (h : mN K W (tK mi t m) D σ H) : tFor (Gj K W mi) (Hq K t) (mN K W m) D σ H := by
 obtain ⟨B, φ, S, ρ, I, E, f⟩ := h;refine cJ I E f fun φ0 S0 ds J H0 I0 X0 E0 r f0 => ?_
 refine ⟨fun i k σ' H' => i <= ds.length /\ k = ds.length - i /\ ∃ φ1 S1 ρ1, GInv K B φ1 S1 H' /\ Ext φ0 S0 H0 φ1 S1 H' /\ RepE K B φ1 S1 H' ρ1 σ' /\ FinS K W D B φ1 S1 H' (loop t m (ds.drop i) ρ1 S1), ⟨_, eL _, rfl, φ0, S0, ρ, I0, Ext.refl, E0, f0⟩, ?_⟩
 rintro i k σ' H' ⟨hi, rfl, φ1, S1, ρ1, I1, X1, E1, f1⟩
 obtain ⟨hgo, hstop, hyld⟩ := r φ1 S1 H' B I1 (X1.kp I0)
 by_cases hlt : i < ds.length
 ·refine .inr ⟨hgo i hlt, fun σ2 H2 => i + 1 <= ds.length /\ ∃ φ2 S2 ρ2, GInv K B φ2 S2 H2 /\ Ext φ0 S0 H0 φ2 S2 H2 /\ RepE K B φ2 S2 H2 ρ2 σ2 /\ FinS K W D B φ2 S2 H2 (loop t m (ds.drop (i + 1)) ρ2 S2), fun σ2 H2 ⟨h1, h2⟩ => ⟨ds.length - (i + 1), by omega, h1, rfl, h2⟩, fun x H2 y => ?_⟩
  have hd : ds[i]? = some ds[i] := by simp [hlt]
  obtain ⟨I2, X2, r2⟩ := hyld i x H2 ds[i] hd y;rw [gP hlt] at f1;unfold loop at f1;have E2 := E1.ext X2 I1;have f2 := FinS.ext f1 X2;split at f2
  ·exact f2.elim
  ·rename_i ρ2 q2
   refine zD E2 (d := .dat ds[i]) r2 q2 fun vs E3 => ⟨B, φ1, S1, ρ2, I2, E3, ?_⟩
   cases q3 : m ρ2 S1 with
   | next ρ3 S3 =>
    rw [q3] at f2;exact fun φ3 σ3 H3 I3 X3 E4 => ⟨hlt, φ3, S3, ρ3, I3, X1.trans (X2.trans X3), E4, FinS.ext f2 X3⟩
   | cnt ρ3 S3 =>
    rw [q3] at f2;exact fun φ3 σ3 H3 I3 X3 E4 => ⟨hlt, φ3, S3, ρ3, I3, X1.trans (X2.trans X3), E4, FinS.ext f2 X3⟩
   | brk ρ3 S3 => rw [q3] at f2; exact f2
   | ret d S3 => rw [q3] at f2; exact f2
   | err e ρ3 S3 => rw [q3] at f2; exact f2
   | stuck => rw [q3] at f2; exact f2
 ·have e : i = ds.length := by omega
  subst e;rw [oH] at f1;exact .inl ⟨hstop, f1 φ1 σ' H' I1 Ext.refl E1⟩
theorem kW {tg iter : Expr} (hp : PassesOwn (model X.prog X.w) X.A X.env X.xe) (hc : X.calm = true) (hi : PI X tg iter (Gj X.K W mi)) (hg : PG X tg (Hq X.K t)) (hb : PSs X gN (mN X.K W m))
  (hs : ∀ x, foldedSetIterable iter X.env x = pure x := by intro _; rfl) : PS X (.For tg iter gN [] pos) (mN X.K W (tK mi t m)) := hW (ps_for hp hc hi hg hb hs) fun D σ H h => Ng h
def pZ (mt : FT) (mb : FS) : Nat -> Ev -> aQ -> Out
 | 0, _, _ => .stuck
 | n + 1, ρ, S => (mt ρ S).toS ρ fun c S1 => if c = true then (match mb ρ S1 with
   | .next ρ2 S2 => pZ mt mb n ρ2 S2
   | .cnt ρ2 S2 => pZ mt mb n ρ2 S2
   | .brk ρ2 S2 => .next ρ2 S2
   | .ret d S2 => .ret d S2
   | .err e ρ2 S2 => .err e ρ2 S2
   | .stuck => .stuck) else .next ρ S1
def zO (k : Nat) (mt : FT) (mb : FS) : FS := fun ρ S => pZ mt mb k ρ S
theorem JF {k : Nat} (h : mN K W (zO k mt m) D σ H) : tWhile (vF K W mt) (mN K W m) D σ H := by
 obtain ⟨B, φ, S, ρ, I, E, f⟩ := h;refine ⟨fun k σ' H' => ∃ φ1 S1 ρ1, GInv K B φ1 S1 H' /\ RepE K B φ1 S1 H' ρ1 σ' /\ FinS K W D B φ1 S1 H' (pZ mt m k ρ1 S1), ⟨k, φ, S, ρ, I, E, f⟩, ?_⟩
 rintro k σ' H' ⟨φ1, S1, ρ1, I1, E1, f1⟩
 cases k with
 | zero => exact f1.elim
 | succ k =>
  refine cJ I1 E1 f1 fun φ2 S2 d v H2 I2 X2 E2 r f2 => ?_
  have r : v = d := r;subst r;cases v with
  | false => exact f2 φ2 σ' H2 I2 Ext.refl E2
  | true =>
   refine ⟨fun σ3 H3 => ∃ φ1 S1 ρ1, GInv K B φ1 S1 H3 /\ RepE K B φ1 S1 H3 ρ1 σ3 /\ FinS K W D B φ1 S1 H3 (pZ mt m k ρ1 S1), fun σ3 H3 h3 => ⟨k, Nat.lt_succ_self _, h3⟩, ⟨B, φ2, S2, ρ1, I2, E2, ?_⟩⟩
   rw [if_pos rfl] at f2;cases q3 : m ρ1 S2 with
   | next ρ3 S3 =>
    rw [q3] at f2;exact fun φ3 σ3 H3 I3 X3 E4 => ⟨φ3, S3, ρ3, I3, E4, FinS.ext f2 X3⟩
   | cnt ρ3 S3 =>
    rw [q3] at f2;exact fun φ3 σ3 H3 I3 X3 E4 => ⟨φ3, S3, ρ3, I3, E4, FinS.ext f2 X3⟩
   | brk ρ3 S3 => rw [q3] at f2; exact f2
   | ret d S3 => rw [q3] at f2; exact f2
   | err e ρ3 S3 => rw [q3] at f2; exact f2
   | stuck => rw [q3] at f2; exact f2
theorem Fw {k : Nat} (hp : PassesOwn (model X.prog X.w) X.A X.env X.xe) (hc : PT X c (vF X.K W mt)) (hb : PSs X gN (mN X.K W m)) : PS X (.While c gN [] pos) (mN X.K W (zO k mt m)) := hW (ps_while hp hc hb) fun D σ H h => JF h
theorem vA : ∀ (vs : List Nat) (σ : L2.St) (j : Nat), (wipe σ vs)[j]? = if j ∈ vs then (σ[j]?).map (fun _ => none) else σ[j]?
 | [], σ, j => by simp [wipe]
 | v :: vs, σ, j => by
  unfold wipe;rw [aV, vA vs σ j, wipe_length]
  by_cases e : v = j
  ·subst e
   rw [if_pos rfl, if_pos (aY ..)]
   by_cases hl : v < σ.length
   ·rw [if_pos hl]; simp [hl]
   ·rw [if_neg hl]; simp [tN hl]
  ·rw [if_neg e]
   by_cases hm : j ∈ vs
   ·rw [if_pos hm, if_pos (aL _ hm)]
   ·rw [if_neg hm, if_neg]
    intro h;rcases bH.mp h with h | h
    ·exact e h.symm
    ·exact hm h
theorem B7 {vs : List Nat} {σ : L2.St} {i : Nat} {v : Option L2.V} (hi : i ∈ vs) : wipe (σ.set i v) vs = wipe σ vs := by
 apply gS
 intro j;rw [vA, vA]
 by_cases hj : j ∈ vs
 ·rw [if_pos hj, if_pos hj, aV]
  by_cases e : i = j
  ·subst e
   rw [if_pos rfl]
   by_cases hl : i < σ.length
   ·rw [if_pos hl]; simp [hl]
   ·rw [if_neg hl]; simp [tN hl]
  ·rw [if_neg e]
 ·rw [if_neg hj, if_neg hj, aV, if_neg]
  intro e;subst e;exact hj hi
theorem uY {vs : List Nat} {σ : L2.St} : wipe (wipe σ vs) vs = wipe σ vs := by
 apply gS
 intro j;rw [vA]
 by_cases hj : j ∈ vs
 ·rw [if_pos hj, vA, if_pos hj]
  cases σ[j]? <;> rfl
 ·rw [if_neg hj]
theorem tO {vs : List Nat} : ∀ {is : List Nat} {ws : List L2.V} {σ : L2.St}, (∀ i ∈ is, i ∈ vs) -> wipe (putAll is ws σ) vs = wipe σ vs
 | [], ws, σ, _ => by cases ws <;> rfl
 | i :: is, [], σ, _ => rfl
 | i :: is, w :: ws, σ, h => by
  unfold putAll;rw [tO (is := is) fun j hj => h j (aL _ hj), B7 (h i (aY ..))]
theorem uZ {vs : List Nat} {v : L2.V} {ws : List L2.V} (h : ∀ i ∈ KZ t, i ∈ vs) : wipe (Ke t v ws σ) vs = wipe σ vs := by
 cases t with
 | nm i => exact B7 (h i (by simp [KZ]))
 | tp is => exact tO h
 | tn i is =>
  cases ws with
  | nil => rfl
  | cons w ws =>
   show wipe (putAll is ws (σ.set i (some w))) vs = _
   rw [tO fun j hj => h j (aL _ hj), B7 (h i (aY ..))]
theorem RepE.wipes {ρ : Ev} (E : RepE K B φ S H ρ σ) (vs : List Nat) : RepE K B φ S H (PH.wipeE ρ vs) (wipe σ vs) := by
 have hl : ∀ vs : List Nat, (PH.wipeE ρ vs).length = ρ.length := fun vs => by
  induction vs with
  | nil => rfl
  | cons v vs ih => simp [PH.wipeE, ih]
 have hg : ∀ (vs : List Nat) (i : Nat) (d : Vl), (PH.wipeE ρ vs)[i]? = some (some d) -> i ∉ vs /\ ρ[i]? = some (some d) := fun vs => by
  induction vs with
  | nil => intro i d h; exact ⟨by simp, h⟩
  | cons v vs ih =>
   intro i d h;unfold PH.wipeE at h;rw [aV] at h
   by_cases e : v = i
   ·rw [if_pos e] at h
    by_cases hv : v < (PH.wipeE ρ vs).length
    ·rw [if_pos hv] at h; cases h
    ·rw [if_neg hv] at h; cases h
   ·rw [if_neg e] at h
    obtain ⟨h1, h2⟩ := ih i d h;exact ⟨fun q => by
     rcases bH.mp q with q | q
     ·exact e q.symm
     ·exact h1 q, h2⟩
 refine ⟨by rw [hl, wipe_length]; exact E.1, fun i d h => ?_⟩
 obtain ⟨h1, h2⟩ := hg vs i d h;obtain ⟨v, h3, h4⟩ := E.2 i d h2;exact ⟨v, by rw [vA, if_neg h1]; exact h3, h4⟩
def fL (B : Addr -> Prop) (a : Addr) : Addr -> Prop := fun b => B b \/ b = a
theorem GInv.plus {a : Addr} {o : HO} (I : GInv K B φ S H) (ha : H a = none) : GInv K (fL B a) φ S (upd H a o) where
 len := I.len
 ok := fun n c b h1 h2 => by
  have q := I.ok n c b h1 h2;have k : Kp (jU B φ S) H (jU (fL B a) φ S) (upd H a o) := Ext.kpB (B1 := fL B a) (fun _ h => .inl h) (fun b hb h => by
   rcases h with h | h
   ·exact h
   ·exact absurd (by rw [h]; exact ha) hb) I (Ext.new I ha)
  have hb : c ≠ .dead -> upd H a o b = H b := fun hc => upd_ne fun e => by
   subst e;exact I.fresh ha ⟨n, c, h1, hc, h2⟩
  have hV : ∀ {d : Vl} {v : L2.V}, RepV K B φ S H d v -> RepV K (fL B a) φ S (upd H a o) d v := fun {d v} r => by
   cases d with
   | dat d => exact Rep.kp k d v r
   | cel n => exact r
   | cels ns => obtain ⟨a', as, e1, e2, e3, e4⟩ := r; exact ⟨a', as, e1, (k.old _ _ e3 e2).2, (k.old _ _ e3 e2).1, e4⟩
   | scr ns => obtain ⟨a', e1, e2⟩ := r; exact ⟨a', e1, e2.keep fun o u h => by rw [upd_ne (ne_of_none h ha)]; exact h⟩
   | tc xs => obtain ⟨a', vs, e1, e2, e3⟩ := r; exact ⟨a', vs, e1, SqT.kp k.tup e2, e3.kp k (fun _ _ h => h)⟩
  have hF : ∀ {fs : List (Str × Vl)} {vs : List (Str × L2.V)}, RepF K B φ S H fs vs -> RepF K (fL B a) φ S (upd H a o) fs vs := fun {fs} => by
   induction fs with
   | nil => intro vs r; exact r
   | cons f fs ih => rintro vs ⟨v, ws, e, h1, h2⟩; exact ⟨v, ws, e, hV h1, ih h2⟩
  cases c with
  | dead => trivial
  | lst ds => obtain ⟨vs, e, r⟩ := q; exact ⟨vs, by rw [hb (by simp)]; exact e, RepL.kp k ds vs r⟩
  | ins C fs => obtain ⟨dx, vs, e, r⟩ := q; exact ⟨dx, vs, by rw [hb (by simp)]; exact e, hF r⟩
  | dct fs => obtain ⟨vs, e, r⟩ := q; exact ⟨vs, by rw [hb (by simp)]; exact e, hF r⟩
  | lv xs => obtain ⟨vs, e, r⟩ := q; exact ⟨vs, by rw [hb (by simp)]; exact e, dB hV r⟩
  | dki ks xs => obtain ⟨vs, e, r⟩ := q; exact ⟨vs, by rw [hb (by simp)]; exact e, dB hV r⟩
  | dkt ks xs => obtain ⟨vs, e, r⟩ := q; exact ⟨vs, by rw [hb (by simp)]; exact e, dB hV r⟩
 inj := I.inj
 blk := fun b h q => by
  rcases q with q | q
  ·exact I.blk b h q
  ·subst q; exact I.fresh ha h
 btr := fun b h => by
  rcases h with h | h
  ·obtain ⟨u, e⟩ := I.btr b h
   exact ⟨u, by rw [upd_ne (ne_of_none e ha)]; exact e⟩
  ·subst h; exact ⟨o, upd_same⟩
theorem RepV.less {a : Addr} {d : Vl} {v : L2.V} (r : RepV K (fL B a) φ S H d v) : RepV K B φ S H d v := by
 have k : Kp (jU (fL B a) φ S) H (jU B φ S) H := ⟨fun b o h n => ⟨h, fun q => n (by
  rcases q with q | q
  ·exact .inl (.inl q)
  ·exact .inr q)⟩, fun _ _ h => h⟩
 cases d with
 | dat d => exact Rep.kp k d v r
 | cel n => exact r
 | cels ns => obtain ⟨a', as, e1, e2, e3, e4⟩ := r; exact ⟨a', as, e1, (k.old _ _ e3 e2).2, e3, e4⟩
 | scr ns => exact r
 | tc xs => obtain ⟨a', vs, e1, e2, e3⟩ := r; exact ⟨a', vs, e1, SqT.kp k.tup e2, e3.kp k (fun _ _ h => h)⟩
theorem RepL.less {a : Addr} {ds : List PH.D} {vs : List L2.V} (r : RepL K (jU (fL B a) φ S) H ds vs) : RepL K (jU B φ S) H ds vs :=
 RepL.kp ⟨fun b o h n => ⟨h, fun q => n (by
  rcases q with q | q
  ·exact .inl (.inl q)
  ·exact .inr q)⟩, fun _ _ h => h⟩ ds vs r
theorem RepF.less {a : Addr} : ∀ {fs : List (Str × Vl)} {vs : List (Str × L2.V)}, RepF K (fL B a) φ S H fs vs -> RepF K B φ S H fs vs
 | [], vs, r => r
 | f :: fs, vs, ⟨v, ws, e, h1, h2⟩ => ⟨v, ws, e, h1.less, RepF.less h2⟩
theorem GInv.less {a : Addr} (I : GInv K (fL B a) φ S H) : GInv K B φ S H where
 len := I.len
 ok := fun n c b h1 h2 => by
  have q := I.ok n c b h1 h2;cases c with
  | dead => trivial
  | lst ds => obtain ⟨vs, e, r⟩ := q; exact ⟨vs, e, r.less⟩
  | ins C fs => obtain ⟨dx, vs, e, r⟩ := q; exact ⟨dx, vs, e, r.less⟩
  | dct fs => obtain ⟨vs, e, r⟩ := q; exact ⟨vs, e, r.less⟩
  | lv xs => obtain ⟨vs, e, r⟩ := q; exact ⟨vs, e, dB RepV.less r⟩
  | dki ks xs => obtain ⟨vs, e, r⟩ := q; exact ⟨vs, e, dB RepV.less r⟩
  | dkt ks xs => obtain ⟨vs, e, r⟩ := q; exact ⟨vs, e, dB RepV.less r⟩
 inj := I.inj
 blk := fun b h q => I.blk b h (.inl q)
 btr := fun b h => I.btr b (.inl h)
theorem Kp.plusPut {a : Addr} {acc : List L2.V} {o : HO} (ha : H a = some (.lst acc)) : Kp (jU (fL B a) φ S) H (jU (fL B a) φ S) (upd H a o) :=
 ⟨fun b o' h n => ⟨by
  rw [upd_ne]
  ·exact h
  ·intro e; subst e; exact n (.inl (.inr rfl)), n⟩, fun b w h => by
  have ne : b ≠ a := fun e => by
   subst e;rcases h with h | ⟨o', h⟩
   ·rw [ha] at h; cases h
   ·rw [ha] at h; cases h
  rcases h with h | ⟨o', h⟩
  ·exact .inl (by rw [upd_ne ne]; exact h)
  ·exact .inr ⟨o', by rw [upd_ne ne]; exact h⟩⟩
theorem RepV.plusPut {a : Addr} {acc : List L2.V} {o : HO} (ha : H a = some (.lst acc)) {d : Vl} {v : L2.V} (r : RepV K (fL B a) φ S H d v) : RepV K (fL B a) φ S (upd H a o) d v := by
 have k := Kp.plusPut (B := B) (φ := φ) (S := S) (o := o) ha;cases d with
 | dat d => exact Rep.kp k d v r
 | cel n => exact r
 | cels ns => obtain ⟨a', as, e1, e2, e3, e4⟩ := r; exact ⟨a', as, e1, (k.old _ _ e3 e2).2, (k.old _ _ e3 e2).1, e4⟩
 | scr ns =>
  obtain ⟨a', e1, e2⟩ := r;refine ⟨a', e1, e2.keep fun o u h => ?_⟩
  rw [upd_ne]
  ·exact h
  ·intro e; subst e; rw [ha] at h; cases h
 | tc xs => obtain ⟨a', vs, e1, e2, e3⟩ := r; exact ⟨a', vs, e1, SqT.kp k.tup e2, e3.kp k (fun _ _ h => h)⟩
theorem RepF.plusPut {a : Addr} {acc : List L2.V} {o : HO} (ha : H a = some (.lst acc)) : ∀ {fs : List (Str × Vl)} {vs : List (Str × L2.V)}, RepF K (fL B a) φ S H fs vs -> RepF K (fL B a) φ S (upd H a o) fs vs
 | [], vs, r => r
 | f :: fs, vs, ⟨v, ws, e, h1, h2⟩ => ⟨v, ws, e, h1.plusPut ha, RepF.plusPut ha h2⟩
theorem GInv.plusPut {a : Addr} {acc : List L2.V} {o : HO} (I : GInv K (fL B a) φ S H) (ha : H a = some (.lst acc)) : GInv K (fL B a) φ S (upd H a o) where
 len := I.len
 ok := fun n c b h1 h2 => by
  have q := I.ok n c b h1 h2;have k := Kp.plusPut (B := B) (φ := φ) (S := S) (o := o) ha;have hb : c ≠ .dead -> upd H a o b = H b := fun hc => upd_ne fun e => by
   subst e;exact I.blk b ⟨n, c, h1, hc, h2⟩ (.inr rfl)
  cases c with
  | dead => trivial
  | lst ds => obtain ⟨vs, e, r⟩ := q; exact ⟨vs, by rw [hb (by simp)]; exact e, RepL.kp k ds vs r⟩
  | ins C fs => obtain ⟨dx, vs, e, r⟩ := q; exact ⟨dx, vs, by rw [hb (by simp)]; exact e, r.plusPut ha⟩
  | dct fs => obtain ⟨vs, e, r⟩ := q; exact ⟨vs, by rw [hb (by simp)]; exact e, r.plusPut ha⟩
  | lv xs => obtain ⟨vs, e, r⟩ := q; exact ⟨vs, by rw [hb (by simp)]; exact e, dB (RepV.plusPut ha) r⟩
  | dki ks xs => obtain ⟨vs, e, r⟩ := q; exact ⟨vs, by rw [hb (by simp)]; exact e, dB (RepV.plusPut ha) r⟩
  | dkt ks xs => obtain ⟨vs, e, r⟩ := q; exact ⟨vs, by rw [hb (by simp)]; exact e, dB (RepV.plusPut ha) r⟩
 inj := I.inj
 blk := I.blk
 btr := fun b h => by
  by_cases e : b = a
  ·subst e; exact ⟨o, upd_same⟩
  ·obtain ⟨u, h1⟩ := I.btr b h
   exact ⟨u, by rw [upd_ne e]; exact h1⟩
theorem RepV.plus {a : Addr} {o : HO} (I : GInv K B φ S H) (ha : H a = none) {d : Vl} {v : L2.V} (r : RepV K B φ S H d v) : RepV K (fL B a) φ S (upd H a o) d v := by
 have k : Kp (jU B φ S) H (jU (fL B a) φ S) (upd H a o) := Ext.kpB (B1 := fL B a) (fun _ h => .inl h) (fun b hb h => by
  rcases h with h | h
  ·exact h
  ·exact absurd (by rw [h]; exact ha) hb) I (Ext.new I ha)
 cases d with
 | dat d => exact Rep.kp k d v r
 | cel n => exact r
 | cels ns => obtain ⟨a', as, e1, e2, e3, e4⟩ := r; exact ⟨a', as, e1, (k.old _ _ e3 e2).2, (k.old _ _ e3 e2).1, e4⟩
 | scr ns => obtain ⟨a', e1, e2⟩ := r; exact ⟨a', e1, e2.keep fun o u h => by rw [upd_ne (ne_of_none h ha)]; exact h⟩
 | tc xs => obtain ⟨a', vs, e1, e2, e3⟩ := r; exact ⟨a', vs, e1, SqT.kp k.tup e2, e3.kp k (fun _ _ h => h)⟩
theorem RepE.plus {a : Addr} {o : HO} {ρ : Ev} (I : GInv K B φ S H) (ha : H a = none) (E : RepE K B φ S H ρ σ) : RepE K (fL B a) φ S (upd H a o) ρ σ :=
 ⟨E.1, fun i d h => by
  obtain ⟨v, h1, h2⟩ := E.2 i d h;exact ⟨v, h1, h2.plus I ha⟩⟩
theorem RepE.plusPut {a : Addr} {acc : List L2.V} {o : HO} {ρ : Ev} (ha : H a = some (.lst acc)) (E : RepE K (fL B a) φ S H ρ σ) : RepE K (fL B a) φ S (upd H a o) ρ σ :=
 ⟨E.1, fun i d h => by
  obtain ⟨v, h1, h2⟩ := E.2 i d h;exact ⟨v, h1, h2.plusPut ha⟩⟩
theorem Fin.done {cl : Bool} {a : Addr} {ds : List PH.D} {vs : List L2.V} {H0 : Hp} {φ0 : List Addr} {S0 : aQ} (f : Fin K W σ (RepV K) B φ0 S0 H0 (PH.newL cl ds S) Q) (I : GInv K (fL B a) φ S H) (X0 : Ext φ0 S0 H0 φ S H) (h0 : H0 a = none) (nB : ¬ B a) (ha : H a = some (.lst vs)) (l : RepL K (jU (fL B a) φ S) H ds vs) : Q (.ref a) H := by
 have na : ¬ mH φ S a := fun q => I.blk a q (.inr rfl)
 unfold PH.newL at f;cases cl with
 | false =>
  refine f φ _ H I.less X0 ⟨a, vs, rfl, fun q => ?_, ha, l.less⟩
  rcases q with q | q
  ·exact nB q
  ·exact na q
 | true =>
  have X1 : Ext φ0 S0 H0 (φ ++ [a]) (S ++ [.lst ds]) H := {
   old := fun b o h n => by
    obtain ⟨h1, h2⟩ := X0.old b o h n;refine ⟨h1, fun q => ?_⟩
    rcases (lF I.len).mp q with q | ⟨_, q⟩
    ·exact h2 q
    ·subst q; rw [h0] at h; cases h
   ids := fun n b h => by
    have := X0.ids n b h;rw [aM (aG.mp this).1]; exact this }
  have hS : ∀ b, jU B (φ ++ [a]) (S ++ [.lst ds]) b -> jU (fL B a) φ S b := fun b q => by
   rcases q with q | q
   ·exact .inl (.inl q)
   ·rcases (lF I.len).mp q with q | ⟨_, q⟩
    ·exact .inr q
    ·exact .inl (.inr q)
  have k : Kp (jU (fL B a) φ S) H (jU B (φ ++ [a]) (S ++ [.lst ds])) H := ⟨fun b o h n => ⟨h, fun q => n (hS b q)⟩, fun _ _ h => h⟩
  have hφ : ∀ (n : Nat) (b : Addr), φ[n]? = some b -> (φ ++ [a])[n]? = some b := fun n b h => by rw [aM (aG.mp h).1]; exact h
  have hV : ∀ {d : Vl} {v : L2.V}, RepV K (fL B a) φ S H d v -> RepV K B (φ ++ [a]) (S ++ [.lst ds]) H d v := fun {d v} r => by
   cases d with
   | dat d => exact Rep.kp k d v r
   | cel n => obtain ⟨b, e1, e2⟩ := r; exact ⟨b, e1, hφ _ _ e2⟩
   | cels ns => obtain ⟨a', as, e1, e2, e3, e4⟩ := r; exact ⟨a', as, e1, (k.old _ _ e3 e2).2, e3, xQ hφ ns as e4⟩
   | scr ns => exact r
   | tc xs => obtain ⟨a', vs, e1, e2, e3⟩ := r; exact ⟨a', vs, e1, SqT.kp k.tup e2, e3.kp k hφ⟩
  have hF : ∀ {fs : List (Str × Vl)} {vs : List (Str × L2.V)}, RepF K (fL B a) φ S H fs vs -> RepF K B (φ ++ [a]) (S ++ [.lst ds]) H fs vs := fun {fs} => by
   induction fs with
   | nil => intro vs r; exact r
   | cons f fs ih => rintro vs ⟨v, ws, e, h1, h2⟩; exact ⟨v, ws, e, hV h1, ih h2⟩
  refine f (φ ++ [a]) _ H ?_ X1 ⟨a, rfl, by rw [<- I.len]; exact nU⟩
  exact {
   len := by simp [I.len]
   ok := fun n c b h1 h2 => by
    by_cases hn : n < S.length
    ·rw [aM hn] at h1
     rw [aM (by rw [I.len]; exact hn)] at h2
     have q := I.ok n c b h1 h2;cases c with
     | dead => trivial
     | lst es => obtain ⟨us, e, r⟩ := q; exact ⟨us, e, RepL.kp k es us r⟩
     | ins C fs => obtain ⟨dx, us, e, r⟩ := q; exact ⟨dx, us, e, hF r⟩
     | dct fs => obtain ⟨us, e, r⟩ := q; exact ⟨us, e, hF r⟩
     | lv xs => obtain ⟨us, e, r⟩ := q; exact ⟨us, e, dB hV r⟩
     | dki ks xs => obtain ⟨us, e, r⟩ := q; exact ⟨us, e, dB hV r⟩
     | dkt ks xs => obtain ⟨us, e, r⟩ := q; exact ⟨us, e, dB hV r⟩
    ·have e : n = S.length := by
      have := (aG.mp h1).1;simp at this;omega
     subst e;rw [aX (bS _)] at h1;rw [<- I.len, aX (bS _)] at h2;simp at h1 h2;subst h1 h2;exact ⟨vs, ha, RepL.kp k ds vs l⟩
   inj := fun n m c c' b h1 h2 h3 h4 h5 h6 => by
    have key : ∀ (n : Nat) (c : Cell), (S ++ [.lst ds])[n]? = some c -> (n < S.length /\ S[n]? = some c) \/ n = S.length := fun n c h => by
     by_cases hn : n < S.length
     ·rw [aM hn] at h; exact .inl ⟨hn, h⟩
     ·have := (aG.mp h).1
      simp at this;exact .inr (by omega)
    have kφ : ∀ n : Nat, n < S.length -> (φ ++ [a])[n]? = φ[n]? := fun n hn => aM (by rw [I.len]; exact hn)
    have kp : (φ ++ [a])[S.length]? = some a := by rw [<- I.len]; simp
    rcases key n c h1 with ⟨hn, e1⟩ | e1 <;> rcases key m c' h3 with ⟨hm, e2⟩ | e2
    ·rw [kφ n hn] at h5
     rw [kφ m hm] at h6;exact I.inj n m c c' b e1 h2 e2 h4 h5 h6
    ·subst e2
     rw [kp] at h6;cases h6;rw [kφ n hn] at h5;exact absurd ⟨n, c, e1, h2, h5⟩ na
    ·subst e1
     rw [kp] at h5;cases h5;rw [kφ m hm] at h6;exact absurd ⟨m, c', e2, h4, h6⟩ na
    ·omega
   blk := fun b h => by
    rcases (lF I.len).mp h with h | ⟨_, h⟩
    ·exact fun q => I.blk b h (.inl q)
    ·subst h; exact nB
   btr := fun b h => I.btr b (.inl h) }
end
section
variable {X : Cx} {W : WX} {e a b c : Expr} {es rest : List Expr} {pos p q p2 : Pos} {x y z : Str} {K : aD} {ma mb mc : FE} {mt mu : FT} {mas : FA} {mi mj : FI} {B : Addr -> Prop} {φ φ' : List Addr} {S S' : aQ} {H H' : Hp} {σ : L2.St} {Q : VK} {m n : FS} {st : Stmt} {gN : List Stmt} {D : Ends} {t t1 : Tg}
def fP : FT := fun _ S => .ok true S
theorem Na {Q : Bool -> Hp -> Prop} (h : vF K W fP σ H Q) : tYes σ H Q := by
 obtain ⟨B, φ, S, ρ, I, E, f⟩ := h;exact Fin.now (v := true) f I rfl
theorem Pg {es : List Expr} {t u : TT} (h : PTs X es t) (i : ∀ σ H Q, u σ H Q -> t σ H Q) : PTs X es u := ⟨fun pins s σ H Q I q => h.run pins s σ H Q I (i σ H Q q)⟩
theorem dO : PTs X [] (vF X.K W fP) := Pg pts_nil fun σ H Q h => Na h
theorem Ic {c : Expr} (h : PT X c (vF X.K W mt)) : PTs X [c] (vF X.K W mt) := pts_one h
def iP (t : Tg) (mt : FT) (me : FE) (ρ : Ev) : List PH.D -> aQ -> Res (List PH.D)
 | [], S => .ok [] S
 | d :: r, S => match oK t (.dat d) ρ with
  | none => .stuck
  | some ρ1 => match mt ρ1 S with
   | .ok b S1 => if b = true then (match me ρ1 S1 with
     | .ok (.dat e) S2 => (match iP t mt me ρ r S2 with
      | .ok es S3 => .ok (e :: es) S3
      | _ => .stuck)
     | _ => .stuck) else iP t mt me ρ r S1
   | _ => .stuck
def wR (cl : Bool) (mi : FI) (t : Tg) (mt : FT) (me : FE) (vs : List Nat) : FE := fun ρ S => (mi ρ S).bind fun ds S1 => if ds.length <= sizeLine then (match iP t mt me (wipeE ρ vs) ds S1 with
 | .ok es S2 => newL cl es S2
 | _ => .stuck) else .stuck
theorem Ki {cl : Bool} {me : FE} {vs : List Nat} (ht : ∀ i ∈ KZ t, i ∈ vs) (h : cR K W (wR cl mi t mt me vs) σ H Q) : tLc (Gj K W mi) (Hq K t) (vF K vX mt) (cR K vX me) vs σ H Q := by
 refine bZ (k := fun ds ρ S1 => if ds.length <= sizeLine then (match iP t mt me (wipeE ρ vs) ds S1 with | .ok es S2 => newL cl es S2 | _ => .stuck) else .stuck) h fun B φ0 S0 ρ ds J H0 I0 E0 r f0 => ?_
 intro A hA;split at f0
 case isFalse => exact f0.elim
 rename_i hsz;cases q0 : iP t mt me (wipeE ρ vs) ds S0 with
 | stuck => rw [q0] at f0; exact f0.elim
 | err e S' => rw [q0] at f0; exact f0.elim
 | ok es0 Sz =>
 rw [q0] at f0;have nB : ¬ B A := fun q => by obtain ⟨u, e⟩ := I0.btr A q; rw [hA] at e; cases e
 have IA : GInv K (fL B A) φ0 S0 (upd H0 A (.lst [])) := I0.plus hA;have b2 : ∀ a, H0 a ≠ none -> fL B A a -> B a := fun b hb h => by
  rcases h with h | h
  ·exact h
  ·exact absurd (by rw [h]; exact hA) hb
 -- what is known at a turn
 refine ⟨fun i k H' => i <= ds.length /\ k = ds.length - i /\ ∃ φ1 S1 us acc rest, GInv K (fL B A) φ1 S1 H' /\ Ext φ0 S0 H0 φ1 S1 H' /\ RepE K (fL B A) φ1 S1 H' (wipeE ρ vs) (wipe σ vs) /\ H' A = some (.lst us) /\ us.length <= i /\ RepL K (jU (fL B A) φ1 S1) H' acc us /\ iP t mt me (wipeE ρ vs) (ds.drop i) S1 = .ok rest Sz /\ acc ++ rest = es0,
  ⟨_, eL _, rfl, φ0, S0, [], [], es0, IA, Ext.new I0 hA, (E0.wipes vs).plus I0 hA, upd_same, bS _, rfl, q0, rfl⟩, ?_⟩
 rintro i k H' ⟨hi, rfl, φ1, S1, us, acc, rs, I1, X1, E1, hA1, hul, l1, g1, ea⟩
 obtain ⟨hgo, hstop, hyld⟩ := r φ1 S1 H' (fL B A) I1 (X1.kpB (fun _ h => .inl h) b2 I0)
 by_cases hlt : i < ds.length
 ·refine .inr ⟨hgo i hlt, fun H2 => i + 1 <= ds.length /\ ∃ φ1 S1 us acc rest, GInv K (fL B A) φ1 S1 H2 /\ Ext φ0 S0 H0 φ1 S1 H2 /\ RepE K (fL B A) φ1 S1 H2 (wipeE ρ vs) (wipe σ vs) /\ H2 A = some (.lst us) /\ us.length <= i + 1 /\ RepL K (jU (fL B A) φ1 S1) H2 acc us /\ iP t mt me (wipeE ρ vs) (ds.drop (i + 1)) S1 = .ok rest Sz /\ acc ++ rest = es0, fun H2 ⟨h1, h2⟩ => ⟨ds.length - (i + 1), by omega, h1, rfl, h2⟩, fun x H2 y => ?_⟩
  have hd : ds[i]? = some ds[i] := by simp [hlt]
  obtain ⟨I2, X2, r2⟩ := hyld i x H2 ds[i] hd y;rw [gP hlt] at g1;unfold iP at g1;split at g1
  case h_1 => cases g1
  rename_i ρ2 q2;have hA2 := (X2.old A _ hA1 fun q => I1.blk A q (.inr rfl)).1
  refine zD (E1.ext X2 I1) (d := .dat ds[i]) r2 q2 fun ws E3 => ⟨by rw [uZ ht, uY], fL B A, φ1, S1, ρ2, I2, E3, ?_⟩
  split at g1
  case h_2 => cases g1
  rename_i b S3 q3;rw [q3];intro φ3 b' H3 I3 X3 rb;have rb : b' = b := rb;subst rb;have hA3 := (X3.old A _ hA2 fun q => I2.blk A q (.inr rfl)).1
  have Xa := X1.trans (X2.trans X3);cases b' with
  | false =>
   exact ⟨hlt, φ3, S3, us, acc, rs, I3, Xa, (E1.ext X2 I1).ext X3 I2, hA3, Nat.le_succ_of_le hul, X3.repL I2 (X2.repL I1 l1), g1, ea⟩
  | true =>
   rw [if_pos rfl];rw [if_pos rfl] at g1;refine ⟨fL B A, φ3, S3, ρ2, I3, E3.ext X3 I2, ?_⟩
   split at g1
   case h_2 => cases g1
   rename_i e S4 q4;rw [q4];intro φ4 v4 H4 I4 X4 r4;have hA4 := (X4.old A _ hA3 fun q => I3.blk A q (.inr rfl)).1
   split at g1
   case h_2 => cases g1
   rename_i es S5 q5;cases g1;have l4 : RepL K (jU (fL B A) φ4 S4) H4 (acc ++ [e]) (us ++ [v4]) := (X4.repL I3 (X3.repL I2 (X2.repL I1 l1))).snoc r4;refine ⟨us, hA4, by omega, hlt, φ4, S4, us ++ [v4], acc ++ [e], es, I4.plusPut hA4, ?_, (((E1.ext X2 I1).ext X3 I2).ext X4 I3).plusPut hA4, upd_same, by simp; omega, RepL.kp (Kp.plusPut hA4) _ _ l4, q5, by rw [<- ea]; simp⟩
   exact ⟨fun b o h nb => by
    obtain ⟨h1, h2⟩ := (Xa.trans X4).old b o h nb;exact ⟨by rw [upd_ne (fun e => by subst e; rw [hA] at h; cases h)]; exact h1, h2⟩, (Xa.trans X4).ids⟩
 ·have e : i = ds.length := by omega
  subst e;rw [oH] at g1;cases g1;rw [cS] at ea;subst ea;exact .inl ⟨hstop, Fin.done f0 I1 X1 hA nB hA1 l1⟩
theorem tL {cl : Bool} {me : FE} {elt tg iter : Expr} {ifs : List Expr} {scope : Scope} {own : List (Str × Nat)} (hc : X.calm = true) (hN : X.N.Nodup) (hi : PI X tg iter (Gj X.K W mi)) (ok : BlkOk X.N X.env.scope scope own)
  (hg : ∀ (s : Shared) (H : Hp) (C : Addr) (cl : List (Str × Addr)) (fp : List Addr), PG (X.blk s H scope (compEnvC scope cl C X.env) fp) tg (Hq X.K t)) (ht : ∀ (s : Shared) (H : Hp) (C : Addr) (cl : List (Str × Addr)) (fp : List Addr), PTs (X.blk s H scope (compEnvC scope cl C X.env) fp) ifs (vF X.K vX mt))
  (he : ∀ (s : Shared) (H : Hp) (C : Addr) (cl : List (Str × Addr)) (fp : List Addr), PE (X.blk s H scope (compEnvC scope cl C X.env) fp) elt (cR X.K vX me)) (hs : ∀ x, foldedSetIterable iter X.env x = pure x := by intro _; rfl) (hv : ∀ i ∈ KZ t, i ∈ own.map (·.2) := by decide) :
  PE X (.ListComp elt [⟨tg, iter, ifs, 0⟩] scope pos) (cR X.K W (wR cl mi t mt me (own.map (·.2)))) := cW (pe_lc hc hN hi ok hg ht he hs) fun σ H Q h => Ki hv h
theorem uK {i : Nat} {y : Str} {py : Pos} {cl : Bool} {me : FE} {elt tg iter : Expr} {ifs : List Expr} {scope : Scope} {own : List (Str × Nat)} {spos : Pos} (hc : X.calm = true) (hN : X.N.Nodup) (hy : X.N[i]? = some y) (hyl : X.env.scope.names.lookup y = some .local)
  (hsw : swapsWith (.ListComp elt [⟨tg, iter, ifs, 0⟩] scope pos) (some (.Name y py)) spos.line X.env = pure true) (hi : PI X tg iter (Gj X.K W mi)) (ok : BlkOk X.N X.env.scope scope own)
  (hg : ∀ (s : Shared) (H : Hp) (C : Addr) (cl : List (Str × Addr)) (fp : List Addr), PG (X.blk s H scope (compEnvC scope cl C X.env) fp) tg (Hq X.K t)) (ht : ∀ (s : Shared) (H : Hp) (C : Addr) (cl : List (Str × Addr)) (fp : List Addr), PTs (X.blk s H scope (compEnvC scope cl C X.env) fp) ifs (vF X.K vX mt))
  (he : ∀ (s : Shared) (H : Hp) (C : Addr) (cl : List (Str × Addr)) (fp : List Addr), PE (X.blk s H scope (compEnvC scope cl C X.env) fp) elt (cR X.K vX me)) (hs : ∀ x, foldedSetIterable iter X.env x = pure x := by intro _; rfl) (hv : ∀ i ∈ KZ t, i ∈ own.map (·.2) := by decide) :
  PS X (.Assign [.Name y py] (.ListComp elt [⟨tg, iter, ifs, 0⟩] scope pos) spos) (mN X.K W (cN (wR cl mi t mt me (own.map (·.2))) (.nm i))) := hW (ps_setLc hc hN hy hyl hsw hi ok hg ht he hs) fun D σ H h => by
 obtain ⟨B, φ, S, ρ, I, E, f⟩ := h;refine Ki hv (cJ I E f fun φ' S' d v H1 I1 X1 E1 r f1 => ?_)
 exact f1 φ' _ H1 I1 Ext.refl (E1.set r i)
end
section
variable {X : Cx} {W : WX} {e a b c o i : Expr} {es rest : List Expr} {pos p q p2 tpos apos cpos : Pos} {x y z : Str} {K : aD} {ma mb mc mo mx : FE} {mt mt1 mu : FT} {mas : FA} {mi mj : FI} {B : Addr -> Prop} {φ φ' : List Addr} {S S' : aQ} {H H' : Hp} {σ : L2.St} {Q : VK} {m n : FS} {st : Stmt} {gN : List Stmt} {D : Ends} {t t1 : Tg}
def vQ (t : Tg) (mt : FT) (mj : FI) (t1 : Tg) (mt1 : FT) (me : FE) (vs1 : List Nat) (ρ : Ev) : List PH.D -> aQ -> Res (List PH.D)
 | [], S => .ok [] S
 | d :: r, S => match oK t (.dat d) ρ with
  | none => .stuck
  | some ρ1 => match mt ρ1 S with
   | .ok b S1 => if b = true then (match mj ρ1 S1 with
     | .ok ds1 S2 => (match iP t1 mt1 me (wipeE ρ1 vs1) ds1 S2 with
      | .ok xs S3 => (match vQ t mt mj t1 mt1 me vs1 ρ r S3 with
       | .ok ys S4 => .ok (xs ++ ys) S4
       | _ => .stuck)
      | _ => .stuck)
     | _ => .stuck) else vQ t mt mj t1 mt1 me vs1 ρ r S1
   | _ => .stuck
def LN (cl : Bool) (mi : FI) (t : Tg) (mt : FT) (mj : FI) (t1 : Tg) (mt1 : FT) (me : FE) (vs vs1 : List Nat) : FE := fun ρ S => (mi ρ S).bind fun ds S1 => match vQ t mt mj t1 mt1 me vs1 (wipeE ρ vs) ds S1 with
 | .ok es S2 => if es.length <= sizeLine then newL cl es S2 else .stuck
 | _ => .stuck
theorem Nf {cl : Bool} {me : FE} {vs vs1 : List Nat} (ht : ∀ i ∈ KZ t, i ∈ vs) (ht1 : ∀ i ∈ KZ t1, i ∈ vs1) (h : cR K W (LN cl mi t mt mj t1 mt1 me vs vs1) σ H Q) : tLc2 (Gj K W mi) (Hq K t) (vF K vX mt) (Gj K vX mj) (Hq K t1) (vF K vX mt1) (cR K vX me) vs vs1 σ H Q := by
 refine bZ (k := fun ds ρ S1 => match vQ t mt mj t1 mt1 me vs1 (wipeE ρ vs) ds S1 with | .ok es S2 => if es.length <= sizeLine then newL cl es S2 else .stuck | _ => .stuck) h fun B φ0 S0 ρ ds J H0 I0 E0 r f0 => ?_
 intro A hA;cases q0 : vQ t mt mj t1 mt1 me vs1 (wipeE ρ vs) ds S0 with
 | stuck => rw [q0] at f0; exact f0.elim
 | err e S' => rw [q0] at f0; exact f0.elim
 | ok es0 Sz =>
 rw [q0] at f0;dsimp only at f0;split at f0
 case isFalse => exact f0.elim
 rename_i hsz;have nB : ¬ B A := fun q => by obtain ⟨u, e⟩ := I0.btr A q; rw [hA] at e; cases e
 have IA : GInv K (fL B A) φ0 S0 (upd H0 A (.lst [])) := I0.plus hA;have b2 : ∀ a, H0 a ≠ none -> fL B A a -> B a := fun b hb h => by
  rcases h with h | h
  ·exact h
  ·exact absurd (by rw [h]; exact hA) hb
 refine ⟨fun i k H' => i <= ds.length /\ k = ds.length - i /\ ∃ φ1 S1 us acc rest, GInv K (fL B A) φ1 S1 H' /\ Ext φ0 S0 H0 φ1 S1 H' /\ RepE K (fL B A) φ1 S1 H' (wipeE ρ vs) (wipe σ vs) /\ H' A = some (.lst us) /\ RepL K (jU (fL B A) φ1 S1) H' acc us /\ vQ t mt mj t1 mt1 me vs1 (wipeE ρ vs) (ds.drop i) S1 = .ok rest Sz /\ acc ++ rest = es0,
  ⟨_, eL _, rfl, φ0, S0, [], [], es0, IA, Ext.new I0 hA, (E0.wipes vs).plus I0 hA, upd_same, rfl, q0, rfl⟩, ?_⟩
 rintro i k H' ⟨hi, rfl, φ1, S1, us, acc, rs, I1, X1, E1, hA1, l1, g1, ea⟩
 obtain ⟨hgo, hstop, hyld⟩ := r φ1 S1 H' (fL B A) I1 (X1.kpB (fun _ h => .inl h) b2 I0)
 by_cases hlt : i < ds.length
 ·refine .inr ⟨hgo i hlt, fun H2 => i + 1 <= ds.length /\ ∃ φ1 S1 us acc rest, GInv K (fL B A) φ1 S1 H2 /\ Ext φ0 S0 H0 φ1 S1 H2 /\ RepE K (fL B A) φ1 S1 H2 (wipeE ρ vs) (wipe σ vs) /\ H2 A = some (.lst us) /\ RepL K (jU (fL B A) φ1 S1) H2 acc us /\ vQ t mt mj t1 mt1 me vs1 (wipeE ρ vs) (ds.drop (i + 1)) S1 = .ok rest Sz /\ acc ++ rest = es0, fun H2 ⟨h1, h2⟩ => ⟨ds.length - (i + 1), by omega, h1, rfl, h2⟩, fun x H2 y => ?_⟩
  have hd : ds[i]? = some ds[i] := by simp [hlt]
  obtain ⟨I2, X2, r2⟩ := hyld i x H2 ds[i] hd y;rw [gP hlt] at g1;unfold vQ at g1;split at g1
  case h_1 => cases g1
  rename_i ρ2 q2;have hA2 := (X2.old A _ hA1 fun q => I1.blk A q (.inr rfl)).1
  refine zD (E1.ext X2 I1) (d := .dat ds[i]) r2 q2 fun ws E3 => ⟨by rw [uZ ht, uY], fL B A, φ1, S1, ρ2, I2, E3, ?_⟩
  split at g1
  case h_2 => cases g1
  rename_i b S3 q3;rw [q3];intro φ3 b' H3 I3 X3 rb;have rb : b' = b := rb;subst rb;have hA3 := (X3.old A _ hA2 fun q => I2.blk A q (.inr rfl)).1
  have Xa := X1.trans (X2.trans X3);cases b' with
  | false =>
   exact ⟨hlt, φ3, S3, us, acc, rs, I3, Xa, (E1.ext X2 I1).ext X3 I2, hA3, X3.repL I2 (X2.repL I1 l1), g1, ea⟩
  | true =>
   rw [if_pos rfl];rw [if_pos rfl] at g1;refine ⟨fL B A, φ3, S3, ρ2, I3, E3.ext X3 I2, ?_⟩
   split at g1
   case h_2 => cases g1
   rename_i ds1 S4 q4;rw [q4];intro φ4 J1 H4 I4 X4 rJ;split at g1
   case h_2 => cases g1
   rename_i xs S5 q5;split at g1
   case h_2 => cases g1
   rename_i ys S6 q6;cases g1;have hA4 := (X4.old A _ hA3 fun q => I3.blk A q (.inr rfl)).1
   have Xb := Xa.trans X4;have Eo := (((E1.ext X2 I1).ext X3 I2).ext X4 I3);have Ei := ((E3.ext X3 I2).ext X4 I3);refine ⟨fun j k H' => j <= ds1.length /\ k = ds1.length - j /\ ∃ φ5 S5' us acc rest, GInv K (fL B A) φ5 S5' H' /\ Kp (jU (fL B A) φ4 S4) H4 (jU (fL B A) φ5 S5') H' /\ Ext φ0 S0 H0 φ5 S5' H' /\ RepE K (fL B A) φ5 S5' H' (wipeE ρ vs) (wipe σ vs) /\ RepE K (fL B A) φ5 S5' H' (wipeE ρ2 vs1) (wipe (Ke t x ws (wipe σ vs)) vs1) /\ H' A = some (.lst us) /\ RepL K (jU (fL B A) φ5 S5') H' acc us /\ iP t1 mt1 me (wipeE ρ2 vs1) (ds1.drop j) S5' = .ok rest S5 /\ acc ++ rest ++ ys = es0,
    ⟨_, eL _, rfl, φ4, S4, us, acc, xs, I4, Ext.refl.kp I4, Xb, Eo, Ei.wipes vs1, hA4, X4.repL I3 (X3.repL I2 (X2.repL I1 l1)), q5, by rw [<- ea]; simp⟩, ?_⟩
   rintro j k H5 ⟨hj, rfl, φ5, S5', us5, acc5, rs5, I5, X5, X5', E5, E5', hA5, l5, g5, ea5⟩
   obtain ⟨hgo1, hstop1, hyld1⟩ := rJ φ5 S5' H5 (fL B A) I5 X5
   by_cases hlt1 : j < ds1.length
   ·refine .inr ⟨hgo1 j hlt1, fun H6 => j + 1 <= ds1.length /\ ∃ φ5 S5' us acc rest, GInv K (fL B A) φ5 S5' H6 /\ Kp (jU (fL B A) φ4 S4) H4 (jU (fL B A) φ5 S5') H6 /\ Ext φ0 S0 H0 φ5 S5' H6 /\ RepE K (fL B A) φ5 S5' H6 (wipeE ρ vs) (wipe σ vs) /\ RepE K (fL B A) φ5 S5' H6 (wipeE ρ2 vs1) (wipe (Ke t x ws (wipe σ vs)) vs1) /\ H6 A = some (.lst us) /\ RepL K (jU (fL B A) φ5 S5') H6 acc us /\ iP t1 mt1 me (wipeE ρ2 vs1) (ds1.drop (j + 1)) S5' = .ok rest S5 /\ acc ++ rest ++ ys = es0, fun H6 ⟨h1, h2⟩ => ⟨ds1.length - (j + 1), by omega, h1, rfl, h2⟩, fun x1 H6 y1 => ?_⟩
    have hd1 : ds1[j]? = some ds1[j] := by simp [hlt1]
    obtain ⟨I6, X6, r6⟩ := hyld1 j x1 H6 ds1[j] hd1 y1;rw [gP hlt1] at g5;unfold iP at g5;split at g5
    case h_1 => cases g5
    rename_i ρ7 q7;have hA6 := (X6.old A _ hA5 fun q => I5.blk A q (.inr rfl)).1
    refine zD (E5'.ext X6 I5) (d := .dat ds1[j]) r6 q7 fun ws1 E7 => ⟨by rw [uZ ht1, uY], fL B A, φ5, S5', ρ7, I6, E7, ?_⟩
    split at g5
    case h_2 => cases g5
    rename_i b8 S8 q8;rw [q8];intro φ8 b8' H8 I8 X8 rb8;have rb8 : b8' = b8 := rb8;subst rb8;have hA8 := (X8.old A _ hA6 fun q => I6.blk A q (.inr rfl)).1
    have Xc := X6.trans X8;cases b8' with
    | false =>
     exact ⟨hlt1, φ8, S8, us5, acc5, rs5, I8, X5.trans (Xc.kp I5), X5'.trans Xc, (E5.ext X6 I5).ext X8 I6, (E5'.ext X6 I5).ext X8 I6, hA8, X8.repL I6 (X6.repL I5 l5), g5, ea5⟩
    | true =>
     rw [if_pos rfl];rw [if_pos rfl] at g5;refine ⟨fL B A, φ8, S8, ρ7, I8, E7.ext X8 I6, ?_⟩
     split at g5
     case h_2 => cases g5
     rename_i e9 S9 q9;rw [q9];intro φ9 v9 H9 I9 X9 r9;have hA9 := (X9.old A _ hA8 fun q => I8.blk A q (.inr rfl)).1
     split at g5
     case h_2 => cases g5
     rename_i es10 S10 q10;cases g5;have l9 : RepL K (jU (fL B A) φ9 S9) H9 (acc5 ++ [e9]) (us5 ++ [v9]) := (X9.repL I8 (X8.repL I6 (X6.repL I5 l5))).snoc r9;have hus : us5.length < sizeLine := by
      have := l5.len;have h2 := congrArg CH ea5;simp at h2;omega
     have up : ∀ {φz Sz Hz}, Hz A = none -> Ext φz Sz Hz φ9 S9 H9 -> Ext φz Sz Hz φ9 S9 (upd H9 A (.lst (us5 ++ [v9]))) := fun {φz Sz Hz} hz Xz => ⟨fun b o h nb => by
      obtain ⟨h1, h2⟩ := Xz.old b o h nb;exact ⟨by rw [upd_ne (fun e => by subst e; rw [hz] at h; cases h)]; exact h1, h2⟩, Xz.ids⟩
     refine ⟨us5, hA9, hus, hlt1, φ9, S9, us5 ++ [v9], acc5 ++ [e9], es10, I9.plusPut hA9, (X5.trans ((Xc.trans X9).kp I5)).trans (Kp.plusPut hA9), up hA ((X5'.trans Xc).trans X9), (((E5.ext X6 I5).ext X8 I6).ext X9 I8).plusPut hA9, (((E5'.ext X6 I5).ext X8 I6).ext X9 I8).plusPut hA9, upd_same, RepL.kp (Kp.plusPut hA9) _ _ l9, q10, by rw [<- ea5]; simp⟩
   ·have e : j = ds1.length := by omega
    subst e;rw [oH] at g5;cases g5;rw [cS] at ea5;exact .inl ⟨hstop1, hlt, φ5, S5, us5, acc5, ys, I5, X5', E5, hA5, l5, q6, ea5⟩
 ·have e : i = ds.length := by omega
  subst e;rw [oH] at g1;cases g1;rw [cS] at ea;subst ea;exact .inl ⟨hstop, Fin.done f0 I1 X1 hA nB hA1 l1⟩
theorem f_lc2 {cl : Bool} {me : FE} {elt tg iter tg1 iter1 : Expr} {ifs ifs1 : List Expr} {scope : Scope} {own : List (Str × Nat)} {vs1 : List Nat} (hc : X.calm = true) (hN : X.N.Nodup) (hi : PI X tg iter (Gj X.K W mi)) (ok : BlkOk X.N X.env.scope scope own) (hv : ∀ i ∈ vs1, i ∈ own.map (·.2))
  (hg : ∀ (s : Shared) (H : Hp) (C : Addr) (cl : List (Str × Addr)) (fp : List Addr), PG (X.blk s H scope (compEnvC scope cl C X.env) fp) tg (Hq X.K t)) (ht : ∀ (s : Shared) (H : Hp) (C : Addr) (cl : List (Str × Addr)) (fp : List Addr), PTs (X.blk s H scope (compEnvC scope cl C X.env) fp) ifs (vF X.K vX mt))
  (hi1 : ∀ (s : Shared) (H : Hp) (C : Addr) (cl : List (Str × Addr)) (fp : List Addr), PI (X.blk s H scope (compEnvC scope cl C X.env) fp) tg1 iter1 (Gj X.K vX mj))
  (hg1 : ∀ (s : Shared) (H : Hp) (C : Addr) (cl : List (Str × Addr)) (fp : List Addr), PG (X.blk s H scope (compEnvC scope cl C X.env) fp) tg1 (Hq X.K t1)) (ht1 : ∀ (s : Shared) (H : Hp) (C : Addr) (cl : List (Str × Addr)) (fp : List Addr), PTs (X.blk s H scope (compEnvC scope cl C X.env) fp) ifs1 (vF X.K vX mt1))
  (he : ∀ (s : Shared) (H : Hp) (C : Addr) (cl : List (Str × Addr)) (fp : List Addr), PE (X.blk s H scope (compEnvC scope cl C X.env) fp) elt (cR X.K vX me)) (hs : ∀ x, foldedSetIterable iter X.env x = pure x := by intro _; rfl) (hs1 : ∀ env x, foldedSetIterable iter1 env x = pure x := by intro _ _; rfl)
  (hv0 : ∀ i ∈ KZ t, i ∈ own.map (·.2) := by decide) (hv1 : ∀ i ∈ KZ t1, i ∈ vs1 := by decide) :
  PE X (.ListComp elt [⟨tg, iter, ifs, 0⟩, ⟨tg1, iter1, ifs1, 0⟩] scope pos) (cR X.K W (LN cl mi t mt mj t1 mt1 me (own.map (·.2)) vs1)) := cW (pe_lc2 hc hN hi ok hv hg ht hi1 hg1 ht1 he hs hs1) fun σ H Q h => Nf hv0 hv1 h
def G0 (x y : Vl) (S : aQ) : Res Vl := match x, y with
 | .cel n, .dat d => (match S[n]? with
  | some (.lst ds) => if ds.length < sizeLine then .ok (.dat .non) (S.set n (.lst (ds ++ [d]))) else .stuck
  | _ => .stuck)
 | _, _ => .stuck
theorem C5 {n : Nat} {ds ds' : List PH.D} {v v' : L2.V} {d' : Vl} {vs vs' : List L2.V} {a : Addr} (I : GInv K B φ S H) (hn : S[n]? = some (.lst ds)) (ha : φ[n]? = some a) (l : RepL K (jU B φ S) H ds' vs') (r : RepV K B φ S H d' v')
  (f : Fin K W σ (RepV K) B φ S H (.ok d' (S.set n (.lst ds'))) Q) : Q v' (upd H a (.lst vs')) := by
 have X1 := Ext.put (H := H) (o := .lst vs') (x := .lst ds') hn (by simp) ha (by simp)
 have I1 : GInv K B φ (S.set n (.lst ds')) (upd H a (.lst vs')) := I.put hn (by simp) ha (by simp) ⟨vs', upd_same, X1.repL I l⟩
 exact f φ v' _ I1 X1 (r.ext X1 I)
theorem R0 : ∀ {x : L2.V} {y : L2.V} {d e : Vl}, GInv K B φ S H -> RepV K B φ S H d x -> RepV K B φ S H e y -> Fin K W σ (RepV K) B φ S H (G0 d e S) Q -> Iu x [y] H Q := fun {x y d e} I r1 r2 f => by
 unfold G0 at f;split at f
 ·rename_i n d
  obtain ⟨a, rfl, h1⟩ := r1;split at f
  ·rename_i ds q
   obtain ⟨vs, h2, l⟩ := I.ok n _ a q h1;split at f
   ·rename_i hl
    exact ⟨vs, h2, by rw [l.len]; exact hl, C5 (v := .non) (v' := .non) (d' := .dat .non) (vs := vs) I q h1 (l.snoc r2) rfl f⟩
   ·exact f.elim
  ·exact f.elim
 ·exact f.elim
theorem N8 {d e : Vl} {v : L2.V} (I : GInv K B φ S H) (r : RepV K B φ S H d v) (h : ∃ ds, nL S d = some ds) : tyV K "list" v H := by
 obtain ⟨ds, q⟩ := h;obtain ⟨a, vs, rfl, h1, l⟩ := kO I q r;exact .inl ⟨rfl, vs, SqL.of h1⟩
def kT (a b : FE) : FE := fun ρ S => (a ρ S).bind fun x S1 => match nL S1 x with
 | some _ => (b ρ S1).bind fun y S2 => G0 x y S2
 | none => .stuck
theorem gJ (ha : PE X a (cR X.K W ma)) (hb : PE X b (cR X.K W mb)) (hs : starEach [b] X.env = (false, eval b X.env) :: starEach [] X.env := by rfl) (hbase : attributeBase a "append" X.env (eval a X.env) = eval a X.env := by rfl) (hline : (apos.endLine == cpos.line) = true := by rfl)
  (hfew : ((backTo cpos (starEach [b] X.env)).all (fun x => !x.1) && (backToKw cpos (keywordEach [] X.env)).all (fun x => x.1.isSome)
   && decide ([b].length + ([] : List Keyword).length + (if ([] : List Keyword).isEmpty then 0 else 1) < 30)) = true := by rfl)
  (hpl : (backTo cpos (starEach ([] : List Expr) X.env)).any (·.1) = false := by rfl) : PE X (.Call (.Attribute a "append" apos) [b] [] cpos) (cR X.K W (kT ma mb)) :=
 cW (pe_bm PySem.F.plainAttrs_list PySem.F.slot_list_append PySem.F.type_list_append Gu ha (pa_cons hb pa_nil hs) hbase hfew hline hs hpl) fun σ H Q h =>
  bZ (k := fun x ρ S1 => match nL S1 x with | some _ => (mb ρ S1).bind fun y S2 => G0 x y S2 | none => .stuck) h fun B φ S ρ d v H1 I E r f => by
   split at f
   ·rename_i ds q
    exact ⟨N8 (e := d) I r ⟨ds, q⟩, gI I E f fun φ' S' d2 v2 H2 I2 X2 E2 r2 f2 => R0 I2 (r.ext X2 I) r2 f2⟩
   ·exact f.elim
def qY (x : Vl) (S : aQ) : Res Vl := match x with
 | .cel n => (match S[n]? with
  | some (.lst ds) => (match ds[ds.length - 1]? with
   | some d => .ok (.dat d) (S.set n (.lst ds.dropLast))
   | none => .stuck)
  | _ => .stuck)
 | _ => .stuck
theorem RepL.dropLast {Bk : Addr -> Prop} {ds : List PH.D} {vs : List L2.V} (h : RepL K Bk H ds vs) : RepL K Bk H ds.dropLast vs.dropLast := by
 rw [J0, J0, h.len];exact h.take _
theorem AI (ha : PE X a (cR X.K W ma)) (hbase : attributeBase a "pop" X.env (eval a X.env) = eval a X.env := by rfl) (hline : (apos.endLine == cpos.line) = true := by rfl) : PE X (.Call (.Attribute a "pop" apos) [] [] cpos) (cR X.K W (m1 qY ma)) :=
 cW (pe_bm0 PySem.F.plainAttrs_list PySem.F.slot_list_pop PySem.F.type_list_pop O3 ha hbase hline) fun σ H Q h =>
  bZ (k := fun x ρ S1 => qY x S1) h fun B φ S ρ d v H1 I E r f => by
   unfold qY at f;split at f
   ·rename_i n
    obtain ⟨a, rfl, h1⟩ := r;split at f
    ·rename_i ds q
     obtain ⟨vs, h2, l⟩ := I.ok n _ a q h1;split at f
     ·rename_i d qd
      obtain ⟨v', h3, h4⟩ := l.get qd;exact ⟨.inl ⟨rfl, vs, SqL.of h2⟩, vs, v', h2, by rw [l.len]; exact h3, C5 (v := .non) (d' := .dat d) (vs := vs) I q h1 l.dropLast h4 f⟩
     ·exact f.elim
    ·exact f.elim
   ·exact f.elim
def setC (x : Vl) (k : Int) (d : PH.D) (S : aQ) : Option aQ := match x with
 | .cel n => (match S[n]? with
  | some (.lst ds) => if 0 <= k /\ k.toNat < ds.length then some (S.set n (.lst (ds.set k.toNat d))) else none
  | _ => none)
 | _ => none
theorem Hw {x : Vl} {k : Int} {d : PH.D} {v u : L2.V} {Qh : Hp -> Prop} (I : GInv K B φ S H) (r : RepV K B φ S H x v) (rd' : Rep K (jU B φ S) H d u) (h : setC x k d S = some S') (q : ∀ H', GInv K B φ S' H' -> Ext φ S H φ S' H' -> Qh H') : Ip v (.int k) u H Qh := by
 unfold setC at h;split at h
 ·rename_i n
  obtain ⟨a, rfl, h1⟩ := r;split at h
  ·rename_i ds q1
   split at h
   ·rename_i hk
    cases h;obtain ⟨vs, h2, l⟩ := I.ok n _ a q1 h1;have X1 := Ext.put (H := H) (o := .lst (vs.set k.toNat u)) (x := .lst (ds.set k.toNat d)) q1 (by simp) h1 (by simp)
    exact ⟨vs, h2, hk.1, by rw [l.len]; exact hk.2, q _ (I.put q1 (by simp) h1 (by simp) ⟨_, upd_same, X1.repL I (l.set rd' _)⟩) X1⟩
   ·cases h
  ·cases h
 ·cases h
def II (a o i : FE) : FS := fun ρ S => (a ρ S).toS ρ fun v S1 => (o ρ S1).toS ρ fun x S2 => (i ρ S2).toS ρ fun k S3 => match v, k with
 | .dat d, .dat (.int k) => (match setC x k d S3 with
  | some S4 => .next ρ S4
  | none => .stuck)
 | _, _ => .stuck
theorem Oy (ha : PE X a (cR X.K W ma)) (ho : PE X o (cR X.K W mo)) (hi : PE X i (cR X.K W mx)) (hs : swapsWithSole [.Subscript o i tpos] a pos.line X.env = pure false := by rfl) (hw : swappedStores [.Subscript o i tpos] a X.env = pure none := by rfl)
  (h1 : (assignEach [.Subscript o i tpos] X.env).map (·.2) = [assign (.Subscript o i tpos) X.env] := by rfl)
  (hz : ∀ v, assign (.Subscript o i tpos) X.env v = (do
   let ov <- holding [v] (eval o X.env)
   let iv <- holding [v, ov] (eval i X.env)
   standAt tpos
   holding [v, ov, iv] (setItem ov iv v)
   release [v, ov, iv] []) := by intro _; rfl) : PS X (.Assign [.Subscript o i tpos] a pos) (mN X.K W (II ma mo mx)) := hW (ps_asg ha (pg_sub ho hi Cd hz) hs hw h1) fun D σ H h => by
 obtain ⟨B, φ, S, ρ, I, E, f⟩ := h;refine cJ I E f fun φ1 S1 d1 v1 H1 I1 X1 E1 r1 f1 => cJ I1 E1 f1 fun φ2 S2 d2 v2 H2 I2 X2 E2 r2 f2 => cJ I2 E2 f2 fun φ3 S3 d3 v3 H3 I3 X3 E3 r3 f3 => ?_
 split at f3
 ·rename_i d k
  cases r3;split at f3
  ·rename_i S4 q
   exact Hw I3 (r2.ext X3 I2) ((r1.ext X2 I1).ext X3 I2) q fun H' I' X' => f3 φ3 σ H' I' X' (E3.ext X' I3)
  ·exact f3.elim
 ·exact f3.elim
def M3 (x : Vl) (k : Int) (S : aQ) : Option PH.D := match x with
 | .cel n => (match S[n]? with
  | some (.lst ds) => if 0 <= k then ds[k.toNat]? else none
  | _ => none)
 | _ => none
theorem OO {x : Vl} {k : Int} {d : PH.D} {v : L2.V} {Q' : VK} (I : GInv K B φ S H) (r : RepV K B φ S H x v) (h : M3 x k S = some d) (q : ∀ u, Rep K (jU B φ S) H d u -> Q' u H) : Ir v (.int k) H Q' := by
 unfold M3 at h;split at h
 ·rename_i n
  obtain ⟨a, rfl, h1⟩ := r;split at h
  ·rename_i ds q1
   split at h
   ·rename_i hk
    obtain ⟨vs, h2, l⟩ := I.ok n _ a q1 h1;obtain ⟨u, h3, h4⟩ := l.get h;exact ⟨vs, u, h2, hk, h3, q u h4⟩
   ·cases h
  ·cases h
 ·cases h
def AD (g : Int -> Int -> Int) (o i e : FE) : FS := fun ρ S => (o ρ S).toS ρ fun x S1 => (i ρ S1).toS ρ fun k S2 => match k with
 | .dat (.int k) => (match M3 x k S2 with
  | some (.int u) => (e ρ S2).toS ρ fun w S3 => (match w with
   | .dat (.int w) => (match setC x k (.int (g u w)) S3 with
    | some S4 => .next ρ S4
    | none => .stuck)
   | _ => .stuck)
  | _ => .stuck)
 | _ => .stuck
theorem Kk {g : Int -> Int -> Int} {r : R2} {me : FE} (hr : ∀ i j H Q, Q (.int (g i j)) H -> r (.int i) (.int j) H Q) (h : mN K W (AD g mo mx me) D σ H) : tAugS (cR K W mo) (cR K W mx) (cR K W me) Ir (cIp r) Ip D σ H := by
 obtain ⟨B, φ, S, ρ, I, E, f⟩ := h;refine cJ I E f fun φ1 S1 d1 v1 H1 I1 X1 E1 r1 f1 => cJ I1 E1 f1 fun φ2 S2 d2 v2 H2 I2 X2 E2 r2 f2 => ?_
 split at f2
 ·rename_i k
  cases r2;split at f2
  ·rename_i u q
   refine OO I2 (r1.ext X2 I1) q fun u' ru => ?_
   cases ru;refine cJ I2 E2 f2 fun φ3 S3 d3 v3 H3 I3 X3 E3 r3 f3 => ?_
   split at f3
   ·rename_i w
    cases r3;split at f3
    ·rename_i S4 q4
     refine hr _ _ _ _ ?_
     exact Hw I3 ((r1.ext X2 I1).ext X3 I2) (d := .int (g u w)) rfl q4 fun H' I' X' => f3 φ3 σ H' I' X' (E3.ext X' I3)
    ·exact f3.elim
   ·exact f3.elim
  ·exact f2.elim
 ·exact f2.elim
theorem Br {me : FE} (ho : PE X o (cR X.K W mo)) (hi : PE X i (cR X.K W mx)) (he : PE X e (cR X.K W me)) (ha : ∀ ov iv new, augStore i ov iv new = (do holding [new, ov, iv] (setItem ov iv new); release [new, ov, iv] []; pure .next) := by intros; rfl) : PS X (.AugAssign (.Subscript o i tpos) .Add e pos) (mN X.K W (AD (fun x y => x + y) mo mx me)) :=
 hW (Qj ho hi he Ds ha) fun D σ H h => Kk (fun _ _ _ _ q => q) h
def Jd (g : Int -> Int -> Int) (k : Nat) (e : FE) : FS := fun ρ S => match lk ρ k with
 | some (.dat (.int u)) => (e ρ S).toS ρ fun w S1 => (match w with
  | .dat (.int w) => .next (ρ.set k (some (.dat (.int (g u w))))) S1
  | _ => .stuck)
 | _ => .stuck
theorem Ni {g : Int -> Int -> Int} {k : Nat} {r : R2} {me : FE} (hr : ∀ i j H Q, Q (.int (g i j)) H -> r (.int i) (.int j) H Q) (h : mN K W (Jd g k me) D σ H) : tAug k (cR K W me) (cIp r) D σ H := by
 obtain ⟨B, φ, S, ρ, I, E, f⟩ := h;unfold Jd at f;split at f
 ·rename_i u q
  obtain ⟨v, h1, h2⟩ := E.2 k _ (LX q);cases h2;refine ⟨_, h1, cJ I E f fun φ3 S3 d3 v3 H3 I3 X3 E3 r3 f3 => ?_⟩
  split at f3
  ·cases r3
   exact hr _ _ _ _ (f3 φ3 _ H3 I3 Ext.refl (E3.set (d := .dat (.int (g _ _))) (v := .int (g _ _)) rfl k))
  ·exact f3.elim
 ·exact f.elim
theorem D8 {k : Nat} {me : FE} {pos' : Pos} (hN : X.N.Nodup) (hi : X.N[k]? = some x) (hx : Loc X.env.scope x) (he : PE X e (cR X.K W me)) (hf : X.fn x = true \/ X.env.scope.names.lookup x = some .local := by first | exact .inl rfl | exact .inr rfl | assumption) : PS X (.AugAssign (.Name x pos') .Add e pos) (mN X.K W (Jd (fun x y => x + y) k me)) :=
 hW (ps_aug hN hi hx he Ds hf) fun D σ H h => Ni (fun _ _ _ _ q => q) h
def mPar (i j : Nat) (a b : FE) : FS := fun ρ S => (a ρ S).toS ρ fun x S1 => (b ρ S1).toS ρ fun y S2 => .next ((ρ.set i (some x)).set j (some y)) S2
end
abbrev FD := List Vl -> aQ -> Res Vl
def spF (K : aD) (m : FD) : Sp := fun vs H Q E => ∃ B φ S ds, GInv K B φ S H /\ RepVs K B φ S H ds vs /\ Fin K (fun c x _ H => E c x H) [] (RepV K) B φ S H (m ds S) Q
section
variable {X : Cx} {W : WX} {e a b c o i : Expr} {es rest : List Expr} {pos p q p2 tpos apos cpos : Pos} {x y z : Str} {K : aD} {ma mb mc mo mx : FE} {mt mt1 mu : FT} {mas : FA} {mi mj : FI} {B : Addr -> Prop} {φ φ' : List Addr} {S S' : aQ} {H H' : Hp} {σ : L2.St} {Q : VK} {m n : FS} {st : Stmt} {gN : List Stmt} {D : Ends} {t t1 : Tg} {ps : List Str} {md : FD} {j k : Nat}
theorem Fin.toE {r : Res Vl} (f : Fin K W σ (RepV K) B φ S H r Q) : Fin K (fun c x _ H => WE W σ c x H) [] (RepV K) B φ S H r Q := by
 cases r with
 | ok d S' => exact f
 | err e S' => exact f
 | stuck => exact f
def bM (md : FD) (as : FA) : FE := fun ρ S => (as ρ S).bind md
theorem bJ (F : sX X.prog X.w X.K X.mg X.base j x ps (spF X.K md)) (hr : Room k X.A) (tk : Takes X W) (ha : PA X (e :: es) (CN X.K W mas)) (hjk : j <= k := by decide) (hg : Gl X x := by rfl) (hdb : (x == ("__debug__" : Str)) = false := by decide)
  (he : starEach (e :: es) X.env = (false, eval e X.env) :: starEach es X.env := by rfl) (hpl : (backTo pos (starEach es X.env)).any (·.1) = false := by rfl) : PE X (.Call (.Name x p) (e :: es) [] pos) (cR X.K W (bM md mas)) := by
 obtain ⟨fd, F, hm, hk, hb⟩ := F;refine cW (pe_callS (E := WE W) F (hr.mono hjk) hg hm hk hb (fun σ => passAt tk σ) ha hdb he hpl) fun σ H Q h => ?_
 exact bZ (k := fun ds _ S => md ds S) h fun B φ S ρ d v H1 I E r f => ⟨B, φ, S, d, I, r, f.toE⟩
theorem EA (F : sX X.prog X.w X.K X.mg X.base j x ps (spF X.K md)) (hr : Room k X.A) (tk : Takes X W) (hjk : j <= k := by decide) (hg : Gl X x := by rfl) (hdb : (x == ("__debug__" : Str)) = false := by decide) : PE X (.Call (.Name x p) [] [] pos) (cR X.K W (bM md aO)) := by
 obtain ⟨fd, F, hm, hk, hb⟩ := F;refine ⟨fun pins s σ H Q I h => ?_⟩
 refine wpAny_Call_Name_kw (ld_glob I hg hm ?_ hdb)
 refine vV I.kIn hk (run_fnS (E := WE W) F (hr.mono hjk) hb (passAt tk σ) I .nil ?_)
 obtain ⟨B, φ, S, ρ, J, E, f⟩ := h;exact ⟨B, φ, S, [], J, rfl, Fin.toE f⟩
def itB (n : Nat) : PH.D ⊕ Nat -> Bool
 | .inl _ => true
 | .inr m => decide (m < n)
def Vl.below (n : Nat) : Vl -> Bool
 | .dat _ => true
 | .cel m => decide (m < n)
 | .cels ms => ms.all fun m => decide (m < n)
 | .scr _ => true
 | .tc xs => xs.all (itB n)
def Cell.below (n : Nat) : Cell -> Bool
 | .dead => true
 | .lst _ => true
 | .ins _ fs => fs.all fun f => f.2.below n
 | .dct fs => fs.all fun f => f.2.below n
 | .lv xs => xs.all fun x => x.below n
 | .dki _ xs => xs.all fun x => x.below n
 | .dkt _ xs => xs.all fun x => x.below n
def trunc (n : Nat) (r : Res Vl) : Res Vl := match r with
 | .ok d S => if d.below n && ((S.take n).all fun c => c.below n) then .ok d (S.take n) else .stuck
 | .err e S => if (S.take n).all fun c => c.below n then .err e (S.take n) else .stuck
 | .stuck => .stuck
def cL : Out -> Res Vl
 | .ret d S => .ok d S
 | .next _ S => .ok (.dat .non) S
 | .err e _ S => .err e S
 | _ => .stuck
def envOf (n : Nat) (ds : List Vl) : Ev := ds.map some ++ bQ (n - ds.length) none
def run (n np : Nat) (mb : FS) : FD := fun ds S => if ds.length = np then cL (mb (envOf n ds) S) else .stuck
def BQ (n np : Nat) (mb : FS) : FD := fun ds S => if ds.length = np then trunc S.length (cL (mb (envOf n ds) S)) else .stuck
theorem wY {α : Type} {n m : Nat} {l : List α} (h : m < n) : (l.take n)[m]? = l[m]? := by
 rw [eO, if_pos h]
theorem kY {n : Nat} {a : Addr} (h : mH (φ.take n) (S.take n) a) : mH φ S a := by
 obtain ⟨m, c, h1, h2, h3⟩ := h;rw [eO] at h1 h3
 by_cases hm : m < n
 ·rw [if_pos hm] at h1 h3; exact ⟨m, c, h1, h2, h3⟩
 ·rw [if_neg hm] at h1; cases h1
theorem RepIs.takeN {n : Nat} {K : aD} {Bk Bk' : Addr -> Prop} {φ : List Addr} {H : Hp} (k : Kp Bk H Bk' H) : ∀ {xs : List (PH.D ⊕ Nat)} {vs : List L2.V}, RepIs K Bk φ H xs vs -> xs.all (itB n) = true -> RepIs K Bk' (φ.take n) H xs vs
 | [], vs, r, _ => r
 | x :: xs, vs, ⟨v, ws, e, h1, h2⟩, h => by
  rw [sY, iO] at h;refine ⟨v, ws, e, ?_, RepIs.takeN k h2 h.2⟩
  cases x with
  | inl d => exact Rep.kp k d v h1
  | inr m =>
   obtain ⟨b, q1, q2⟩ := h1;exact ⟨b, q1, by rw [wY (of_decide_eq_true h.1)]; exact q2⟩
theorem RepV.take {n : Nat} {d : Vl} {v : L2.V} (r : RepV K B φ S H d v) (h : d.below n = true) : RepV K B (φ.take n) (S.take n) H d v := by
 have k : Kp (jU B φ S) H (jU B (φ.take n) (S.take n)) H := ⟨fun b o h nb => ⟨h, fun q => nb (by
  rcases q with q | q
  ·exact .inl q
  ·exact .inr (kY q))⟩, fun _ _ h => h⟩
 cases d with
 | dat d => exact Rep.kp k d v r
 | cel m =>
  obtain ⟨a, e, h1⟩ := r;exact ⟨a, e, by rw [wY (of_decide_eq_true h)]; exact h1⟩
 | cels ms =>
  obtain ⟨a, as, e1, e2, e3, e4⟩ := r;refine ⟨a, as, e1, (k.old _ _ e3 e2).2, e3, ?_⟩
  rw [<- e4]
  apply hZ
  intro m hm;exact wY (of_decide_eq_true (cF.mp h m hm))
 | scr ns => exact r
 | tc xs => obtain ⟨a, vs, e1, e2, e3⟩ := r; exact ⟨a, vs, e1, SqT.kp k.tup e2, RepIs.takeN k e3 h⟩
theorem RepF.take {n : Nat} : ∀ {fs : List (Str × Vl)} {vs : List (Str × L2.V)}, RepF K B φ S H fs vs -> (fs.all fun f => f.2.below n) = true -> RepF K B (φ.take n) (S.take n) H fs vs
 | [], vs, r, _ => r
 | f :: fs, vs, ⟨v, ws, e, h1, h2⟩, h => by
  simp only [sY, iO] at h;exact ⟨v, ws, e, h1.take h.1, RepF.take h2 h.2⟩
theorem RepVs.take {n : Nat} : ∀ {fs : List Vl} {vs : List L2.V}, RepVs K B φ S H fs vs -> (fs.all fun f => f.below n) = true -> RepVs K B (φ.take n) (S.take n) H fs vs
 | [], vs, r, _ => r
 | f :: fs, vs, ⟨v, ws, e, h1, h2⟩, h => by
  simp only [sY, iO] at h;exact ⟨v, ws, e, h1.take h.1, RepVs.take h2 h.2⟩
theorem GInv.take {n : Nat} (I : GInv K B φ S H) (h : ((S.take n).all fun c => c.below n) = true) : GInv K B (φ.take n) (S.take n) H where
 len := by rw [kM, kM, I.len]
 ok := fun m c a h1 h2 => by
  have hc := cF.mp h c (bI h1);rw [eO] at h1 h2
  by_cases hm : m < n
  ·rw [if_pos hm] at h1 h2
   have q := I.ok m c a h1 h2;have k : Kp (jU B φ S) H (jU B (φ.take n) (S.take n)) H := ⟨fun b o h nb => ⟨h, fun q => nb (by
    rcases q with q | q
    ·exact .inl q
    ·exact .inr (kY q))⟩, fun _ _ h => h⟩
   cases c with
   | dead => trivial
   | lst ds => obtain ⟨vs, e, r⟩ := q; exact ⟨vs, e, RepL.kp k ds vs r⟩
   | ins C fs => obtain ⟨dx, vs, e, r⟩ := q; exact ⟨dx, vs, e, r.take hc⟩
   | dct fs => obtain ⟨vs, e, r⟩ := q; exact ⟨vs, e, r.take hc⟩
   | lv xs => obtain ⟨vs, e, r⟩ := q; exact ⟨vs, e, r.take hc⟩
   | dki ks xs => obtain ⟨vs, e, r⟩ := q; exact ⟨vs, e, r.take hc⟩
   | dkt ks xs => obtain ⟨vs, e, r⟩ := q; exact ⟨vs, e, r.take hc⟩
  ·rw [if_neg hm] at h1; cases h1
 inj := fun i j d d' b h1 h2 h3 h4 h5 h6 => by
  rw [eO] at h1 h3 h5 h6
  by_cases hi : i < n
  ·by_cases hj : j < n
   ·rw [if_pos hi] at h1 h5
    rw [if_pos hj] at h3 h6;exact I.inj i j d d' b h1 h2 h3 h4 h5 h6
   ·rw [if_neg hj] at h3; cases h3
  ·rw [if_neg hi] at h1; cases h1
 blk := fun b h => I.blk b (kY h)
 btr := I.btr
theorem Ext.take {n : Nat} {φ0 : List Addr} {S0 : aQ} {H0 : Hp} (x : Ext φ0 S0 H0 φ S H) (hn : φ0.length <= n) : Ext φ0 S0 H0 (φ.take n) (S.take n) H :=
 ⟨fun b o h nb => ⟨(x.old b o h nb).1, fun q => (x.old b o h nb).2 (kY q)⟩, fun m a h => by
  have := (aG.mp h).1;rw [wY (by omega)]
  exact x.ids m a h⟩
theorem Fin.trunc {r : Res Vl} {n : Nat} (f : Fin K W σ (RepV K) B φ S H (PH.trunc n r) Q) (I : GInv K B φ S H) (hn : n = S.length) : Fin K W σ (RepV K) B φ S H r Q := by
 have hl : φ.length <= n := by rw [hn, I.len]; exact bS _
 cases r with
 | ok d S' =>
  unfold PH.trunc at f;dsimp only at f;split at f
  ·rename_i h
   obtain ⟨h1, h2⟩ := Bool.and_eq_true_iff.mp h;exact fun φ' v H' I' X' r' => f (φ'.take n) v H' (I'.take h2) (X'.take hl) (r'.take h1)
  ·exact f.elim
 | err e S' =>
  unfold PH.trunc at f;dsimp only at f;split at f
  ·rename_i h
   refine fun φ' c x H' I' X' r' => f (φ'.take n) c x H' (I'.take h) (X'.take hl) ⟨r'.1, ?_⟩
   rcases r'.2 with h0 | ⟨d, vs, e1, e2, e3⟩
   ·exact .inl h0
   ·refine .inr ⟨d, vs, e1, e2, RepL.kp ⟨fun b o h nb => ⟨h, fun q => nb (by
     rcases q with q | q
     ·exact .inl q
     ·exact .inr (kY q))⟩, fun _ _ h => h⟩ _ _ e3⟩
  ·exact f.elim
 | stuck => exact f
theorem G2 {ds : List Vl} {vs : List L2.V} {N : List Str} (r : RepVs K B φ S H ds vs) : RepE K B φ S H (envOf N.length ds) (start N vs) := by
 have hl := r.len;have hg : ∀ {ds : List Vl} {vs : List L2.V}, RepVs K B φ S H ds vs -> ∀ (i : Nat) (d : Vl), ds[i]? = some d -> ∃ v, vs[i]? = some v /\ RepV K B φ S H d v := fun {ds} => by
  induction ds with
  | nil => intro vs r i d h; simp at h
  | cons d ds ih =>
   rintro vs ⟨v, ws, e, h1, h2⟩ i d' h
   subst e;cases i with
   | zero => simp at h; subst h; exact ⟨v, rfl, h1⟩
   | succ i =>
    obtain ⟨v', h3, h4⟩ := ih h2 i d' (by simpa using h)
    exact ⟨v', by simpa using h3, h4⟩
 unfold envOf L2.start;refine ⟨by simp [hl], fun i d h => ?_⟩
 by_cases hi : i < ds.length
 ·rw [aM (by simpa using hi)] at h
  rw [aM (by simp [hl, hi])]
  rw [bT] at h ⊢;cases q : ds[i]? with
  | none => rw [q] at h; cases h
  | some d' =>
   rw [q] at h;have : d' = d := by simpa using h
   subst this;obtain ⟨v, h1, h2⟩ := hg r i d' q;exact ⟨v, by rw [h1]; rfl, h2⟩
 ·rw [aX (by simpa using tN hi)] at h
  rw [List.getElem?_replicate] at h
  split at h <;> cases h
theorem Fy {mb : FS} {E : XK} {ds : List Vl} {vs : List L2.V} {N : List Str} (I : GInv K B φ S H) (r : RepVs K B φ S H ds vs) (f : Fin K (fun c x _ H => E c x H) [] (RepV K) B φ S H (cL (mb (envOf N.length ds) S)) Q) : mN K (fun c x _ H => E c x H) mb { nx := fun _ H' => Q .non H', rt := Q } (start N vs) H := by
 refine ⟨B, φ, S, envOf N.length ds, I, G2 r, ?_⟩
 unfold cL at f;cases q : mb (envOf N.length ds) S with
 | next ρ' S' => rw [q] at f; exact fun φ' σ' H' I' X' _ => f φ' _ H' I' X' rfl
 | ret d S' => rw [q] at f; exact f
 | brk ρ' S' => rw [q] at f; exact f.elim
 | cnt ρ' S' => rw [q] at f; exact f.elim
 | err e ρ' S' => rw [q] at f; exact fun φ' σ' c x H' I' X' _ r' => f φ' c x H' I' X' r'
 | stuck => rw [q] at f; exact f
end
section
variable {P : Program} {w : World} {K : aD} {mg : Str -> Option Value} {base : Heap}
structure Runs (md : FD) (n np : Nat) (mb : FS) : Prop where
 ok : ∀ ds S, ds.length = np -> md ds S = cL (mb (envOf n ds) S) \/ md ds S = trunc S.length (cL (mb (envOf n ds) S))
 no : ∀ ds S, ds.length ≠ np -> md ds S = .stuck
theorem Runs.plain {n np : Nat} {mb : FS} : Runs (run n np mb) n np mb := ⟨fun ds S h => .inl (by unfold run; rw [if_pos h]), fun ds S h => by unfold run; rw [if_neg h]⟩
theorem Runs.cut {n np : Nat} {mb : FS} : Runs (BQ n np mb) n np mb := ⟨fun ds S h => .inr (by unfold BQ; rw [if_pos h]), fun ds S h => by unfold BQ; rw [if_neg h]⟩
theorem xA {md : FD} {n np : Nat} {mb : FS} (R : Runs md n np mb) : ∀ vs H Q E, spF K md vs H Q E -> vs.length = np := fun vs H Q E ⟨B, φ, S, ds, I, r, f⟩ => by
 rw [r.len]
 by_cases h : ds.length = np
 ·exact h
 ·rw [R.no ds S h] at f; exact f.elim
theorem tQ {md : FD} {np : Nat} {mb : FS} {N : List Str} (R : Runs md N.length np mb) {vs : List L2.V} {H : Hp} {Q : VK} {E : XK} (h : spF K md vs H Q E) : mN K (fun c x _ H => E c x H) mb { nx := fun _ H' => Q .non H', rt := Q } (start N vs) H := by
 obtain ⟨B, φ, S, ds, I, r, f⟩ := h
 by_cases hl : ds.length = np
 ·rcases R.ok ds S hl with e | e
  ·rw [e] at f; exact Fy I r f
  ·rw [e] at f; exact Fy I r (Fin.trunc f I rfl)
 ·rw [R.no ds S hl] at f; exact f.elim
theorem okF {x : Str} {st : Stmt} {N ps : List Str} {k : Nat} {md : FD} {mb : FS} (F : rB K x st) (g : mg x = some (.ref (He.ga K x))) (S : FnScope N ps (defScope st)) (R : Runs md N.length ps.length mb)
  (bnd : ∀ (kV doc pm : Value) (an : Option Addr) (cdv ct : Value) (us : List Value), us.length = ps.length -> bindArgs (dC x x (defArgs st) (defBody st) (defScope st) .none kV doc pm an cdv ct) ⟨us, []⟩ = pure (ps.zip us))
  (hbody : ∀ (cdv : Value) (A : Around) (outer : List Env) (s : Shared) (H : Hp) (E : XK), Room k (A.deeper (envOfC x (defScope st) s.heap.objs.size (He.ga K x) cdv)) ->
   PSs (cxOf (L2.CX P w) P w K mg base N x (defScope st) (He.ga K x) cdv A outer s H E) (defBody st) (mN K (fun c x _ H => E c x H) mb)) : sX P w K mg base (k + 1) x ps (spF K md) :=
 LG F g S (xA R) bnd fun cdv A outer s H vs Q E hr h => ⟨_, hbody cdv A outer s H E hr, tQ R h⟩
theorem okFM {C m q : Str} {st : Stmt} {N ps : List Str} {k : Nat} {md : FD} {mb : FS} (F : GW K C m q st) (g : Meth K (He.ga K C) m (He.ma K (He.ga K C) m)) (S : FnScope N ps (defScope st)) (R : Runs md N.length ps.length mb)
  (bnd : ∀ (kV doc pm : Value) (an : Option Addr) (cdv ct : Value) (us : List Value), us.length = ps.length -> bindArgs (dC m q (defArgs st) (defBody st) (defScope st) .none kV doc pm an cdv ct) ⟨us, []⟩ = pure (ps.zip us))
  (hbody : ∀ (cdv : Value) (A : Around) (outer : List Env) (s : Shared) (H : Hp) (E : XK), Room k (A.deeper (envOfC q (defScope st) s.heap.objs.size (He.ma K (He.ga K C) m) cdv)) ->
   PSs (cxOf (L2.CX P w) P w K mg base N q (defScope st) (He.ma K (He.ga K C) m) cdv A outer s H E) (defBody st) (mN K (fun c x _ H => E c x H) mb)) : OkMX P w K mg base (k + 1) C m ps (spF K md) :=
 O0 F g S (xA R) bnd fun cdv A outer s H vs Q E hr h => ⟨_, hbody cdv A outer s H E hr, tQ R h⟩
end
section
variable {X : Cx} {W : WX} {e a b c o i : Expr} {es rest : List Expr} {pos p q p2 tpos apos cpos pos' : Pos} {x y z f C mn : Str} {K : aD} {ma mb mc mo mx : FE} {mt mt1 mu : FT} {mas : FA} {B : Addr -> Prop} {φ φ' : List Addr} {S S' : aQ} {H H' : Hp} {σ : L2.St} {Q : VK} {m n : FS} {D : Ends} {ps : List Str} {md : FD} {j k : Nat}
def pM (S : aQ) (C mn : Str) : Vl -> Bool
 | .cel n => match S[n]? with
  | some (.ins C' fs) => decide (C' = C) && fs.all fun f => decide (f.1 ≠ mn)
  | _ => false
 | .dat (.ins C' ns _) => decide (C' = C) && ns.all fun f => decide (f ≠ mn)
 | _ => false
theorem RepF.miss : ∀ {fs : List (Str × Vl)} {vs : List (Str × L2.V)}, RepF K B φ S H fs vs -> (fs.all fun f => decide (f.1 ≠ mn)) = true -> vs.lookup mn = none
 | [], vs, r, _ => by cases r; rfl
 | d :: ds, vs, ⟨v, ws, e, h1, h2⟩, h => by
  subst e;simp only [sY, iO, decide_eq_true_eq] at h;rw [eP, show (mn == d.1) = false by simpa using Ne.symm h.1]
  exact RepF.miss h2 h.2
theorem EU : ∀ {ns : List Str} {vs : List L2.V}, (ns.all fun f => decide (f ≠ mn)) = true -> (ns.zip vs).lookup mn = none
 | [], vs, _ => by simp
 | d :: ds, [], _ => by simp
 | d :: ds, v :: vs, h => by
  simp only [sY, iO, decide_eq_true_eq] at h;rw [rA, eP, show (mn == d) = false by simpa using Ne.symm h.1]
  exact EU h.2
theorem HG {d : Vl} {v : L2.V} (I : GInv K B φ S H) (r : RepV K B φ S H d v) (h : pM S C mn d = true) : ∃ a dx fs, v = .ref a /\ H a = some (.ins (He.ga K C) dx fs) /\ fs.lookup mn = none := by
 cases d with
 | cel n =>
  obtain ⟨a, rfl, h1⟩ := r;have h : (match S[n]? with | some (.ins C' fs) => decide (C' = C) && fs.all fun f => decide (f.1 ≠ mn) | _ => false) = true := h
  split at h
  ·rename_i C' fs q
   obtain ⟨h2, h3⟩ := He.ba h;have e : C' = C := of_decide_eq_true h2;subst e;obtain ⟨dx, vs, h4, h5⟩ := I.ok n _ a q h1;exact ⟨a, dx, vs, rfl, h4, h5.miss h3⟩
  ·cases h
 | dat d =>
  cases d with
  | ins C' ns xs =>
   obtain ⟨h2, h3⟩ := He.ba (show (decide (C' = C) && ns.all fun f => decide (f ≠ mn)) = true from h)
   have e : C' = C := of_decide_eq_true h2;subst e;obtain ⟨a, dx, vs, rfl, _, h4, _⟩ := r;exact ⟨a, dx, _, rfl, h4, EU h3⟩
  | _ => cases h
 | cels ns => cases h
 | scr ns => cases h
 | tc _ => cases h
def pK (C mn : Str) (md : FD) (o : FE) (as : FA) : FE := fun ρ S => (o ρ S).bind fun x S1 => if pM S1 C mn x = true then (as ρ S1).bind fun ds S2 => md (x :: ds) S2 else .stuck
theorem A0 {pl : Sem Bool} (F : OkMX X.prog X.w X.K X.mg X.base j C mn ps (spF X.K md)) (hr : Room k X.A) (tk : Takes X W) (c : Cls X.K (He.ga X.K C)) (ho : PE X o (cR X.K W mo)) (ha : PA X (e :: es) (CN X.K W mas)) (hjk : j <= k := by decide)
  (hst : starEach (e :: es) X.env = (false, eval e X.env) :: starEach es X.env := by rfl) (hpl : (backTo pos (starEach es X.env)).any (·.1) = false := by rfl)
  (ht : eval (.Call (.Attribute o mn apos) (e :: es) [] pos) X.env = eval o X.env >>= fun ov => standAt apos.atName >>= fun _ => holding [ov] (getMethod ov mn pl) >>= fun q => callWith pos q.1 q.2 (backTo pos (starEach (e :: es) X.env)) (backToKw pos (keywordEach [] X.env)) := by rfl) :
  PE X (.Call (.Attribute o mn apos) (e :: es) [] pos) (cR X.K W (pK C mn md mo mas)) := by
 obtain ⟨⟨fd, F, hb⟩, mt⟩ := F;refine ⟨fun pins s σ H Q I h => ?_⟩
 have h' : cR X.K W mo σ H fun v H1 => ∃ a dx fs, v = .ref a /\ H1 a = some (.ins (He.ga X.K C) dx fs) /\ fs.lookup mn = none /\ CN X.K W mas σ H1 fun vs H2 => spF X.K md (.ref a :: vs) H2 Q (WE W σ) :=
  bZ (k := fun x ρ S1 => if pM S1 C mn x = true then (mas ρ S1).bind fun ds S2 => md (x :: ds) S2 else .stuck) h fun B φ S ρ d v H1 I E r f => by
   split at f
   ·rename_i hi
    obtain ⟨a, dx, fs, rfl, h1, h2⟩ := HG I r hi;exact ⟨a, dx, fs, rfl, h1, h2, gI I E f fun φ' S' ds vs H2 I2 X2 E2 r2 f2 => ⟨B, φ', S', d :: ds, I2, ⟨_, _, rfl, r.ext X2 I, r2⟩, f2.toE⟩⟩
   ·exact f.elim
 refine GT (pl := pl) (thn (ho.run pins s σ H _ I h') fun u s1 hh => ?_) ht
 obtain ⟨x, H1, I1, rx, a, dx, fs, rfl, ea, l, q⟩ := hh;obtain rfl : u = Value.ref a := rx;refine getmeth_ok I1 ea c mt l (wU (first := [.ref a]) (h₀ := X.base) I.ok.mod.kin mt.kp (thn (ha.run pos pins s1 σ H1 _ I1 q) fun us s2 hh => ?_) hst hpl)
 obtain ⟨vs, H2, I2, r, q2⟩ := hh;exact ⟨I2.kIn, run_fnS (us := .ref a :: us) (vs := .ref a :: vs) (E := WE W) F (hr.mono hjk) hb (passAt tk σ) I2 (.cons rfl r) q2⟩
theorem Au {pl : Sem Bool} (F : OkMX X.prog X.w X.K X.mg X.base j C mn ps (spF X.K md)) (hr : Room k X.A) (tk : Takes X W) (c : Cls X.K (He.ga X.K C)) (ho : PE X o (cR X.K W mo)) (hjk : j <= k := by decide)
  (ht : eval (.Call (.Attribute o mn apos) [] [] pos) X.env = eval o X.env >>= fun ov => standAt apos.atName >>= fun _ => holding [ov] (getMethod ov mn pl) >>= fun q => callWith pos q.1 q.2 (backTo pos (starEach [] X.env)) (backToKw pos (keywordEach [] X.env)) := by rfl) :
  PE X (.Call (.Attribute o mn apos) [] [] pos) (cR X.K W (pK C mn md mo aO)) := by
 obtain ⟨⟨fd, F, hb⟩, mt⟩ := F;refine ⟨fun pins s σ H Q I h => ?_⟩
 have h' : cR X.K W mo σ H fun v H1 => ∃ a dx fs, v = .ref a /\ H1 a = some (.ins (He.ga X.K C) dx fs) /\ fs.lookup mn = none /\ spF X.K md [.ref a] H1 Q (WE W σ) :=
  bZ (k := fun x ρ S1 => if pM S1 C mn x = true then md [x] S1 else .stuck) h fun B φ S ρ d v H1 I E r f => by
   split at f
   ·rename_i hi
    obtain ⟨a, dx, fs, rfl, h1, h2⟩ := HG I r hi;exact ⟨a, dx, fs, rfl, h1, h2, B, φ, S, [d], I, ⟨_, _, rfl, r, rfl⟩, f.toE⟩
   ·exact f.elim
 refine GT (pl := pl) (thn (ho.run pins s σ H _ I h') fun u s1 hh => ?_) ht
 obtain ⟨x, H1, I1, rx, a, dx, fs, rfl, ea, l, q⟩ := hh;obtain rfl : u = Value.ref a := rx;exact getmeth_ok I1 ea c mt l (vV (first := [.ref a]) I1.kIn mt.kp (run_fnS (us := [.ref a]) (vs := [.ref a]) (E := WE W) F (hr.mono hjk) hb (passAt tk σ) I1 (.cons rfl .nil) q))
def AH (S : aQ) (C f : Str) : Vl -> Option Vl
 | .cel n => match S[n]? with
  | some (.ins C' fs) => if C' = C then fs.lookup f else none
  | _ => none
 | .dat (.ins C' ns xs) => if C' = C then ((ns.zip xs).lookup f).map Vl.dat else none
 | _ => none
theorem RepF.look {d : Vl} : ∀ {fs : List (Str × Vl)} {vs : List (Str × L2.V)}, RepF K B φ S H fs vs -> fs.lookup f = some d -> ∃ v, vs.lookup f = some v /\ RepV K B φ S H d v
 | [], vs, r, h => by cases h
 | g :: fs, vs, ⟨v, ws, e, h1, h2⟩, h => by
  subst e;obtain ⟨g1, g2⟩ := g;rw [eP] at h ⊢;cases q : f == g1 with
  | true => rw [q] at h; cases h; exact ⟨v, rfl, h1⟩
  | false => rw [q] at h; exact RepF.look h2 h
theorem EV {Bk : Addr -> Prop} {d : PH.D} : ∀ {ns : List Str} {ds : List PH.D} {vs : List L2.V}, RepL K Bk H ds vs -> (ns.zip ds).lookup f = some d -> ∃ v, (ns.zip vs).lookup f = some v /\ Rep K Bk H d v
 | [], ds, vs, r, h => by simp at h
 | n :: ns, [], vs, r, h => by simp at h
 | n :: ns, d' :: ds, vs, ⟨v, ws, e, h1, h2⟩, h => by
  subst e;rw [rA, eP] at h ⊢;cases q : f == n with
  | true => rw [q] at h; cases h; exact ⟨v, rfl, h1⟩
  | false => rw [q] at h; exact EV h2 h
def gG (C f : Str) (o : FE) : FE := fun ρ S => (o ρ S).bind fun x S1 => match AH S1 C f x with
 | some d => .ok d S1
 | none => .stuck
theorem Fx {x d : Vl} {v : L2.V} (I : GInv K B φ S H) (r : RepV K B φ S H x v) (h : AH S C f x = some d) : ∃ a dx fs u, v = .ref a /\ H a = some (.ins (He.ga K C) dx fs) /\ fs.lookup f = some u /\ RepV K B φ S H d u := by
 cases x with
 | cel n =>
  obtain ⟨a, rfl, h1⟩ := r
  replace h : (match S[n]? with | some (.ins C' fs) => if C' = C then fs.lookup f else none | _ => none) = some d := h
  split at h
  ·rename_i C' fs q
   split at h
   ·rename_i e
    subst e;obtain ⟨dx, vs, h4, h5⟩ := I.ok n _ a q h1;obtain ⟨u, h6, h7⟩ := h5.look h;exact ⟨a, dx, vs, u, rfl, h4, h6, h7⟩
   ·cases h
  ·cases h
 | dat d' =>
  cases d' with
  | ins C' ns xs =>
   replace h : (if C' = C then ((ns.zip xs).lookup f).map Vl.dat else none) = some d := h
   split at h
   ·rename_i e
    subst e;obtain ⟨a, dx, vs, rfl, _, h4, l⟩ := r;cases q : (ns.zip xs).lookup f with
    | none => rw [q] at h; cases h
    | some d0 =>
     rw [q] at h;cases h;obtain ⟨u, h6, h7⟩ := EV l q;exact ⟨a, dx, _, u, rfl, h4, h6, h7⟩
   ·cases h
  | _ => cases h
 | cels ns => cases h
 | scr ns => cases h
 | tc _ => cases h
theorem eG (c : Cls X.K (He.ga X.K C)) (n : NoAttr X.K (He.ga X.K C) f) (ho : PE X o (cR X.K W mo)) (hb : attributeBase o f X.env (eval o X.env) = eval o X.env := by rfl) : PE X (.Attribute o f pos) (cR X.K W (gG C f mo)) := cW (e_fld c n ho hb) fun σ H Q h =>
 bZ (k := fun x _ S1 => match AH S1 C f x with | some d => .ok d S1 | none => .stuck) h fun B φ S ρ d v H1 I E r f' => by
  split at f'
  ·rename_i d' q
   obtain ⟨a, dx, fs, u, rfl, h1, h2, h3⟩ := Fx I r q;exact ⟨dx, fs, u, h1, h2, Fin.now f' I h3⟩
  ·exact f'.elim
def nN (f : Str) (v : Vl) : List (Str × Vl) -> List (Str × Vl)
 | [] => [(f, v)]
 | (g, x) :: r => if g = f then (g, v) :: r else (g, x) :: nN f v r
theorem RepF.put {d : Vl} {v : L2.V} (r : RepV K B φ S H d v) : ∀ {fs : List (Str × Vl)} {vs : List (Str × L2.V)}, RepF K B φ S H fs vs -> RepF K B φ S H (nN f d fs) (putF f v vs)
 | [], vs, h => by cases h; exact ⟨v, [], rfl, r, rfl⟩
 | (g, x) :: fs, vs, ⟨u, ws, e, h1, h2⟩ => by
  subst e;unfold nN putF;split
  ·exact ⟨v, ws, rfl, r, h2⟩
  ·exact ⟨u, _, rfl, h1, RepF.put r h2⟩
theorem RepF.len : ∀ {fs : List (Str × Vl)} {vs : List (Str × L2.V)}, RepF K B φ S H fs vs -> vs.length = fs.length
 | [], vs, h => by cases h; rfl
 | d :: ds, vs, ⟨v, ws, e, _, h2⟩ => by subst e; simp [RepF.len h2]
def Gc (S : aQ) (C f : Str) (x d : Vl) : Option aQ := match x with
 | .cel n => (match S[n]? with
  | some (.ins C' fs) => if C' = C /\ fs.length < 1000 then some (S.set n (.ins C (nN f d fs))) else none
  | _ => none)
 | _ => none
def uF (C f : Str) (o v : FE) : FS := fun ρ S => (v ρ S).toS ρ fun d S1 => (o ρ S1).toS ρ fun x S2 => match Gc S2 C f x d with
 | some S3 => .next ρ S3
 | none => .stuck
theorem oV {value : Expr} {mv : FE} (c : Cls X.K (He.ga X.K C)) (na : NoAttr X.K (He.ga X.K C) f) (ho : PE X o (cR X.K W mo)) (hv : PE X value (cR X.K W mv)) (hs : swapsWith value (some (.Attribute o f pos')) pos.line X.env = pure false := by rfl) : PS X (.Assign [.Attribute o f pos'] value pos) (mN X.K W (uF C f mo mv)) := hW (Qe c na ho hv hs) fun D σ H h => by
 obtain ⟨B, φ, S, ρ, I, E, f'⟩ := h;refine cJ I E f' fun φ1 S1 d1 v1 H1 I1 X1 E1 r1 f1 => cJ I1 E1 f1 fun φ2 S2 d2 v2 H2 I2 X2 E2 r2 f2 => ?_
 split at f2
 ·rename_i S3 q
  unfold Gc at q;split at q
  ·rename_i n
   obtain ⟨a, rfl, h1⟩ := r2;split at q
   ·rename_i C' fs q1
    split at q
    ·rename_i hc
     obtain ⟨e, hl⟩ := hc;subst e;cases q;obtain ⟨dx, vs, h4, h5⟩ := I2.ok n _ a q1 h1;have X3 := Ext.put (H := H2) (o := .ins (He.ga X.K C') dx (putF f v1 vs)) (x := .ins C' (nN f d1 fs)) q1 (by simp) h1 (by simp)
     have r1' := r1.ext X2 I1;refine ⟨dx, vs, h4, by rw [h5.len]; exact hl, f2 φ2 σ _ (I2.put q1 (by simp) h1 (by simp) ⟨dx, _, upd_same, (h5.put r1').ext X3 I2⟩) X3 (E2.ext X3 I2)⟩
    ·cases q
   ·cases q
  ·cases q
 ·exact f2.elim
end
section
variable {X : Cx} {W : WX} {e a b c o i : Expr} {es rest : List Expr} {pos p q p2 tpos apos cpos pos' : Pos} {x y z f mn : Str} {K : aD} {ma mb mc mo mx : FE} {mas : FA} {B : Addr -> Prop} {φ φ' : List Addr} {S S' : aQ} {H H' : Hp} {σ : L2.St} {Q : VK} {m n : FS} {D : Ends} {ps : List Str} {md : FD} {j k : Nat}
theorem JQ {C fA : Addr} {fd : FuncData} {sp : Sp} {CX : CXT} {E : L2.St -> XK} {pins : List (Addr × Obj)} {s : Shared} {us : List Value} {vs : List L2.V} (M : Mk X.K C fA) (F : FnOk X.prog X.w X.K X.mg X.base CX k fA fd ps sp) (hr : Room (k + 1) X.A) (hb : Binds X.K fd ps [])
  (hx : PassesAt CX X σ (E σ)) (I : Inv X pins σ H s) (r : Vals vs us)
  (h : ∀ x dx, H x = none -> H dx = none -> dx ≠ x -> sp (.ref x :: vs) (upd (upd H dx (.own x)) x (.ins C dx [])) (fun v H2 => v = .non /\ Q (.ref x) H2) (E σ)) :
  wpAny (model X.prog X.w) X.A (call (.ref C) us) (EP X pins σ Q) X.xe s := by
 have hq := h (s.heap.objs.size + 1) s.heap.objs.size (I.hok.fresh (Nat.le_succ _)) (I.hok.fresh (bS _)) (Nat.ne_of_lt (Nat.lt_succ_self _));have I2 := Inv.made (C := C) I;have r2 : Vals (V.ref (s.heap.objs.size + 1) :: vs) (Value.ref (s.heap.objs.size + 1) :: us) := .cons rfl r;have hl : (Value.ref (s.heap.objs.size + 1) :: us ++ []).length = ps.length := by
  have e := r2.length;rw [F.len _ _ _ _ hq] at e;rw [cS];exact e.symm
 have b := hb _ (Value.ref (s.heap.objs.size + 1) :: us) I2.kIn hl;rw [cS] at b;refine wpAny_call (make_map (f := fA) I.kIn M.makes M.init (beq_iff_eq.mp M.fn) (codeAny_mono (F.run _ X.stack _ _ ⟨Value.ref (s.heap.objs.size + 1) :: us, []⟩ (Value.ref (s.heap.objs.size + 1) :: us) _ _ (E σ) (hr.make C us [])
  (I2.env0.make C us []) b r2 hq) fun r s' hq' => ?_))
 cases r with
 | error e => exact hx pins _ _ e s' I2 hq'
 | ok fl =>
  cases fl with
  | ret u =>
   obtain ⟨v, H', I3, rv, ev, q3⟩ := I2.after hq';subst ev;exact ⟨rv, ⟨V.ref (s.heap.objs.size + 1), H', I3, rfl, q3⟩⟩
  | next => exact False.elim hq'
  | brk => exact False.elim hq'
  | cont => exact False.elim hq'
def DQ : List (Str × Vl) -> Option (List PH.D)
 | [] => some []
 | (_, .dat d) :: r => match DQ r with
  | some ds => some (d :: ds)
  | none => none
 | _ :: _ => none
theorem GL : ∀ {fs : List (Str × Vl)} {vs : List (Str × L2.V)} {ds : List PH.D}, DQ fs = some ds -> RepF K B φ S H fs vs -> ∃ ws, vs = (fs.map (·.1)).zip ws /\ RepL K (jU B φ S) H ds ws
 | [], vs, ds, h, r => by cases h; cases r; exact ⟨[], rfl, rfl⟩
 | (g, .dat d) :: fs, vs, ds, h, ⟨v, ws, e, h1, h2⟩ => by
  unfold DQ at h;cases q : DQ fs with
  | none => rw [q] at h; cases h
  | some es =>
   rw [q] at h;cases h;obtain ⟨us, e2, l⟩ := GL q h2;subst e e2;exact ⟨v :: us, rfl, v, us, rfl, h1, l⟩
 | (_, .cel _) :: fs, vs, ds, h, _ => by cases h
 | (_, .cels _) :: fs, vs, ds, h, _ => by cases h
 | (_, .scr _) :: fs, vs, ds, h, _ => by cases h
 | (_, .tc _) :: fs, vs, ds, h, _ => by cases h
def made (kp : Bool) (n : Nat) (r : Res Vl) : Res Vl := match r with
 | .ok (.dat .non) S => if kp then .ok (.cel n) S else (match S[n]? with
  | some (.ins C fs) => (match DQ fs with
   | some ds => if ((S.take n).all fun c => c.below n) then .ok (.dat (.ins C (fs.map (·.1)) ds)) (S.take n) else .stuck
   | none => .stuck)
  | _ => .stuck)
 | .err e S => if ((S.take n).all fun c => c.below n) then .err e (S.take n) else .stuck
 | _ => .stuck
def IJ (kp : Bool) (C : Str) (md : FD) (as : FA) : FE := fun ρ S => (as ρ S).bind fun ds S1 => made kp S1.length (md (.cel S1.length :: ds) (S1 ++ [.ins C []]))
theorem GN {n : Nat} {c : Cell} {a : Addr} (I : GInv K B φ S H) (hn : S[n]? = some c) (hc : c ≠ .dead) (ha : φ[n]? = some a) : ¬ jU B (φ.take n) (S.take n) a := fun q => by
 rcases q with q | ⟨m, c', h1, h2, h3⟩
 ·exact I.blk a ⟨n, c, hn, hc, ha⟩ q
 ·rw [eO] at h1 h3
  by_cases hm : m < n
  ·rw [if_pos hm] at h1 h3
   have := I.inj n m c c' a hn hc h1 h2 ha h3;omega
  ·rw [if_neg hm] at h1; cases h1
theorem Mb {kp : Bool} {C : Str} {ds : List Vl} {vs : List L2.V} (I : GInv K B φ S H) (r : RepVs K B φ S H ds vs) (f : Fin K W σ (RepV K) B φ S H (made kp S.length (md (.cel S.length :: ds) (S ++ [.ins C []]))) Q) :
  ∀ x dx, H x = none -> H dx = none -> dx ≠ x -> spF K md (.ref x :: vs) (upd (upd H dx (.own x)) x (.ins (He.ga K C) dx [])) (fun v H2 => v = .non /\ Q (.ref x) H2) (WE W σ) := fun x dx nx ndx ne => by
 have I1 := I.new (o := .own x) ndx;have X1 := Ext.new (o := .own x) I ndx;have nx1 : upd H dx (.own x) x = none := by rw [upd_ne (Ne.symm ne)]; exact nx
 have X2 := Ext.newC (o := .ins (He.ga K C) dx []) (x := .ins C []) I1 nx1;have I2 : GInv K B (φ ++ [x]) (S ++ [.ins C []]) (upd (upd H dx (.own x)) x (.ins (He.ga K C) dx [])) := I1.newC nx1 fun _ => ⟨dx, [], upd_same, rfl⟩
 have X12 := X1.trans X2;refine ⟨B, φ ++ [x], S ++ [.ins C []], .cel S.length :: ds, I2, ⟨_, _, rfl, ⟨x, rfl, by rw [<- I.len]; exact nU⟩, RepVs.ext X2 I1 (RepVs.ext X1 I r)⟩, ?_⟩
 have hφ : φ.length <= S.length := by rw [I.len]; exact bS _
 cases q : md (.cel S.length :: ds) (S ++ [.ins C []]) with
 | stuck => rw [q] at f; exact f
 | err e S' =>
  rw [q] at f;unfold made at f;dsimp only at f;split at f
  ·rename_i h
   intro φ' c y H' I' X' r';refine f (φ'.take S.length) c y H' (I'.take h) ((X12.trans X').take hφ) ⟨r'.1, ?_⟩
   rcases r'.2 with h0 | ⟨d, us, e1, e2, e3⟩
   ·exact .inl h0
   ·refine .inr ⟨d, us, e1, e2, RepL.kp ⟨fun b o h nb => ⟨h, fun q => nb (by
     rcases q with q | q
     ·exact .inl q
     ·exact .inr (kY q))⟩, fun _ _ h => h⟩ _ _ e3⟩
  ·exact f.elim
 | ok d S' =>
  rw [q] at f;intro φ' v H' I' X' r';unfold made at f;split at f
  ·rename_i S0 e
   cases e;cases r';refine ⟨rfl, ?_⟩
   have hx' : φ'[S.length]? = some x := X'.ids _ _ (by rw [<- I.len]; exact nU)
   split at f
   ·exact f φ' _ H' I' (X12.trans X') ⟨x, rfl, hx'⟩
   ·split at f
    ·rename_i C' fs q1
     split at f
     ·rename_i ds' q2
      split at f
      ·rename_i h
       obtain ⟨dx', vs', h4, h5⟩ := I'.ok _ _ _ q1 hx';obtain ⟨ws, e2, l⟩ := GL q2 h5;subst e2;refine f (φ'.take S.length) _ H' (I'.take h) ((X12.trans X').take hφ) ⟨x, dx', ws, rfl, GN I' q1 (by simp) hx', h4, RepL.kp ⟨fun b o h nb => ⟨h, fun q => nb (by
        rcases q with q | q
        ·exact .inl q
        ·exact .inr (kY q))⟩, fun _ _ h => h⟩ _ _ l⟩
      ·exact f.elim
     ·exact f.elim
    ·exact f.elim
  ·rename_i e; cases e
  ·exact f.elim
theorem Mg {kp : Bool} {C : Str} (T : ClF X.K X.mg C) (F : OkMX X.prog X.w X.K X.mg X.base j C "__init__" ps (spF X.K md)) (hr : Room k X.A) (tk : Takes X W) (ha : PA X (e :: es) (CN X.K W mas)) (hjk : j + 1 <= k := by decide) (hg : Gl X C := by rfl) (hdb : (C == ("__debug__" : Str)) = false := by decide)
  (he : starEach (e :: es) X.env = (false, eval e X.env) :: starEach es X.env := by rfl) (hpl : (backTo pos (starEach es X.env)).any (·.1) = false := by rfl) : PE X (.Call (.Name C p) (e :: es) [] pos) (cR X.K W (IJ kp C md mas)) := by
 obtain ⟨⟨fd, F, hb⟩, mt⟩ := F;refine ⟨fun pins s σ H Q I h => ?_⟩
 refine wpAny_Call_Name_kw (ld_glob I hg T.glo ?_ hdb)
 have h' : CN X.K W mas σ H fun vs H1 => ∀ x dx, H1 x = none -> H1 dx = none -> dx ≠ x -> spF X.K md (.ref x :: vs) (upd (upd H1 dx (.own x)) x (.ins (He.ga X.K C) dx [])) (fun v H2 => v = .non /\ Q (.ref x) H2) (WE W σ) :=
  bZ (k := fun ds _ S1 => made kp S1.length (md (.cel S1.length :: ds) (S1 ++ [.ins C []]))) h fun B φ S ρ d v H1 I E r f => Mb I r f
 refine wU (h₀ := X.base) I.ok.mod.kin T.mak.kp (thn (ha.run pos pins s σ H _ I h') fun us s1 ⟨vs, H1, I1, r, q⟩ => ⟨I1.kIn, ?_⟩) he hpl
 exact JQ (E := WE W) T.mak F (hr.mono hjk) hb (passAt tk σ) I1 r q
def zP (cls : Str) : FS := fun ρ S => .err ⟨cls, [], []⟩ ρ S
theorem yH (F : XcF X.K X.mg x) (tk : Takes X W) (hc : X.calm = true := by rfl) (hg : Gl X x := by rfl) (hdb : (x == ("__debug__" : Str)) = false := by decide) : PS X (.Raise (some (.Call (.Name x p) [] [] pos)) none pos') (mN X.K W (zP x)) := hW (Nx F tk hc hg hdb) fun D σ H h => by
 obtain ⟨B, φ, S, ρ, I, E, f⟩ := h;exact f φ σ _ _ H I Ext.refl E ⟨rfl, .inl ⟨rfl, rfl⟩⟩
end
def QZ (C : Addr) (f : Str) : Sp := fun vs H Q _ => ∃ a y, vs = [.ref a, y] /\ H a = some (exo a C none) /\ ∀ dx, H dx = none -> dx ≠ a -> Q .non (upd (upd H dx (exd dx [(f, y)])) a (exo a C (some dx)))
def QY (C : Addr) (f g : Str) : Sp := fun vs H Q _ => ∃ a y z, vs = [.ref a, y, z] /\ H a = some (exo a C none) /\ ∀ dx, H dx = none -> dx ≠ a -> Q .non (upd (upd (upd H dx (exd dx [(f, y)])) a (exo a C (some dx))) dx (exd dx [(g, z), (f, y)]))
structure XcA (P : Program) (w : World) (K : aD) (mg : Str -> Option Value) (base : Heap) (k : Nat) (x : Str) (ps : List Str) (sp : Sp) : Prop where
 cls : OexC K (He.ga K x)
 ini : mJ K (.ref (He.ga K x)) "__init__" = some (some (.ref (He.ma K (He.ga K x) "__init__")))
 ty : mI K (.ref (He.ma K (He.ga K x) "__init__")) = some (.type "function")
 fn : ∃ fd, FnOk P w K mg base CX0 k (He.ma K (He.ga K x) "__init__") fd ps sp /\ Binds K fd ps []
 glo : mg x = some (.ref (He.ga K x))
section
variable {X : Cx} {W : WX} {e : Expr} {es : List Expr} {pos p pos' : Pos} {x f g : Str} {K : aD} {mas : FA} {B : Addr -> Prop} {φ φ' : List Addr} {S S' : aQ} {H H' : Hp} {σ : L2.St} {ps : List Str} {j k : Nat}
def lP (cls : Str) (ns : List Str) (as : FA) : FS := fun ρ S => (as ρ S).toS ρ fun xs S1 => match wN xs with
 | some ds => if ds.length = ns.length then .err ⟨cls, ns, ds.reverse⟩ ρ S1 else .stuck
 | none => .stuck
theorem rN (F : XcA X.prog X.w X.K X.mg X.base j x ps (QZ (He.ga X.K x) f)) (hr : Room k X.A) (tk : Takes X W) (ha : PA X (e :: es) (CN X.K W mas)) (hjk : j + 1 <= k := by decide) (hc : X.calm = true := by rfl) (hg : Gl X x := by rfl) (hdb : (x == ("__debug__" : Str)) = false := by decide)
  (he : starEach (e :: es) X.env = (false, eval e X.env) :: starEach es X.env := by rfl) (hpl : (backTo pos (starEach es X.env)).any (·.1) = false := by rfl) : PS X (.Raise (some (.Call (.Name x p) (e :: es) [] pos)) none pos') (mN X.K W (lP x [f] mas)) := by
 obtain ⟨fd, F1, hb⟩ := F.fn;refine hW (ps_raise hc tk (pmk_oex F.cls F.ini F.ty F1 (hr.mono hjk) hb .nil (fun _ _ _ _ _ _ _ h => h.elim) hg F.glo ha hdb he hpl)) fun D σ H h => ?_
 obtain ⟨B, φ, S, ρ, I, E, f'⟩ := h;refine cJ I E f' fun φ1 S1 ds vs H1 I1 X1 E1 r f1 => ?_
 split at f1
 ·rename_i xs q
  have l := yX q r;split at f1
  ·rename_i hl
   match xs, hl with
   | [d], _ =>
    obtain ⟨v, ws, rfl, h1, h2⟩ := l;cases h2;refine ⟨by simp, fun a na => ⟨a, v, rfl, upd_same, fun dx ndx ne => ⟨rfl, dx, [(f, v)], upd_same, ?_, ?_, ?_⟩⟩⟩
    ·rw [upd_ne ne, upd_same]
    ·rw [upd_ne ne] at ndx; exact ndx
    ·have n1 : H1 dx = none := by rw [upd_ne ne] at ndx; exact ndx
     have eH : (upd (del (upd (upd (upd H1 a (exo a (He.ga X.K x) none)) dx (exd dx [(f, v)])) a (exo a (He.ga X.K x) (some dx))) a) dx (.xd [(f, v)])) = upd H1 dx (.xd [(f, v)]) := by
      funext b
      unfold upd del
      by_cases hb : b = dx
      ·rw [if_pos hb, if_pos hb]
      ·rw [if_neg hb, if_neg hb]
       by_cases hba : b = a
       ·rw [if_pos hba, hba]; exact na.symm
       ·rw [if_neg hba]; simp only [if_neg hba, if_neg hb]
     rw [eH];have X2 := Ext.new (o := .xd [(f, v)]) I1 n1;exact f1 φ1 σ _ _ _ (I1.new n1) X2 (E1.ext X2 I1) ⟨rfl, .inr ⟨dx, [v], rfl, upd_same, v, [], rfl, Rep.kp (X2.kp I1) _ _ h1, rfl⟩⟩
  ·exact f1.elim
 ·exact f1.elim
theorem zY (F : XcA X.prog X.w X.K X.mg X.base j x ps (QY (He.ga X.K x) f g)) (hr : Room k X.A) (tk : Takes X W) (ha : PA X (e :: es) (CN X.K W mas)) (hjk : j + 1 <= k := by decide) (hc : X.calm = true := by rfl) (hg : Gl X x := by rfl) (hdb : (x == ("__debug__" : Str)) = false := by decide)
  (he : starEach (e :: es) X.env = (false, eval e X.env) :: starEach es X.env := by rfl) (hpl : (backTo pos (starEach es X.env)).any (·.1) = false := by rfl) : PS X (.Raise (some (.Call (.Name x p) (e :: es) [] pos)) none pos') (mN X.K W (lP x [g, f] mas)) := by
 obtain ⟨fd, F1, hb⟩ := F.fn;refine hW (ps_raise hc tk (pmk_oex F.cls F.ini F.ty F1 (hr.mono hjk) hb .nil (fun _ _ _ _ _ _ _ h => h.elim) hg F.glo ha hdb he hpl)) fun D σ H h => ?_
 obtain ⟨B, φ, S, ρ, I, E, f'⟩ := h;refine cJ I E f' fun φ1 S1 ds vs H1 I1 X1 E1 r f1 => ?_
 split at f1
 ·rename_i xs q
  have l := yX q r;split at f1
  ·rename_i hl
   match xs, hl with
   | [d, d2], _ =>
    obtain ⟨v, ws, rfl, h1, u, ws', rfl, h2, h3⟩ := l;cases h3;refine ⟨by simp, fun a na => ⟨a, v, u, rfl, upd_same, fun dx ndx ne => ⟨rfl, dx, [(g, u), (f, v)], ?_, upd_same, ?_, ?_⟩⟩⟩
    ·rw [upd_ne (Ne.symm ne), upd_same]
    ·rw [upd_ne ne] at ndx; exact ndx
    ·have n1 : H1 dx = none := by rw [upd_ne ne] at ndx; exact ndx
     have eH : (upd (del (upd (upd (upd (upd H1 a (exo a (He.ga X.K x) none)) dx (exd dx [(f, v)])) a (exo a (He.ga X.K x) (some dx))) dx (exd dx [(g, u), (f, v)])) a) dx (.xd [(g, u), (f, v)])) = upd H1 dx (.xd [(g, u), (f, v)]) := by
      funext b
      unfold upd del
      by_cases hb : b = dx
      ·rw [if_pos hb, if_pos hb]
      ·rw [if_neg hb, if_neg hb]
       by_cases hba : b = a
       ·rw [if_pos hba, hba]; exact na.symm
       ·rw [if_neg hba]; simp only [if_neg hba, if_neg hb]
     rw [eH];have X2 := Ext.new (o := .xd [(g, u), (f, v)]) I1 n1;exact f1 φ1 σ _ _ _ (I1.new n1) X2 (E1.ext X2 I1) ⟨rfl, .inr ⟨dx, [u, v], rfl, upd_same, u, [v], rfl, Rep.kp (X2.kp I1) _ _ h2, v, [], rfl, Rep.kp (X2.kp I1) _ _ h1, rfl⟩⟩
  ·exact f1.elim
 ·exact f1.elim
end
section
variable {X : Cx} {W : WX} {e a b c o i : Expr} {es rest : List Expr} {pos p q p2 tpos apos cpos pos' np : Pos} {x y z f mn : Str} {K : aD} {ma mb mc mo mx : FE} {mas : FA} {B : Addr -> Prop} {φ φ' : List Addr} {S S' : aQ} {H H' : Hp} {σ : L2.St} {Q : VK} {m n : FS} {D : Ends} {cs : List Str}
def handle (cs : List Str) : List (Str × FS) -> Er -> Ev -> aQ -> Out
 | [], e, ρ, S => .err e ρ S
 | (c, m) :: r, e, ρ, S => if e.cls = c then (match m ρ S with
   | .err _ _ _ => .stuck
   | o => o) else handle cs r e ρ S
inductive XIt where
 | c (v : L2.V) (d : PH.D) | f (n : Str)
def itR (a : Addr) (cls : Value) (d : Option Addr) (C : Addr) (i : Nat) : List XIt -> TA
 | [] => tNil
 | .c v _ :: r => tCons (tC v) (itR a cls d C i r)
 | .f n :: r => tCons (tXf a cls d C n (EE i)) (itR a cls d C i r)
def itF (e : Er) : List XIt -> Option (List PH.D)
 | [] => some []
 | .c _ d :: r => match itF e r with
  | some ds => some (d :: ds)
  | none => none
 | .f n :: r => match (e.ns.zip e.xs).lookup n, itF e r with
  | some d, some ds => some (d :: ds)
  | _, _ => none
def Q2 (cs : List Str) (m : FS) (c : Str) (k : Nat) (its : List XIt) : FS := fun ρ S => match m ρ S with
 | .err e ρ' S' => if (e.cls ∈ cs /\ c ∈ cs) /\ k < ρ'.length then (if e.cls = c then (match itF e its with
   | some ds => if ds.length <= sizeLine then .ret (.dat (.tup ds)) S' else .stuck
   | none => .stuck) else .err e ρ' S') else .stuck
 | o => o
end
structure Lim (K : aD) : Prop where
 pos : ∀ z m lo hi, limits.lookup z = some (m, lo, hi) -> jW K (He.ga K "LIMITS") z = some (some (.ref (FX K z))) /\ ∀ H, SqT K H (FX K z) [.int (m : Nat), .int lo, .int hi]
 neg : ∀ z, limits.lookup z = none -> jW K (He.ga K "LIMITS") z = some none
section
variable {X : Cx} {W : WX} {e a b c o i : Expr} {es rest : List Expr} {pos p q p2 tpos apos cpos pos' np : Pos} {x y z f mn C : Str} {K : aD} {ma mb mc mo mx : FE} {mas : FA} {B : Addr -> Prop} {φ φ' : List Addr} {S S' : aQ} {H H' : Hp} {σ : L2.St} {Q : VK} {m n : FS} {D : Ends} {ps : List Str} {md : FD} {j k : Nat}
def gO (neg : Bool) (x : Vl) (S : aQ) : Res Vl := match x with
 | .dat (.str z) => .ok (.dat (.bl (if neg then (limits.lookup z).isNone else (limits.lookup z).isSome))) S
 | _ => .stuck
def A2 (x : Vl) (S : aQ) : Res Vl := match x with
 | .dat (.str z) => (match limits.lookup z with
  | some (m, lo, hi) => .ok (.dat (.tup [.int (m : Nat), .int lo, .int hi])) S
  | none => .stuck)
 | _ => .stuck
theorem Kr (L : Lim K) {x : L2.V} {d : Vl} (I : GInv K B φ S H) (r : RepV K B φ S H d x) (f : Fin K W σ (RepV K) B φ S H (gO true d S) Q) : QO K (He.ga K "LIMITS") true x (.ref (He.ga K "LIMITS")) H Q := by
 unfold gO at f;split at f
 ·rename_i z
  cases r;cases q : limits.lookup z with
  | none =>
   refine ⟨rfl, none, L.neg z q, ?_⟩
   rw [q] at f;exact Fin.now f I rfl
  | some t =>
   obtain ⟨m, lo, hi⟩ := t;refine ⟨rfl, _, (L.pos z m lo hi q).1, ?_⟩
   rw [q] at f;exact Fin.now f I rfl
 ·exact f.elim
theorem Jw {py : Pos} (L : Lim X.K) (D : ∃ es n, KDict X.K X.w (He.ga X.K "LIMITS") es n) (g : X.mg "LIMITS" = some (.ref (He.ga X.K "LIMITS"))) (ha : PE X a (cR X.K W ma)) (hg : Gl X "LIMITS" := by rfl) (hm : behindInMarks .NotIn (.Name "LIMITS" py) = false := by rfl) : PT X (.Compare a [.NotIn] [.Name "LIMITS" py] pos) (vF X.K W (mB (m1 (gO true) ma))) :=
 CC (Pn (Df D) ha (pe_glob (v := .ref (He.ga X.K "LIMITS")) hg g rfl) hm) fun σ H Q h => bZ (k := fun x _ S => gO true x S) (Km h) fun B φ S ρ d v H1 I E r f => Kr L I r f
theorem f_lim {py : Pos} (L : Lim X.K) (D : ∃ es n, KDict X.K X.w (He.ga X.K "LIMITS") es n) (g : X.mg "LIMITS" = some (.ref (He.ga X.K "LIMITS"))) (ha : PE X a (cR X.K W ma)) (hg : Gl X "LIMITS" := by rfl) (hs : PlainIx a := by intro _ _; rfl) : PE X (.Subscript (.Name "LIMITS" py) a pos) (cR X.K W (m1 A2 ma)) :=
 cW (pe_ix (RP D) (pe_glob (v := .ref (He.ga X.K "LIMITS")) hg g rfl) ha hs) fun σ H Q h => bZ (k := fun x _ S => A2 x S) h fun B φ S ρ d v H1 I E r f => by
  unfold A2 at f;split at f
  ·rename_i z
   cases r;split at f
   ·rename_i m lo hi q
    obtain ⟨h1, h2⟩ := L.pos z m lo hi q;exact ⟨rfl, _, .ref (FX X.K z), h1, rfl, Fin.now f I ⟨_, _, rfl, h2 H1, _, _, rfl, rfl, _, _, rfl, rfl, _, _, rfl, rfl, rfl⟩⟩
   ·exact f.elim
  ·exact f.elim
theorem K7 {sp : Sp} (F : OkMX X.prog X.w X.K X.mg X.base j C "__len__" ps sp) (hr : Room (j + 1) X.A) : CallR X (.builtin "len") (c1 (rLenO (He.ga X.K C) sp E0)) := by
 intro pins s σ H xs us Q I r h;obtain ⟨⟨fd, F, hb⟩, mt⟩ := F
 match xs, h with
 | [x], h =>
  cases x with
  | ref a =>
   obtain ⟨dx, fs, ha, h⟩ := h;cases r with
   | cons r1 r2 =>
    cases r1;cases r2;obtain ⟨mA, J, _⟩ := ins_get I.hok ha;obtain ⟨od, J, _⟩ := J.look;obtain ⟨fm, hF⟩ := I.fr;refine PySem.W.len_K hF I.ok.mod.kin J mt.at_ mt.fn ?_
    have e := I.env0;have hl := F.len _ _ _ _ h;have b := hb s [.ref a] I.kIn (by simpa using hl)
    have run := F.run X.A.in1 X.stack s H ⟨[.ref a], []⟩ [.ref a] [.ref a] _ E0 hr.in1 ⟨e.frames, e.mod, e.bs, e.bsz, e.funs, e.frf, e.hok, e.bare⟩ (by simpa using b) (.cons rfl .nil) h
    refine wpAny_call (codeAny_mono run fun q s' hq => ?_)
    cases q with
    | error e => obtain ⟨_, _, _, _, _, _, _, _, _, _, _, _, z⟩ := hq; exact z.elim
    | ok fl =>
     cases fl with
     | ret w =>
      obtain ⟨z, H', I', rz, hz⟩ := I.after hq;cases z with
      | int n =>
       obtain ⟨tk, rfl⟩ := rz;exact ⟨⟨hz.1.1, by have := hz.1.2; omega⟩, .int n, H', I'.tok _, ⟨_, rfl⟩, hz.2⟩
      | _ => exact hz.elim
     | next => exact False.elim hq
     | brk => exact False.elim hq
     | cont => exact False.elim hq
  | _ => exact h.elim
def RF (r : Res Vl) : Res Vl := match r with
 | .ok (.dat (.int n)) S => if 0 <= n /\ n < 2 ^ 62 then .ok (.dat (.int n)) S else .stuck
 | _ => .stuck
def DA (C : Str) (md : FD) (x : Vl) (S : aQ) : Res Vl := if pM S C "__len__" x = true then RF (md [x] S) else .stuck
theorem SO (hm : X.mg "len" = none) (F : OkMX X.prog X.w X.K X.mg X.base j C "__len__" ps (spF X.K md)) (hr : Room k X.A) (ha : PE X a (cR X.K W ma)) (hjk : j + 1 <= k := by decide) (hg : Gl X "len" := by rfl) (hs : starEach [a] X.env = [(false, eval a X.env)] := by rfl) : PE X (.Call (.Name "len" p) [a] [] pos) (cR X.K W (m1 (DA C md) ma)) :=
 cW (pe_callB (K7 F (hr.mono hjk)) hg hm boot_len (pa_cons ha pa_nil hs) (he := hs)) fun σ H Q h => bZ (k := fun x _ S => DA C md x S) h fun B φ S ρ d v H1 I E r f => by
  unfold DA at f;split at f
  ·rename_i hi
   obtain ⟨a, dx, fs, rfl, h1, h2⟩ := HG I r hi;refine ⟨dx, fs, h1, B, φ, S, [d], I, ⟨_, _, rfl, r, rfl⟩, ?_⟩
   unfold RF at f;split at f
   ·rename_i n S' q
    rw [q];split at f
    ·rename_i hn
     intro φ' v H' I' X' r';cases r';exact ⟨hn, f φ' _ H' I' X' rfl⟩
    ·exact f.elim
   ·exact f.elim
  ·exact f.elim
def N4 (r : Res Vl) : Res Vl := match r with
 | .ok (.dat (.bl n)) S => .ok (.dat (.bl n)) S
 | _ => .stuck
theorem E6 {n : Int} {x : Str} (h : ∃ t, X.mg x = some (.int n t)) (hg : Gl X x := by rfl) (hd : (x == ("__debug__" : Str)) = false := by decide) : PE X (.Name x pos) (cR X.K W (mC (.int n))) := Me (SW h hg hd) fun _ _ => rfl
end
section
variable {P : Program} {w : World} {K : aD} {mg : Str -> Option Value} {base : Heap}
def zE : FD := fun _ _ => .stuck
theorem xP {x : Str} {st : Stmt} {N ps : List Str} {k : Nat} (F : rB K x st) (g : mg x = some (.ref (He.ga K x))) (S : FnScope N ps (defScope st))
  (bnd : ∀ (kV doc pm : Value) (an : Option Addr) (cdv ct : Value) (us : List Value), us.length = ps.length -> bindArgs (dC x x (defArgs st) (defBody st) (defScope st) .none kV doc pm an cdv ct) ⟨us, []⟩ = pure (ps.zip us)) : sX P w K mg base (k + 1) x ps (spF K zE) :=
 LG F g S (fun vs H Q E ⟨_, _, _, _, _, _, f⟩ => f.elim) bnd fun cdv A outer s H vs Q E hr ⟨_, _, _, _, _, _, f⟩ => f.elim
end
theorem J7 {K : aD} {a : Addr} {vs : List V} (h : GZ K a vs = true) (H : Hp) : SqT K H a vs := by
 unfold GZ at h;cases q : K.lookup a with
 | none => rw [q] at h; cases h
 | some o =>
  obtain ⟨oc, od, dt, osl⟩ := o;rw [q] at h;cases oc with
  | type c =>
   cases dt with
   | seq its n =>
    obtain ⟨h1, h2⟩ := He.ba (show (decide (c = "tuple") && (decide (its.size <= sizeLine) && He.relAll vs its.toList)) = true from h)
    obtain ⟨h3, h4⟩ := He.ba h2;exact .inr ⟨_, its, n, q, congrArg Value.type (of_decide_eq_true h1), rfl, of_decide_eq_true h3, He.relAll_ok h4⟩
   | _ => cases h
  | _ => cases dt <;> cases h
theorem KD {fa : List He.Fa} {fn : List He.DefD} {ts : List He.Tab} {w : World} {K : aD} (c : He.SaysT fa fn ts w K) (i : Nat) {t : He.Tab} (h : ts[i]? = some t := by rfl) : He.dicW K (t.1 K) = some (He.keysIn w.params t.2) := by
 have e : ts.map (fun t => He.dicW K (t.1 K)) = ts.map fun t => some (He.keysIn w.params t.2) := congrArg (fun z : He.AlT => z.2) c
 have e2 : (ts.map fun t => He.dicW K (t.1 K))[i]? = (ts.map fun t => some (He.keysIn w.params t.2))[i]? := by rw [e]
 rw [bT, bT, h] at e2;exact Option.some.inj e2
theorem Cy {P : Params} {z : Str} : ∀ {l : List DictEntry} {ks : List Str}, l.map He.keyOf = He.keysIn P ks -> z ∉ ks -> (l.find? (·.key.isStr z) = none) /\ l.any (·.refKey) = false
 | [], _, _, _ => ⟨rfl, rfl⟩
 | e :: r, [], h, _ => by cases h
 | e :: r, k :: ks, h, hz => by
  have h1 : He.keyOf e :: r.map He.keyOf = some (k, PyData.keyHash P k) :: He.keysIn P ks := h
  injection h1 with h2 h3
  obtain ⟨i1, i2⟩ := Cy h3 (fun m => hz (aL _ m))
  unfold He.keyOf at h2;split at h2
  ·rename_i x t q
   obtain ⟨h5, h6⟩ := Prod.mk.inj (Option.some.inj h2);have nz : e.key.isStr z = false := by
    rw [q]
    show decide (x = z) = false
    exact decide_eq_false fun e => hz (by rw [<- e, h5]; exact aY ..)
   constructor
   ·rw [List.find?_cons, nz]; exact i1
   ·rw [zB, i2, GU]
    show e.refKey = false
    unfold DictEntry.refKey;rw [q]
  ·cases h2
theorem Ja {K : aD} {P : Params} {a : Addr} {ks : List Str} {z : Str} (h : He.dicW K a = some (He.keysIn P ks)) (hz : z ∉ ks) : jW K a z = some none := by
 unfold He.dicW at h;cases q : K.lookup a with
 | none => rw [q] at h; cases h
 | some o =>
  obtain ⟨oc, od, dt, osl⟩ := o;rw [q] at h;cases oc with
  | type c =>
   cases od with
   | none =>
    cases dt with
    | dict es n =>
     have h1 : (match decide (c = "dict") && (osl.isEmpty && !(a == sysModules)) with
      | true => some (es.toList.map He.keyOf)
      | false => none) = some (He.keysIn P ks) := h
     cases y : decide (c = "dict") && (osl.isEmpty && !(a == sysModules)) with
     | false => rw [y] at h1; cases h1
     | true =>
      rw [y] at h1;obtain ⟨i1, i2⟩ := Cy (Option.some.inj h1) hz;unfold jW;rw [q]
      show (match es.toList.find? (·.key.isStr z) with | some e => some (some e.val) | none => if es.toList.any (·.refKey) then none else some none) = some none
      rw [i1, i2];rfl
    | _ => cases h
   | some b => cases dt <;> cases h
  | _ => cases od <;> cases dt <;> cases h
theorem AE {κ β : Type} [BEq κ] [LawfulBEq κ] {z : κ} {v : β} : ∀ {l : List (κ × β)}, l.lookup z = some v -> (z, v) ∈ l
 | [], h => by cases h
 | (k, u) :: r, h => by
  rw [eP] at h;cases e : z == k with
  | true =>
   rw [e] at h;have e2 : z = k := eq_of_beq e;have e3 : u = v := Option.some.inj h;rw [e2, e3];exact aY ..
  | false =>
   rw [e] at h;exact aL _ (AE h)
theorem lookup_none {κ β : Type} [BEq κ] [LawfulBEq κ] {z : κ} : ∀ {l : List (κ × β)}, l.lookup z = none -> z ∉ l.map (·.1)
 | [], _ => by simp
 | (k, u) :: r, h => by
  rw [eP] at h;cases e : z == k with
  | true => rw [e] at h; cases h
  | false =>
   rw [e] at h;have ne : z ≠ k := by simpa using e
   intro m;rcases bH.mp m with m | m
   ·exact ne m
   ·exact lookup_none h m
theorem RD {K : aD} {P : Params} (h : limB K = true) (d : He.dicW K (He.ga K "LIMITS") = some (He.keysIn P (limits.map (·.1)))) : Lim K where
 pos := fun z m lo hi e => by
  obtain ⟨h1, h2⟩ := He.ba (cF.mp h (z, m, lo, hi) (AE e));exact ⟨He.eqO_ok h1, J7 h2⟩
 neg := fun z e => Ja d (lookup_none e)
theorem law_start {K : aD} {md : FD} {n : Nat} (h : ∀ ns : List Int, ns.length <= n -> ∃ S, md [.scr ns] [] = .ok (.dat (.bl true)) S) (H : Hp) (a : Addr) (ns : List Int) (hl : ns.length <= n) (hO : Only H) (hS : SqL K H a (ns.map V.int)) : spF K md [.ref a] H (fun v _ => v = .bl true) fun _ _ _ => False := by
 obtain ⟨S, e⟩ := h ns hl;refine ⟨fun _ => False, [], [], [.scr ns], ⟨rfl, fun n c a h => by simp at h, fun n m c c' a h => by simp at h, fun a ⟨n, c, h, _⟩ => by simp at h, fun a h => h.elim⟩, ⟨_, _, rfl, ⟨a, rfl, ?_⟩, rfl⟩, ?_⟩
 ·rcases hS with (h | ⟨o, h⟩) | h
  ·rcases hO a with q | ⟨o, xs, q⟩
   ·rw [h] at q; cases q
   ·rw [h] at q; cases q
  ·exact .inl ⟨o, h⟩
  ·exact .inr (.inr h)
 ·rw [e]
  exact fun φ' v H' _ _ r => r
theorem O1 {K : aD} {C : Addr} (q : Qv K C = true) : ∃ nm q N bs bm sn sub ab col dd k0 k1 k2 k3 k5, K.lookup C = some (excClassObj nm q C N bs bm true sn sub ab col dd k0 k1 k2 k3 k5 "ValueError.__new__") /\ PySem.HandSPX.refsVE bm = true := by
 unfold Qv at q;split at q
 ·rename_i dd cd sl ho
  split at q
  ·rename_i C' bm k0 k1 k2 k3 n k5 hm hs
   simp only [iO, beq_iff_eq, Bool.not_eq_true'] at q;obtain ⟨⟨⟨⟨rfl, rfl⟩, hdel⟩, hdi⟩, hbm⟩ := q;obtain ⟨nm, bs, mro, ns, qn, hd, sn, sub, ab, col, del⟩ := cd;dsimp only at hm hdel hdi;subst hm hdel hdi;have hsl : sl = #[k0, k1, k2, k3, some (.builtin "ValueError.__new__"), k5] := by
    obtain ⟨l⟩ := sl;simp only at hs;rw [hs]
   subst hsl;exact ⟨nm, qn, ns, bs, bm, sn, sub, ab, col, dd, k0, k1, k2, k3, k5, ho, hbm⟩
  ·cases q
 ·cases q
structure XaF (K : aD) (mg : Str -> Option Value) (x : Str) (fs : List Str) : Prop where
 cls : OexC K (He.ga K x)
 ini : mJ K (.ref (He.ga K x)) "__init__" = some (some (.ref (He.ma K (He.ga K x) "__init__")))
 ty : mI K (.ref (He.ma K (He.ga K x) "__init__")) = some (.type "function")
 glo : mg x = some (.ref (He.ga K x))
 rd : XfC K (He.ga K x)
 no : ∀ f ∈ fs, mJ K (.ref (He.ga K x)) f = some none
theorem KO {K : aD} {mg : Str -> Option Value} {x : Str} {fs : List Str} (h : xaB K x fs = true) (g : mg x = some (.ref (He.ga K x))) : XaF K mg x fs := by
 obtain ⟨h1, h⟩ := He.ba h;obtain ⟨h2, h⟩ := He.ba h;obtain ⟨h3, h⟩ := He.ba h;obtain ⟨h4, h⟩ := He.ba h;obtain ⟨h5, h⟩ := He.ba h;obtain ⟨h6, h⟩ := He.ba h;obtain ⟨h7, h⟩ := He.ba h;obtain ⟨h8, h9⟩ := He.ba h;exact ⟨⟨O1 h1, of_decide_eq_true h2, of_decide_eq_true h3, of_decide_eq_true h4, h5⟩, of_decide_eq_true h6, of_decide_eq_true h7, g, xfB_ok h8, fun f hf => of_decide_eq_true (cF.mp h9 f hf)⟩
section
variable {P : Program} {w : World} {K : aD} {mg : Str -> Option Value} {base : Heap}
theorem Kg {C : Addr} {f a b : Str} : ∀ vs H Q E, QZ C f vs H Q E -> vs.length = [a, b].length := fun vs H Q E ⟨_, _, e, _⟩ => by rw [e]; rfl
theorem Kf {C : Addr} {f g a b c : Str} : ∀ vs H Q E, QY C f g vs H Q E -> vs.length = [a, b, c].length := fun vs H Q E ⟨_, _, _, e, _⟩ => by rw [e]; rfl
theorem LH {x m q : Str} {fs : List Str} {st : Stmt} {N ps : List Str} {k : Nat} {sp : Sp} (T : XaF K mg x fs) (F : GW K x "__init__" q st) (S : FnScope N ps (defScope st)) (len : ∀ vs H Q E, sp vs H Q E -> vs.length = ps.length)
  (bnd : ∀ (kV doc pm : Value) (an : Option Addr) (cdv ct : Value) (us : List Value), us.length = ps.length -> bindArgs (dC "__init__" q (defArgs st) (defBody st) (defScope st) .none kV doc pm an cdv ct) ⟨us, []⟩ = pure (ps.zip us))
  (hbody : ∀ (cdv : Value) (A : Around) (outer : List Env) (s : Shared) (H : Hp) (vs : List V) (Q : VK) (E : XK), Room k (A.deeper (envOfC q (defScope st) s.heap.objs.size (He.ma K (He.ga K x) "__init__") cdv)) -> sp vs H Q E ->
   ∃ t, PSs (cxOf CX0 P w K mg base N q (defScope st) (He.ma K (He.ga K x) "__init__") cdv A outer s H E).nox (defBody st) t /\ t { nx := fun _ H' => Q .non H', rt := Q } (start N vs) H) : XcA P w K mg base (k + 1) x ps sp := by
 obtain ⟨fd, F⟩ := F;refine ⟨T.cls, T.ini, T.ty, ⟨fd, FunD.ok F S len fun cdv A outer s H vs Q E hr hsp => ?_, F.bindsN bnd⟩, T.glo⟩
 obtain ⟨t, h, q⟩ := hbody cdv A outer s H vs Q E hr hsp;exact ⟨t, h.nox, q⟩
end
section
variable {X : Cx} {W : WX} {e a b c o i : Expr} {es rest : List Expr} {pos p q p2 tpos apos cpos pos' np : Pos} {x y z f mn C : Str} {K : aD} {ma mb mc mo mx : FE} {mas : FA} {B : Addr -> Prop} {φ φ' : List Addr} {S S' : aQ} {H H' : Hp} {σ : L2.St} {Q : VK} {m n : FS} {D : Ends} {ps : List Str} {md : FD} {j k : Nat}
theorem SH {i j : Nat} {px py pt : Pos} {kt k2 pt2} (hc : X.calm = true) (hN : X.N.Nodup) (hi : X.N[i]? = some x) (hj : X.N[j]? = some y) (hij : i ≠ j)
  (hx : X.env.scope.names.lookup x = some .local) (hy : X.env.scope.names.lookup y = some .local) (ha : PE X a (cR X.K W ma)) (hb : PE X b (cR X.K W mb))
  (hw : swappedStores [.Tuple [.Name x px, .Name y py] kt pt] (.Tuple [a, b] k2 pt2) X.env = pure (some [x, y]))
  (hs : swapsWithSole [.Tuple [.Name x px, .Name y py] kt pt] (.Tuple [a, b] k2 pt2) pos.line X.env = pure false := by rfl) (h1 : starEach [a, b] X.env = (false, eval a X.env) :: starEach [b] X.env := by rfl) (h2 : starEach [b] X.env = (false, eval b X.env) :: starEach [] X.env := by rfl) :
  PS X (.Assign [.Tuple [.Name x px, .Name y py] kt pt] (.Tuple [a, b] k2 pt2) pos) (mN X.K W (mPar i j ma mb)) := hW (ps_par hc hN hi hj hij hx hy (pa_cons ha (pa_cons hb pa_nil h2) h1) hw hs) fun D σ H h => by
 obtain ⟨B, φ, S, ρ, I, E, f⟩ := h;exact cJ I E f fun φ1 S1 d1 v1 H1 I1 X1 E1 r1 f1 => cJ I1 E1 f1 fun φ2 S2 d2 v2 H2 I2 X2 E2 r2 f2 => ⟨_, _, rfl, f2 φ2 _ H2 I2 Ext.refl ((E2.set (r1.ext X2 I1) i).set r2 j)⟩
def Pq (n : Nat) : List PH.D := (aP n).map fun (k : Nat) => PH.D.int (((n : Nat) : Int) - 1 - (k : Int))
def R5 (a : FE) : FI := fun ρ S => (a ρ S).bind fun x S1 => match x with
 | .dat (.int j) => if -(2 ^ 62) <= j /\ j < 2 ^ 62 then .ok (Pq j.toNat) S1 else .stuck
 | _ => .stuck
end
theorem rd_X1 {K : aD} {mg : Str -> Option Value} {x f : Str} {fs : List Str} {a : Addr} {y : V} {H : Hp} {Q : VK} {D : Ends} (T : XaF K mg x fs) (hf : f ∈ fs) (ha : H a = some (exo a (He.ga K x) none)) (hD : ∀ σ H, D.nx σ H = Q .non H) (h : ∀ dx, H dx = none -> dx ≠ a -> Q .non (upd (upd H dx (exd dx [(f, y)])) a (exo a (He.ga K x) (some dx)))) :
  tOst K f (EE 0) (EE 1) D [some (.ref a), some y] H := ⟨a, He.ga K x, rfl, T.cls, T.no f hf, .inl ⟨ha, fun dx n ne => by rw [hD]; exact h dx n ne⟩⟩
theorem rd_X2 {K : aD} {mg : Str -> Option Value} {x f g : Str} {fs : List Str} {a : Addr} {y z : V} {H : Hp} {Q : VK} {D : Ends} (T : XaF K mg x fs) (hf : f ∈ fs) (hg : g ∈ fs) (ha : H a = some (exo a (He.ga K x) none)) (hD : ∀ σ H, D.nx σ H = Q .non H) (h : ∀ dx, H dx = none -> dx ≠ a -> Q .non (upd (upd (upd H dx (exd dx [(f, y)])) a (exo a (He.ga K x) (some dx))) dx (exd dx [(g, z), (f, y)]))) :
  tSeq (tOst K f (EE 0) (EE 1)) (tOst K g (EE 0) (EE 2)) D [some (.ref a), some y, some z] H :=
 ⟨a, He.ga K x, rfl, T.cls, T.no f hf, .inl ⟨ha, fun dx n ne => ⟨a, He.ga K x, rfl, T.cls, T.no g hg, .inr ⟨dx, [(f, y)], upd_same, by rw [upd_ne ne, upd_same], by simp, by rw [hD]; exact h dx n ne⟩⟩⟩⟩
theorem QB {k : Nat} {A : Around} (r : Room k A) : A.units + 65 < cLine := by have := r.un; omega
section
variable {α β : Type} {a b c o i e : FE} {r : FA} {t u : FT} {m n : FS} {ρ : Ev} {S : aQ} {x y z : Vl} {f g : Vl -> Vl -> aQ -> Res Vl} {h : Vl -> aQ -> Res Vl} {md : FD}
theorem eA {d : α} {k : α -> aQ -> Res β} : (Res.ok d S).bind k = k d S := rfl
theorem Bq {x : Er} {k : α -> aQ -> Res β} : (Res.err x S : Res α).bind k = .err x S := rfl
theorem lW {d : α} {k : α -> aQ -> Out} : (Res.ok d S).toS ρ k = k d S := rfl
theorem Jm {x : Er} {k : α -> aQ -> Out} : (Res.err x S : Res α).toS ρ k = .err x ρ S := rfl
theorem QD {k : Nat} : aC k ρ S = (match lk ρ k with | some d => .ok d S | none => .stuck) := rfl
theorem g_c {d : D} : mC d ρ S = .ok (.dat d) S := rfl
def kOp1 (f : Vl -> Vl -> aQ -> Res Vl) (b : FE) (ρ : Ev) (x : Vl) (S : aQ) : Res Vl := (b ρ S).bind (f x)
theorem g_op : aR f a b ρ S = (a ρ S).bind (kOp1 f b ρ) := rfl
theorem g_op1 : kOp1 f b ρ x S = (b ρ S).bind (f x) := rfl
theorem g_1 : m1 h a ρ S = (a ρ S).bind h := rfl
theorem g_B : mB a ρ S = (a ρ S).bind unB := rfl
theorem g_unB {k : Bool} : unB (.dat (.bl k)) S = .ok k S := rfl
theorem M8 : gR a ρ S = (a ρ S).bind BB := rfl
def RN (u : FT) (ρ : Ev) (c : Bool) (S : aQ) : Res Bool := if c = true then u ρ S else .ok false S
def kOr (u : FT) (ρ : Ev) (c : Bool) (S : aQ) : Res Bool := if c = true then .ok true S else u ρ S
def kNot (c : Bool) (S : aQ) : Res Bool := .ok (!c) S
theorem g_and : LO t u ρ S = (t ρ S).bind (RN u ρ) := rfl
theorem g_or : CP t u ρ S = (t ρ S).bind (kOr u ρ) := rfl
theorem QF : oS t ρ S = (t ρ S).bind kNot := rfl
theorem ME : RN u ρ true S = u ρ S := rfl
theorem MF : RN u ρ false S = .ok false S := rfl
theorem OU : kOr u ρ true S = .ok true S := rfl
theorem OV : kOr u ρ false S = u ρ S := rfl
theorem Ro {c : Bool} : kNot c S = .ok (!c) S := rfl
def Lp (b : FE) (ρ : Ev) (x : Vl) (S : aQ) : Res Vl := match x with
 | .dat (.bl c) => if c = true then b ρ S else .ok (.dat (.bl false)) S
 | _ => .stuck
def RJ (b : FE) (ρ : Ev) (x : Vl) (S : aQ) : Res Vl := match x with
 | .dat (.bl c) => if c = true then .ok (.dat (.bl true)) S else b ρ S
 | _ => .stuck
theorem SE : mO a b ρ S = (a ρ S).bind (Lp b ρ) := rfl
theorem g_orV : mOrV a b ρ S = (a ρ S).bind (RJ b ρ) := rfl
theorem Jr : Lp b ρ (.dat (.bl true)) S = b ρ S := rfl
theorem Js : Lp b ρ (.dat (.bl false)) S = .ok (.dat (.bl false)) S := rfl
theorem MC : RJ b ρ (.dat (.bl true)) S = .ok (.dat (.bl true)) S := rfl
theorem MD : RJ b ρ (.dat (.bl false)) S = b ρ S := rfl
def kNV (k : Bool) (S : aQ) : Res Vl := .ok (.dat (.bl (!k))) S
def Q6 (x : Vl) (S : aQ) : Res Vl := (BB x S).bind kNV
theorem Rg : LM a ρ S = (a ρ S).bind Q6 := rfl
theorem Ob : Q6 x S = (BB x S).bind kNV := rfl
theorem g_kNV {k : Bool} : kNV k S = .ok (.dat (.bl (!k))) S := rfl
def IU (b : FE) (ρ : Ev) (x : Vl) (k : Bool) (S : aQ) : Res Vl := if k = true then .ok x S else b ρ S
def kOrT (b : FE) (ρ : Ev) (x : Vl) (S : aQ) : Res Vl := (BB x S).bind (IU b ρ x)
theorem g_orT : R6 a b ρ S = (a ρ S).bind (kOrT b ρ) := rfl
theorem Rq : kOrT b ρ x S = (BB x S).bind (IU b ρ x) := rfl
theorem MG : IU b ρ x true S = .ok x S := rfl
theorem MH : IU b ρ x false S = b ρ S := rfl
theorem M7 {k : Bool} : BB (.dat (.bl k)) S = .ok k S := rfl
def OG (g : Vl -> Vl -> aQ -> Res Vl) (c : FE) (ρ : Ev) (y z : Vl) (S : aQ) : Res Vl := match z with
 | .dat (.bl k) => if k = true then (c ρ S).bind (g y) else .ok (.dat (.bl false)) S
 | _ => .stuck
def RM (f g : Vl -> Vl -> aQ -> Res Vl) (c : FE) (ρ : Ev) (x y : Vl) (S : aQ) : Res Vl := (f x y S).bind (OG g c ρ y)
def kCh1 (f g : Vl -> Vl -> aQ -> Res Vl) (b c : FE) (ρ : Ev) (x : Vl) (S : aQ) : Res Vl := (b ρ S).bind (RM f g c ρ x)
theorem Oi : qV f g a b c ρ S = (a ρ S).bind (kCh1 f g b c ρ) := rfl
theorem g_ch1 : kCh1 f g b c ρ x S = (b ρ S).bind (RM f g c ρ x) := rfl
theorem g_ch2 : RM f g c ρ x y S = (f x y S).bind (OG g c ρ y) := rfl
theorem Oj : OG g c ρ y (.dat (.bl true)) S = (c ρ S).bind (g y) := rfl
theorem Ol : OG g c ρ y (.dat (.bl false)) S = .ok (.dat (.bl false)) S := rfl
def kIf (a b : FE) (ρ : Ev) (c : Bool) (S : aQ) : Res Vl := if c = true then a ρ S else b ρ S
theorem g_if : mIf t a b ρ S = (t ρ S).bind (kIf a b ρ) := rfl
theorem OW : kIf a b ρ true S = a ρ S := rfl
theorem OX : kIf a b ρ false S = b ρ S := rfl
theorem MA : aO ρ S = .ok [] S := rfl
def HC (x : Vl) (xs : List Vl) (S : aQ) : Res (List Vl) := .ok (x :: xs) S
def Lk (r : FA) (ρ : Ev) (x : Vl) (S : aQ) : Res (List Vl) := (r ρ S).bind (HC x)
theorem HS : aB a r ρ S = (a ρ S).bind (Lk r ρ) := rfl
theorem Du : Lk r ρ x S = (r ρ S).bind (HC x) := rfl
theorem Dt {xs : List Vl} : HC x xs S = .ok (x :: xs) S := rfl
def Jh (cl : Bool) (xs : List Vl) (S : aQ) : Res Vl := match wN xs with
 | some ds => if ds.length <= sizeLine then newL cl ds S else .stuck
 | none => .stuck
def kTup (xs : List Vl) (S : aQ) : Res Vl := match wN xs with
 | some ds => if ds.length <= sizeLine then .ok (.dat (.tup ds)) S else .stuck
 | none => .stuck
theorem g_lst {cl : Bool} : dG cl r ρ S = (r ρ S).bind (Jh cl) := rfl
theorem g_tup : cC r ρ S = (r ρ S).bind kTup := rfl
theorem HV : wN [] = some [] := rfl
theorem Fu {d : D} {xs : List Vl} : wN (.dat d :: xs) = (match wN xs with | some ds => some (d :: ds) | none => none) := rfl
theorem kTup0 : kTup [] S = .ok (.dat (.tup [])) S := rfl
theorem kTup1 {d : D} : kTup [.dat d] S = .ok (.dat (.tup [d])) S := rfl
theorem kTup2 {d e : D} : kTup [.dat d, .dat e] S = .ok (.dat (.tup [d, e])) S := rfl
theorem kTup3 {d e f : D} : kTup [.dat d, .dat e, .dat f] S = .ok (.dat (.tup [d, e, f])) S := rfl
theorem kTup4 {d e f g : D} : kTup [.dat d, .dat e, .dat f, .dat g] S = .ok (.dat (.tup [d, e, f, g])) S := rfl
theorem kLst0 {cl : Bool} : Jh cl [] S = newL cl [] S := rfl
theorem kLst1 {cl : Bool} {d : D} : Jh cl [.dat d] S = newL cl [d] S := rfl
theorem kLst2 {cl : Bool} {d e : D} : Jh cl [.dat d, .dat e] S = newL cl [d, e] S := rfl
theorem kLst3 {cl : Bool} {d e f : D} : Jh cl [.dat d, .dat e, .dat f] S = newL cl [d, e, f] S := rfl
theorem Ri {ds : List D} : newL false ds S = .ok (.dat (.lst ds)) S := rfl
theorem Rh {ds : List D} : newL true ds S = .ok (.cel S.length) (S ++ [.lst ds]) := rfl
theorem HU : bM md r ρ S = (r ρ S).bind md := rfl
def RG (cl : Bool) (x : Vl) (lo : Option Int) (hi : Option Int) (S : aQ) : Res Vl := QI cl x lo hi S
def RH (cl : Bool) (h : FO) (ρ : Ev) (x : Vl) (lo : Option Int) (S : aQ) : Res Vl := (h ρ S).bind (RG cl x lo)
def kSl0 (cl : Bool) (l h : FO) (ρ : Ev) (x : Vl) (S : aQ) : Res Vl := (l ρ S).bind (RH cl h ρ x)
theorem g_sl {cl : Bool} {l h : FO} : Ao cl a l h ρ S = (a ρ S).bind (kSl0 cl l h ρ) := rfl
theorem g_sl0 {cl : Bool} {l h : FO} : kSl0 cl l h ρ x S = (l ρ S).bind (RH cl h ρ x) := rfl
theorem g_sl1 {cl : Bool} {h : FO} {lo : Option Int} : RH cl h ρ x lo S = (h ρ S).bind (RG cl x lo) := rfl
theorem g_sl2 {cl : Bool} {lo hi : Option Int} : RG cl x lo hi S = QI cl x lo hi S := rfl
theorem g_noP : qU ρ S = .ok none S := rfl
def Q5 (x : Vl) (S : aQ) : Res (Option Int) := match x with
 | .dat (.int i) => .ok (some i) S
 | _ => .stuck
theorem Rf : hC a ρ S = (a ρ S).bind Q5 := rfl
theorem Oa {i : Int} : Q5 (.dat (.int i)) S = .ok (some i) S := rfl
def RL (x : Vl) (S : aQ) : Res Vl := match x with
 | .cel n => (match S[n]? with
  | some (.lst ds) => .ok (.dat (.lst ds)) (S.set n .dead)
  | _ => .stuck)
 | _ => .stuck
theorem g_frz : xV a ρ S = (a ρ S).bind RL := rfl
theorem oC {n : Nat} {ds : List D} (h : S[n]? = some (.lst ds)) : RL (.cel n) S = .ok (.dat (.lst ds)) (S.set n .dead) := by simp only [RL, h]
def vO (b : FE) (ρ : Ev) (x : Vl) (S : aQ) : Res Vl := match nL S x with
 | some _ => (b ρ S).bind (G0 x)
 | none => .stuck
theorem g_app : kT a b ρ S = (a ρ S).bind (vO b ρ) := rfl
theorem oD {n : Nat} {ds : List D} (h : S[n]? = some (.lst ds)) : vO b ρ (.cel n) S = (b ρ S).bind (G0 (.cel n)) := by simp only [vO, nL, h]
theorem pP {n : Nat} {ds : List D} {d : D} (h : S[n]? = some (.lst ds)) (hl : ds.length < sizeLine) : G0 (.cel n) (.dat d) S = .ok (.dat .non) (S.set n (.lst (ds ++ [d]))) := by simp only [G0, h, hl, if_true]
def Out.seq (o : Out) (n : FS) : Out := match o with
 | .next ρ S => n ρ S
 | o => o
theorem QE : aT m n ρ S = (m ρ S).seq n := rfl
theorem HR : (Out.next ρ S).seq n = n ρ S := rfl
theorem Jn {d : Vl} : (Out.ret d S).seq n = .ret d S := rfl
theorem Jo {x : Er} : (Out.err x ρ S).seq n = .err x ρ S := rfl
theorem Jq : (Out.brk ρ S).seq n = .brk ρ S := rfl
theorem Jp : (Out.cnt ρ S).seq n = .cnt ρ S := rfl
theorem RZ : bK ρ S = .next ρ S := rfl
def kRet (d : Vl) (S : aQ) : Out := .ret d S
theorem g_ret : bW a ρ S = (a ρ S).toS ρ kRet := rfl
theorem Rp {d : Vl} : kRet d S = .ret d S := rfl
def QA (ρ : Ev) (d : Vl) (S : aQ) : Out := .next ρ S
theorem SB : dQ a ρ S = (a ρ S).toS ρ (QA ρ) := rfl
theorem Oe {d : Vl} : QA ρ d S = .next ρ S := rfl
def RK (m n : FS) (ρ : Ev) (c : Bool) (S : aQ) : Out := if c = true then m ρ S else n ρ S
theorem QG : cA t m n ρ S = (t ρ S).toS ρ (RK m n ρ) := rfl
theorem MK : RK m n ρ true S = m ρ S := rfl
theorem ML : RK m n ρ false S = n ρ S := rfl
def Lo (t : Tg) (ρ : Ev) (d : Vl) (S : aQ) : Out := match oK t d ρ with
 | some ρ' => .next ρ' S
 | none => .stuck
theorem QH {t : Tg} : cN a t ρ S = (a ρ S).toS ρ (Lo t ρ) := rfl
theorem Rv {k : Nat} {d : Vl} : Lo (.nm k) ρ d S = .next (ρ.set k (some d)) S := rfl
theorem Og {i j : Nat} {d e : D} : Lo (.tp [i, j]) ρ (.dat (.tup [d, e])) S = .next ((ρ.set i (some (.dat d))).set j (some (.dat e))) S := rfl
theorem Of {i j k : Nat} {d e f : D} : Lo (.tp [i, j, k]) ρ (.dat (.tup [d, e, f])) S = .next (((ρ.set i (some (.dat d))).set j (some (.dat e))).set k (some (.dat f))) S := rfl
def kFor (t : Tg) (m : FS) (ρ : Ev) (ds : List D) (S : aQ) : Out := loop t m ds ρ S
theorem g_for {mi : FI} {t : Tg} : tK mi t m ρ S = (mi ρ S).toS ρ (kFor t m ρ) := rfl
theorem Ru {t : Tg} {ds : List D} : kFor t m ρ ds S = loop t m ds ρ S := rfl
def wH (cl : Bool) (t : Tg) (u : FT) (e : FE) (ρ : Ev) (vs : List Nat) (ds : List D) (S : aQ) : Res Vl := if ds.length <= sizeLine then (match iP t u e (wipeE ρ vs) ds S with
 | .ok es S2 => newL cl es S2
 | _ => .stuck) else .stuck
theorem g_lc {cl : Bool} {mi : FI} {t : Tg} {vs : List Nat} : wR cl mi t u e vs ρ S = (mi ρ S).bind (wH cl t u e ρ vs) := rfl
theorem Rb : kK a ρ S = (a ρ S).bind itemsOf := rfl
theorem MT {ds : List D} : itemsOf (.dat (.lst ds)) S = .ok ds S := rfl
theorem MS {ds : List D} : itemsOf (.dat (.tup ds)) S = .ok ds S := rfl
def AF (x : Vl) (S : aQ) : Res (List D) := match x with
 | .dat (.int j) => if -(2 ^ 62) <= j /\ j < 2 ^ 62 then .ok (fJ 0 j.toNat) S else .stuck
 | _ => .stuck
theorem Rc : iX a ρ S = (a ρ S).bind AF := rfl
theorem nA {j : Int} (h1 : -(2 ^ 62) <= j) (h2 : j < 2 ^ 62) : AF (.dat (.int j)) S = .ok (fJ 0 j.toNat) S := by unfold AF; exact if_pos ⟨h1, h2⟩
def kRev1 (x : Vl) (S : aQ) : Res (List D) := match x with
 | .dat (.int j) => if -(2 ^ 62) <= j /\ j < 2 ^ 62 then .ok (Pq j.toNat) S else .stuck
 | _ => .stuck
theorem OP : R5 a ρ S = (a ρ S).bind kRev1 := rfl
def Q9 (x : Vl) (S : aQ) : Res (List D) := match x with
 | .dat (.lst ds) => .ok (dX 0 ds) S
 | _ => .stuck
theorem SA : Cr a ρ S = (a ρ S).bind Q9 := rfl
theorem Od {ds : List D} : Q9 (.dat (.lst ds)) S = .ok (dX 0 ds) S := rfl
def Out.wipe (o : Out) (is : List Nat) : Out := match o with
 | .next ρ S => .next (wipeE ρ is) S
 | .cnt ρ S => .cnt (wipeE ρ is) S
 | .brk ρ S => .brk (wipeE ρ is) S
 | o => o
theorem RU {is : List Nat} : kJ is m ρ S = (m ρ S).wipe is := by unfold kJ Out.wipe; cases m ρ S <;> rfl
theorem Fm {is : List Nat} : (Out.next ρ S).wipe is = .next (wipeE ρ is) S := rfl
theorem HN {is : List Nat} {d : Vl} : (Out.ret d S).wipe is = .ret d S := rfl
theorem HP {is : List Nat} {x : Er} : (Out.err x ρ S).wipe is = .err x ρ S := rfl
theorem SF {cl : Bool} {i j : Int} : dR cl (.dat (.int i)) (.dat (.int j)) S = .ok (.dat (.int (i + j))) S := rfl
theorem RY {i j : Int} : rO (.dat (.int i)) (.dat (.int j)) S = .ok (.dat (.int (i - j))) S := rfl
theorem pN {i j : Int} (h : 0 < j) : A1 (.dat (.int i)) (.dat (.int j)) S = .ok (.dat (.int (i % j))) S := if_pos h
theorem lX {i j : Int} (h : IntMulOk i j) : nX (.dat (.int i)) (.dat (.int j)) S = .ok (.dat (.int (i * j))) S := if_pos h
theorem Ar {i j : Int} (h : CDiv i j) : AJ (.dat (.int i)) (.dat (.int j)) S = .ok (.dat (.int (i / j))) S := if_pos h
theorem g_ltI {i j : Int} : Mj (.dat (.int i)) (.dat (.int j)) S = .ok (.dat (.bl (decide (i < j)))) S := rfl
theorem g_leI {i j : Int} : KL (.dat (.int i)) (.dat (.int j)) S = .ok (.dat (.bl (decide (i <= j)))) S := rfl
theorem g_gtI {i j : Int} : NQ (.dat (.int i)) (.dat (.int j)) S = .ok (.dat (.bl (decide (j < i)))) S := rfl
theorem g_geI {i j : Int} : fGe (.dat (.int i)) (.dat (.int j)) S = .ok (.dat (.bl (decide (j <= i)))) S := rfl
theorem g_eqI {i j : Int} : fK (.dat (.int i)) (.dat (.int j)) S = .ok (.dat (.bl (decide (i = j)))) S := rfl
theorem g_neI {i j : Int} : GV (.dat (.int i)) (.dat (.int j)) S = .ok (.dat (.bl (!decide (i = j)))) S := rfl
theorem g_eqS {i j : Str} : fK (.dat (.str i)) (.dat (.str j)) S = .ok (.dat (.bl (decide (i = j)))) S := rfl
theorem g_neS {i j : Str} : GV (.dat (.str i)) (.dat (.str j)) S = .ok (.dat (.bl (!decide (i = j)))) S := rfl
theorem g_eqB {i j : Bool} : fK (.dat (.bl i)) (.dat (.bl j)) S = .ok (.dat (.bl (i == j))) S := by cases i <;> cases j <;> rfl
theorem g_neB {i j : Bool} : GV (.dat (.bl i)) (.dat (.bl j)) S = .ok (.dat (.bl (!(i == j)))) S := by cases i <;> cases j <;> rfl
theorem g_neg {i : Int} : wJ (.dat (.int i)) S = .ok (.dat (.int (-i))) S := rfl
theorem Rw {i : Int} : pX (.dat (.int i)) S = .ok (.dat (.int i)) S := rfl
theorem Rx {k : Bool} : pX (.dat (.bl k)) S = .ok (.dat (.int (if k then 1 else 0))) S := rfl
theorem Rm {xs : List D} : fF (.dat (.tup xs)) S = .ok (.dat (.int xs.length)) S := rfl
theorem Rn {xs : List D} : fF (.dat (.lst xs)) S = .ok (.dat (.int xs.length)) S := rfl
theorem pO {n : Nat} {xs : List D} (h : S[n]? = some (.lst xs)) : fF (.cel n) S = .ok (.dat (.int xs.length)) S := by simp only [fF, nL, h]
theorem D7 {xs : List D} {k : Int} {d : D} (h : atI xs k = some d) : bR (.dat (.tup xs)) (.dat (.int k)) S = .ok (.dat d) S := by simp only [bR, h]
theorem tD {xs : List D} {k : Int} {d : D} (h : atI xs k = some d) : bR (.dat (.lst xs)) (.dat (.int k)) S = .ok (.dat d) S := by simp only [bR, nL, h]
theorem MR {n : Nat} {xs : List D} {k : Int} {d : D} (h : S[n]? = some (.lst xs)) (h2 : atI xs k = some d) : bR (.cel n) (.dat (.int k)) S = .ok (.dat d) S := by simp only [bR, nL, h, h2]
theorem lZ {cl : Bool} {xs ys : List D} (h : xs.length + ys.length <= sizeLine) : dR cl (.dat (.tup xs)) (.dat (.tup ys)) S = .ok (.dat (.tup (xs ++ ys))) S := if_pos h
theorem oE {cl : Bool} {xs ys : List D} (h : xs.length + ys.length <= sizeLine) : dR cl (.dat (.lst xs)) (.dat (.lst ys)) S = newL cl (xs ++ ys) S := by simp only [dR, nL, h, if_true]
theorem Ft {neg : Bool} : CS neg x (.dat .non) S = .ok (.dat (.bl (if neg then !(isNon x) else isNon x))) S := rfl
theorem gM {α : Type} {xs : List α} {k : Int} {n : Nat} (h : k = (n : Int)) : atI xs k = xs[n]? := by
 subst h;unfold atI ixN
 by_cases hl : n < xs.length
 ·rw [if_pos (by omega), if_pos (by omega)]; simp
 ·rw [if_pos (by omega), if_neg (by omega)]
  simp [tN hl]
theorem M5 : fP ρ S = .ok true S := rfl
theorem RW {xs : List D} : BB (.dat (.lst xs)) S = .ok (!xs.isEmpty) S := rfl
theorem RX {i : Int} : BB (.dat (.int i)) S = .ok (i != 0) S := rfl
theorem Fp {xs : List D} : isNon (.dat (.tup xs)) = false := rfl
theorem Fs : isNon (.dat .non) = true := rfl
theorem g_slT {cl : Bool} {xs : List D} {lo hi : Option Int} : QI cl (.dat (.tup xs)) lo hi S = .ok (.dat (.tup (cutD xs lo hi))) S := rfl
theorem g_slL {cl : Bool} {xs : List D} {lo hi : Option Int} : QI cl (.dat (.lst xs)) lo hi S = newL cl (cutD xs lo hi) S := rfl
theorem g_slS {cl : Bool} {ns : List Int} {lo hi : Option Int} : QI cl (.scr ns) lo hi S = newL cl (cutD (ns.map D.int) lo hi) S := rfl
theorem OS {cl : Bool} {xs : List D} : qD cl (.dat (.lst xs)) S = newL cl xs S := rfl
theorem OR {cl : Bool} {xs : List D} : qD cl (.dat (.tup xs)) S = newL cl xs S := rfl
theorem M6 {xs : List D} : fTuple (.dat (.lst xs)) S = .ok (.dat (.tup xs)) S := rfl
end
section
variable {a b o : FE} {r : FA} {m n : FS} {ρ : Ev} {S : aQ} {x y : Vl} {md : FD} {C f : Str} {ns : List Str}
theorem OQ : zP C ρ S = .err ⟨C, [], []⟩ ρ S := rfl
def Dm (C : Str) (ns : List Str) (ρ : Ev) (xs : List Vl) (S : aQ) : Out := match wN xs with
 | some ds => if ds.length = ns.length then .err ⟨C, ns, ds.reverse⟩ ρ S else .stuck
 | none => .stuck
theorem M9 : lP C ns r ρ S = (r ρ S).toS ρ (Dm C ns ρ) := rfl
theorem Ju {f : Str} {d : D} : Dm C [f] ρ [.dat d] S = .err ⟨C, [f], [d]⟩ ρ S := rfl
theorem Jt {f g : Str} {d e : D} : Dm C [f, g] ρ [.dat d, .dat e] S = .err ⟨C, [f, g], [e, d]⟩ ρ S := rfl
def wG (C f : Str) (ρ : Ev) (d x : Vl) (S : aQ) : Out := match Gc S C f x d with
 | some S3 => .next ρ S3
 | none => .stuck
def Q4 (C f : Str) (o : FE) (ρ : Ev) (d : Vl) (S : aQ) : Out := (o ρ S).toS ρ (wG C f ρ d)
theorem Ra : uF C f o a ρ S = (a ρ S).toS ρ (Q4 C f o ρ) := rfl
theorem OY {d : Vl} : Q4 C f o ρ d S = (o ρ S).toS ρ (wG C f ρ d) := rfl
theorem Bp {n : Nat} {d : Vl} {fs : List (Str × Vl)} (h : S[n]? = some (.ins C fs)) (hl : fs.length < 1000) : wG C f ρ d (.cel n) S = .next ρ (S.set n (.ins C (nN f d fs))) := by simp only [wG, Gc, h, true_and, hl, if_true]
def Bi (kp : Bool) (C : Str) (md : FD) (ds : List Vl) (S : aQ) : Res Vl := made kp S.length (md (.cel S.length :: ds) (S ++ [.ins C []]))
theorem Rk {kp : Bool} : IJ kp C md r ρ S = (r ρ S).bind (Bi kp C md) := rfl
def HA (md : FD) (x : Vl) (ds : List Vl) (S : aQ) : Res Vl := md (x :: ds) S
def Q7 (C f : Str) (md : FD) (r : FA) (ρ : Ev) (x : Vl) (S : aQ) : Res Vl := if pM S C f x = true then (r ρ S).bind (HA md x) else .stuck
theorem Rj : pK C f md o r ρ S = (o ρ S).bind (Q7 C f md r ρ) := rfl
theorem iI (h : pM S C f x = true) : Q7 C f md r ρ x S = (r ρ S).bind (HA md x) := if_pos h
theorem MI {ds : List Vl} : HA md x ds S = md (x :: ds) S := rfl
def AY (C f : Str) (x : Vl) (S : aQ) : Res Vl := match AH S C f x with
 | some d => .ok d S
 | none => .stuck
theorem g_fld : gG C f o ρ S = (o ρ S).bind (AY C f) := rfl
theorem Oc {ns : List Str} {xs : List D} : AY C f (.dat (.ins C ns xs)) S = (match (ns.zip xs).lookup f with | some d => .ok (.dat d) S | none => .stuck) := by
 simp only [AY, AH, if_true];cases (ns.zip xs).lookup f <;> rfl
theorem sM {n : Nat} {fs : List (Str × Vl)} {d : Vl} (h : S[n]? = some (.ins C fs)) (h2 : fs.lookup f = some d) : AY C f (.cel n) S = .ok d S := by simp only [AY, AH, h, if_true, h2]
def Out.tryA (o : Out) (cs : List Str) (c : Str) (k : Nat) (its : List XIt) : Out := match o with
 | .err e ρ' S' => if (e.cls ∈ cs /\ c ∈ cs) /\ k < ρ'.length then (if e.cls = c then (match itF e its with
   | some ds => if ds.length <= sizeLine then .ret (.dat (.tup ds)) S' else .stuck
   | none => .stuck) else .err e ρ' S') else .stuck
 | o => o
theorem RV {cs : List Str} {c : Str} {k : Nat} {its : List XIt} : Q2 cs m c k its ρ S = (m ρ S).tryA cs c k its := by unfold Q2 Out.tryA; cases m ρ S <;> rfl
theorem Fn {cs : List Str} {c : Str} {k : Nat} {its : List XIt} : (Out.next ρ S).tryA cs c k its = .next ρ S := rfl
theorem HQ {cs : List Str} {c : Str} {k : Nat} {its : List XIt} {d : Vl} : (Out.ret d S).tryA cs c k its = .ret d S := rfl
end
theorem iY : ((0 : Nat) : Int) = 0 := rfl
theorem yG : ((1 : Nat) : Int) = 1 := rfl
theorem Ov : ((2 : Nat) : Int) = 2 := rfl
theorem Ou : ((3 : Nat) : Int) = 3 := rfl
theorem Ot : ((4 : Nat) : Int) = 4 := rfl
theorem Os : ((5 : Nat) : Int) = 5 := rfl
theorem Oq : ((6 : Nat) : Int) = 6 := rfl
theorem Oo : ((7 : Nat) : Int) = 7 := rfl
theorem On : ((8 : Nat) : Int) = 8 := rfl
theorem Om : ((9 : Nat) : Int) = 9 := rfl
theorem MX : ((10 : Nat) : Int) = 10 := rfl
theorem MW : ((11 : Nat) : Int) = 11 := rfl
theorem MV : ((12 : Nat) : Int) = 12 := rfl
theorem MU : ((13 : Nat) : Int) = 13 := rfl
theorem str_inj {a b : String} (h : Str.ofString a = Str.ofString b) : a = b := by
 rw [Str.ofString_eq_toList, Str.ofString_eq_toList] at h
 injection h with h
 have h2 := congrArg Array.toList h;simp only at h2;have : ∀ {l m : List Char}, l.map Char.toNat = m.map Char.toNat -> l = m := fun {l} => by
  induction l with
  | nil => intro m h; cases m <;> simp at h ⊢
  | cons c l ih =>
   intro m h;cases m with
   | nil => simp at h
   | cons d m =>
    simp only [aK, List.cons.injEq] at h;rw [ih h.2];have : c = d := by
     have := congrArg Char.ofNat h.1
     simpa using this
    rw [this]
 exact String.toList_inj.mp (this h2)
theorem DW {a b : String} : (Str.ofString a = Str.ofString b) = (a = b) := propext ⟨str_inj, fun h => by rw [h]⟩
section
variable {X : Cx} {W : WX} {C : Str} {md : FD} {o i a b : Expr} {mo mi ma mb : FE} {pos p : Pos} {j k : Nat} {ps : List Str} {K : aD}
def fGetO (C : Str) (md : FD) (x y : Vl) (S : aQ) : Res Vl := if pM S C "" x = true then md [x, y] S else .stuck
def fInO (C : Str) (md : FD) (y x : Vl) (S : aQ) : Res Vl := if pM S C "" x = true then N4 (md [x, y] S) else .stuck
def Lf (x : Vl) (S : aQ) : Res (List PH.D) := match x with
 | .dat (.lst ds) => .ok ds.reverse S
 | _ => .stuck
def mRevL (a : FE) : FI := fun ρ S => (a ρ S).bind Lf
def D9 (x y : Vl) (S : aQ) : Res Vl := match x, y with
 | .dat (.int i), .dat (.int j) => .ok (.dat (.int (if j < i then j else i))) S
 | _, _ => .stuck
theorem boot_min : bootBuiltins "min" = some (.builtin "min") := by decide +kernel
theorem SN (hm : X.mg "min" = none) (ha : PE X a (cR X.K W ma)) (hb : PE X b (cR X.K W mb)) (hc : X.calm = true := by rfl) (hg : Gl X "min" := by rfl) (hs : starEach [a, b] X.env = (false, eval a X.env) :: starEach [b] X.env := by rfl) (hs2 : starEach [b] X.env = [(false, eval b X.env)] := by rfl) (hpl : (backTo pos (starEach [b] X.env)).any (·.1) = false := by rfl) : PE X (.Call (.Name "min" p) [a, b] [] pos) (cR X.K W (aR D9 ma mb)) :=
 cW (pe_callB (call_min2 hc) hg hm boot_min (pa_cons ha (pa_cons hb pa_nil hs2) hs) (he := hs) (hpl := hpl)) fun σ H Q h =>
  bZ (k := fun x ρ S => (mb ρ S).bind fun y S2 => D9 x y S2) h fun B φ S ρ d v H1 I E r f => gI I E f fun φ' S' e w H2 I2 X2 E2 r2 f2 => by
   unfold D9 at f2;split at f2
   ·cases r
    cases r2;exact ⟨_, _, rfl, Fin.now f2 I2 rfl⟩
   ·exact f2.elim
theorem Re {ρ : Ev} {S : aQ} : mRevL ma ρ S = (ma ρ S).bind Lf := rfl
theorem OZ {S : aQ} {ds : List PH.D} : Lf (.dat (.lst ds)) S = .ok ds.reverse S := rfl
theorem MB {S : aQ} {x y : Int} : D9 (.dat (.int x)) (.dat (.int y)) S = .ok (.dat (.int (if y < x then y else x))) S := rfl
theorem Rz {S : aQ} {x y : Vl} (h : pM S C "" x = true) : fGetO C md x y S = md [x, y] S := if_pos h
theorem g_inO {S : aQ} {x y : Vl} (h : pM S C "" x = true) : fInO C md y x S = N4 (md [x, y] S) := if_pos h
theorem Ox {S : aQ} {b : Bool} : N4 (.ok (.dat (.bl b)) S) = .ok (.dat (.bl b)) S := rfl
def Q3 (k : Nat) : FS := fun ρ S => match lk ρ k with
 | some (.cel n) => (match S[n]? with
  | some (.lst ds) => .next (ρ.set k (some (.dat (.lst ds)))) (S.set n .dead)
  | _ => .stuck)
 | _ => .stuck
theorem S7 {k n : Nat} {ρ : Ev} {S : aQ} {ds : List PH.D} (h : lk ρ k = some (.cel n)) (h2 : S[n]? = some (.lst ds)) : Q3 k ρ S = .next (ρ.set k (some (.dat (.lst ds)))) (S.set n .dead) := by simp only [Q3, h, h2]
end
open AutoSeq1 (wpAny_loadPart')
section
variable {X : Cx} {W : WX} {a : Expr} {ma : FE} {pos p : Pos}
def R8 (a : FE) : FI := fun ρ S => (a ρ S).bind fun x S1 => match x with
 | .dat (.tup ds) => .ok (dX 0 ds) S1
 | _ => .stuck
def Lh (x : Vl) (S : aQ) : Res (List PH.D) := match x with
 | .dat (.tup ds) => .ok (dX 0 ds) S
 | _ => .stuck
theorem Oh {ρ : Ev} {S : aQ} : R8 ma ρ S = (ma ρ S).bind Lh := rfl
theorem MM {S : aQ} {ds : List PH.D} : Lh (.dat (.tup ds)) S = .ok (dX 0 ds) S := rfl
end
section
variable {X : Cx} {W : WX} {e a b c o : Expr} {es rest : List Expr} {pos p q p2 tpos apos cpos : Pos} {x y z C f : Str} {K : aD} {ma mb mc mo me : FE} {mt mu : FT} {mas : FA} {mi mj : FI} {B : Addr -> Prop} {φ φ' : List Addr} {S S' : aQ} {H H' : Hp} {σ : L2.St} {Q : VK} {m n : FS} {st : Stmt} {gN : List Stmt} {D : Ends} {t t1 : Tg}
def O7 (mi : FI) (t : Tg) (vs : List Nat) : FE := fun ρ S => (mi ρ S).bind fun ds S1 => if ds.length <= sizeLine /\ (∀ d ∈ ds, (oK t (.dat d) (wipeE ρ vs)).isSome = true) then .ok (.cels (eI S1.length ds.length)) (S1 ++ bQ ds.length (.lst [])) else .stuck
theorem JR {n : Nat} {x : Cell} : bQ (n + 1) x = bQ n x ++ [x] := List.replicate_succ'
theorem Kw {s n : Nat} : eI s (n + 1) = eI s n ++ [s + n] := by rw [List.range'_concat]; simp
theorem Nd {vs : List Nat} (ht : ∀ i ∈ KZ t, i ∈ vs) (h : cR K W (O7 mi t vs) σ H Q) : tLc (Gj K W mi) (Hq K t) (vF K vX fP) (cR K vX (dG true aO)) vs σ H Q := by
 refine bZ (k := fun ds ρ S1 => if ds.length <= sizeLine /\ (∀ d ∈ ds, (oK t (.dat d) (wipeE ρ vs)).isSome = true) then Res.ok (Vl.cels (eI S1.length ds.length)) (S1 ++ bQ ds.length (.lst [])) else .stuck) h fun B φ0 S0 ρ ds J H0 I0 E0 r f0 => ?_
 intro A hA;split at f0
 case isFalse => exact f0.elim
 rename_i hsz;obtain ⟨hsz, htg⟩ := hsz;have nB : ¬ B A := fun q => by obtain ⟨u, e⟩ := I0.btr A q; rw [hA] at e; cases e
 have IA : GInv K (fL B A) φ0 S0 (upd H0 A (.lst [])) := I0.plus hA;have b2 : ∀ a, H0 a ≠ none -> fL B A a -> B a := fun b hb h => by
  rcases h with h | h
  ·exact h
  ·exact absurd (by rw [h]; exact hA) hb
 refine ⟨fun i k H' => i <= ds.length /\ k = ds.length - i /\ ∃ (φ1 : List Addr) (as : List Addr), GInv K (fL B A) φ1 (S0 ++ bQ i (.lst [])) H' /\ Ext φ0 S0 H0 φ1 (S0 ++ bQ i (.lst [])) H' /\ RepE K (fL B A) φ1 (S0 ++ bQ i (.lst [])) H' (wipeE ρ vs) (wipe σ vs) /\ H' A = some (.lst (as.map L2.V.ref)) /\ as.length = i /\ (eI S0.length i).map (fun n => φ1[n]?) = as.map some,
  ⟨_, eL _, rfl, φ0, [], by simpa using IA, by simpa using Ext.new I0 hA, by simpa using (E0.wipes vs).plus I0 hA, upd_same, rfl, rfl⟩, ?_⟩
 rintro i k H' ⟨hi, rfl, φ1, as, I1, X1, E1, hA1, hul, hφ⟩
 obtain ⟨hgo, hstop, hyld⟩ := r φ1 _ H' (fL B A) I1 (X1.kpB (fun _ h => .inl h) b2 I0)
 by_cases hlt : i < ds.length
 ·refine .inr ⟨hgo i hlt, fun H2 => i + 1 <= ds.length /\ ∃ (φ1 : List Addr) (as : List Addr), GInv K (fL B A) φ1 (S0 ++ bQ (i + 1) (.lst [])) H2 /\ Ext φ0 S0 H0 φ1 (S0 ++ bQ (i + 1) (.lst [])) H2 /\ RepE K (fL B A) φ1 (S0 ++ bQ (i + 1) (.lst [])) H2 (wipeE ρ vs) (wipe σ vs) /\ H2 A = some (.lst (as.map L2.V.ref)) /\ as.length = i + 1 /\ (eI S0.length (i + 1)).map (fun n => φ1[n]?) = as.map some, fun H2 ⟨h1, h2⟩ => ⟨ds.length - (i + 1), by omega, h1, rfl, h2⟩, fun x H2 y => ?_⟩
  have hd : ds[i]? = some ds[i] := by simp [hlt]
  obtain ⟨I2, X2, r2⟩ := hyld i x H2 ds[i] hd y;obtain ⟨ρ2, q2⟩ := Option.isSome_iff_exists.mp (htg ds[i] (oI hlt));have hA2 := (X2.old A _ hA1 fun q => I1.blk A q (.inr rfl)).1
  refine zD (E1.ext X2 I1) (d := .dat ds[i]) r2 q2 fun ws E3 => ⟨by rw [uZ ht, uY], fL B A, φ1, _, ρ2, I2, E3, ?_⟩
  intro φ3 b' H3 I3 X3 rb;have rb : b' = true := rb;subst rb;have hA3 := (X3.old A _ hA2 fun q => I2.blk A q (.inr rfl)).1
  have Xa := X1.trans (X2.trans X3);rw [if_pos rfl];refine ⟨fL B A, φ3, S0 ++ bQ i (.lst []), ρ2, I3, E3.ext X3 I2, ?_⟩
  intro φ4 v4 H4 I4 X4 r4;obtain ⟨a4, rfl, h4⟩ := r4;have hA4 := (X4.old A _ hA3 fun q => I3.blk A q (.inr rfl)).1
  have eS : (S0 ++ bQ i (Cell.lst [])) ++ [Cell.lst []] = S0 ++ bQ (i + 1) (.lst []) := by rw [JR, cV]
  rw [eS] at I4 X4;have hn : (S0 ++ bQ i (Cell.lst [])).length = S0.length + i := by simp
  rw [hn] at h4;refine ⟨as.map L2.V.ref, hA4, by rw [aN, hul]; omega, hlt, φ4, as ++ [a4], I4.plusPut hA4, ?_, (((E1.ext X2 I1).ext X3 I2).ext X4 I3).plusPut hA4, by rw [upd_same]; simp, by simp [hul], ?_⟩
  ·exact ⟨fun b o h nb => by
    obtain ⟨h1, h2⟩ := (Xa.trans X4).old b o h nb;exact ⟨by rw [upd_ne (fun e => by subst e; rw [hA] at h; cases h)]; exact h1, h2⟩, (Xa.trans X4).ids⟩
  ·rw [Kw, bN, bN, xQ (X2.trans (X3.trans X4)).ids _ _ hφ]
   simp [h4]
 ·have e : i = ds.length := by omega
  subst e;refine .inl ⟨hstop, ?_⟩
  refine f0 φ1 (.ref A) H' I1.less X1 ⟨A, as, rfl, fun q => ?_, hA1, hφ⟩
  rcases q with q | q
  ·exact nB q
  ·exact I1.blk A q (.inr rfl)
theorem f_lcC {tg iter : Expr} {scope : Scope} {own : List (Str × Nat)} {lpos : Pos} (hc : X.calm = true) (hN : X.N.Nodup) (hi : PI X tg iter (Gj X.K W mi)) (ok : BlkOk X.N X.env.scope scope own)
  (hg : ∀ (s : Shared) (H : Hp) (C : Addr) (cl : List (Str × Addr)) (fp : List Addr), PG (X.blk s H scope (compEnvC scope cl C X.env) fp) tg (Hq X.K t)) (hs : ∀ x, foldedSetIterable iter X.env x = pure x := by intro _; rfl) (hv : ∀ i ∈ KZ t, i ∈ own.map (·.2) := by decide) :
  PE X (.ListComp (.List [] lpos) [⟨tg, iter, [], 0⟩] scope pos) (cR X.K W (O7 mi t (own.map (·.2)))) := cW (pe_lc hc hN hi ok hg (fun _ _ _ _ _ => dO) (fun _ _ _ _ _ => cU aH) hs) fun σ H Q h => Nd hv h
def kLcC (t : Tg) (ρ : Ev) (vs : List Nat) (ds : List PH.D) (S : aQ) : Res Vl := if ds.length <= sizeLine /\ (∀ d ∈ ds, (oK t (.dat d) (wipeE ρ vs)).isSome = true) then .ok (.cels (eI S.length ds.length)) (S ++ bQ ds.length (.lst [])) else .stuck
theorem g_lcC {ρ : Ev} {S : aQ} {vs : List Nat} : O7 mi t vs ρ S = (mi ρ S).bind (kLcC t ρ vs) := rfl
theorem MJ {ρ : Ev} {S : aQ} {vs : List Nat} {k : Nat} {ds : List PH.D} (h : ds.length <= sizeLine) : kLcC (.nm k) ρ vs ds S = .ok (.cels (eI S.length ds.length)) (S ++ bQ ds.length (.lst [])) := if_pos ⟨h, fun _ _ => rfl⟩
def Cs (g : Int -> Int -> Int) (C f : Str) (o e : FE) : FS := fun ρ S => (o ρ S).toS ρ fun x S1 => match AH S1 C f x with
 | some (.dat (.int u)) => (e ρ S1).toS ρ fun w S2 => (match w with
  | .dat (.int w) => (match Gc S2 C f x (.dat (.int (g u w))) with
   | some S3 => .next ρ S3
   | none => .stuck)
  | _ => .stuck)
 | _ => .stuck
theorem Kl {g : Int -> Int -> Int} {r : R2} (c : Cls K (He.ga K C)) (na : NoAttr K (He.ga K C) f) (hr : ∀ i j H Q, Q (.int (g i j)) H -> r (.int i) (.int j) H Q) (h : mN K W (Cs g C f mo me) D σ H) : sFldAug K (cR K W mo) (cR K W me) (cIp r) f D σ H := by
 obtain ⟨B, φ, S, ρ, I, E, f'⟩ := h;refine cJ I E f' fun φ1 S1 d1 v1 H1 I1 X1 E1 r1 f1 => ?_
 split at f1
 ·rename_i u q
  obtain ⟨a, dx, fs, u', rfl, h1, h2, h3⟩ := Fx I1 r1 q;cases h3;refine ⟨a, _, dx, fs, _, rfl, h1, c, na, h2, cJ I1 E1 f1 fun φ2 S2 d2 v2 H2 I2 X2 E2 r2 f2 => ?_⟩
  split at f2
  ·rename_i w
   cases r2;split at f2
   ·rename_i S3 q3
    unfold Gc at q3;split at q3
    ·rename_i n
     obtain ⟨a', e', h4⟩ := r1.ext X2 I1;cases e';split at q3
     ·rename_i C' fs' q4
      split at q3
      ·rename_i hc
       obtain ⟨e, hl⟩ := hc;subst e;cases q3;obtain ⟨dx2, vs, h5, h6⟩ := I2.ok n _ a q4 h4;refine hr _ _ _ _ ⟨dx2, vs, h5, by rw [h6.len]; exact hl, ?_⟩
       have X3 := Ext.put (H := H2) (o := .ins (He.ga K C') dx2 (putF f (.int (g u w)) vs)) (x := .ins C' (nN f (.dat (.int (g u w))) fs')) q4 (by simp) h4 (by simp)
       have r' : RepV K B φ2 S2 H2 (.dat (.int (g u w))) (.int (g u w)) := rfl;have I3 := I2.put q4 (by simp) h4 (by simp) (x := .ins C' (nN f (.dat (.int (g u w))) fs')) (o := .ins (He.ga K C') dx2 (putF f (.int (g u w)) vs)) ⟨dx2, putF f (.int (g u w)) vs, upd_same, (RepF.put r' h6).ext X3 I2⟩
       exact f2 φ2 σ _ I3 X3 (E2.ext X3 I2)
      ·cases q3
     ·cases q3
    ·cases q3
   ·exact f2.elim
  ·exact f2.elim
 ·exact f1.elim
theorem HW (c : Cls X.K (He.ga X.K C)) (na : NoAttr X.K (He.ga X.K C) f) (ho : PE X o (cR X.K W mo)) (he : PE X e (cR X.K W me)) : PS X (.AugAssign (.Attribute o f tpos) .Add e pos) (mN X.K W (Cs (fun x y => x + y) C f mo me)) :=
 hW (ps_fldaug ho he Ds) fun D σ H h => Kl c na (fun _ _ _ _ q => q) h
theorem Pb {g : Int -> Int -> Int} {ρ : Ev} {S : aQ} {n : Nat} {u w : Int} {fs : List (Str × Vl)} (ho : mo ρ S = .ok (.cel n) S) (he : me ρ S = .ok (.dat (.int w)) S) (hn : S[n]? = some (.ins C fs)) (hf : fs.lookup f = some (.dat (.int u))) (hl : fs.length < 1000) : Cs g C f mo me ρ S = .next ρ (S.set n (.ins C (nN f (.dat (.int (g u w))) fs))) := by
 simp only [Cs, ho, he, lW, AH, hn, if_true, hf, Gc, true_and, hl]
def OkK (P : Program) (w : World) (K : aD) (mg : Str -> Option Value) (base : Heap) (k : Nat) (x : Str) (ps : List Str) (n : Nat) (kw : Str) (dv : L2.V) (sp : Sp) : Prop :=
 ∃ fd, FnOk P w K mg base (L2.CX P w) k (He.ga K x) fd ps sp /\ mg x = some (.ref (He.ga K x)) /\ hX K (.ref (He.ga K x)) = true /\ (∃ ds, Vals [dv] ds /\ Binds K fd ps ds) /\ KBn K fd ps n [kw] (fun us ws => us ++ ws) (fun vs zs => vs ++ zs)
def R9 (md : FD) (dd : PH.D) (as : FA) : FE := fun ρ S => (as ρ S).bind fun ds S1 => md (ds ++ [.dat dd]) S1
theorem RepVs.snoc {B : Addr -> Prop} {φ : List Addr} {S : aQ} {H : Hp} : ∀ {ds : List Vl} {vs : List L2.V} {d : Vl} {v : L2.V}, RepVs K B φ S H ds vs -> RepV K B φ S H d v -> RepVs K B φ S H (ds ++ [d]) (vs ++ [v])
 | [], vs, d, v, h, r => by cases h; exact ⟨v, [], rfl, r, rfl⟩
 | d' :: ds, vs, d, v, ⟨v', ws, e, h1, h2⟩, r => by subst e; exact ⟨v', ws ++ [v], rfl, h1, RepVs.snoc h2 r⟩
def Ln (md : FD) (dd : PH.D) (ds : List Vl) (S : aQ) : Res Vl := md (ds ++ [.dat dd]) S
theorem Ow {md : FD} {dd : PH.D} {ρ : Ev} {S : aQ} : R9 md dd mas ρ S = (mas ρ S).bind (Ln md dd) := rfl
theorem MQ {md : FD} {dd : PH.D} {ds : List Vl} {S : aQ} : Ln md dd ds S = md (ds ++ [.dat dd]) S := rfl
def Gx (n : Nat) (md : FD) (as : FA) (a : FE) : FE := fun ρ S => (as ρ S).bind fun ds S1 => if ds.length = n then (a ρ S1).bind fun d S2 => md (ds ++ [d]) S2 else .stuck
def Dq (md : FD) (ds : List Vl) (d : Vl) (S : aQ) : Res Vl := md (ds ++ [d]) S
def Ll (n : Nat) (md : FD) (a : FE) (ρ : Ev) (ds : List Vl) (S : aQ) : Res Vl := if ds.length = n then (a ρ S).bind (Dq md ds) else .stuck
theorem Ia {md : FD} {n : Nat} {ρ : Ev} {S : aQ} : Gx n md mas ma ρ S = (mas ρ S).bind (Ll n md ma ρ) := rfl
theorem D5 {md : FD} {ρ : Ev} {S : aQ} {x y z : Vl} : Ll 3 md ma ρ [x, y, z] S = (ma ρ S).bind (Dq md [x, y, z]) := rfl
theorem D6 {md : FD} {ds : List Vl} {d : Vl} {S : aQ} : Dq md ds d S = md (ds ++ [d]) S := rfl
theorem P7 {j k n : Nat} {ps : List Str} {md : FD} {kw : Str} {dv : L2.V} {kpos : Pos} (F : OkK X.prog X.w X.K X.mg X.base j x ps n kw dv (spF X.K md)) (hr : Room k X.A) (tk : Takes X W) (ha : PA X (e :: es) (CN X.K W mas)) (hv : PE X a (cR X.K W ma)) (hjk : j <= k := by decide) (hg : Gl X x := by rfl) (hdb : (x == ("__debug__" : Str)) = false := by decide)
  (hall : (backToKw pos (keywordEach [⟨some kw, a, kpos⟩] X.env)).all (·.1.isSome) = true := by rfl) (hks : (backToKw pos (keywordEach [⟨some kw, a, kpos⟩] X.env)).filterMap (·.1) = [kw] := by rfl)
  (he : starEach (e :: es) X.env = (false, eval e X.env) :: starEach es X.env := by rfl) (hpl : ((backTo pos (starEach (e :: es) X.env)).any (·.1) || (backToKw pos (keywordEach [⟨some kw, a, kpos⟩] X.env)).any (·.1.isNone)) = false := by rfl) : PE X (.Call (.Name x p) (e :: es) [⟨some kw, a, kpos⟩] pos) (cR X.K W (Gx n md mas ma)) := by
 obtain ⟨fd, F, hm, hk, _, hb⟩ := F;refine ⟨fun pins s σ H Q I h => ?_⟩
 have h' : CN X.K W mas σ H fun vs H1 => tCons (cR X.K W ma) tNil σ H1 fun zs H2 => vs.length = n /\ zs.length = 1 /\ spF X.K md (vs ++ zs) H2 Q (WE W σ) := by
  refine bZ (k := fun ds ρ S1 => if ds.length = n then (ma ρ S1).bind fun d S2 => md (ds ++ [d]) S2 else .stuck) h fun B φ S ρ ds vs H1 I E r f => ?_
  split at f
  case isFalse => exact f.elim
  rename_i hl;exact gI I E f fun φ' S' d v H2 I2 X2 E2 r2 f2 => ⟨by rw [r.len]; exact hl, rfl, B, φ', S', ds ++ [d], I2, RepVs.snoc (r.ext X2 I) r2, f2.toE⟩
 refine wpAny_Call_Name_kw (ld_glob I hg hm ?_ hdb)
 refine Hj (h₀ := X.base) I.ok.mod.kin hk hall (thn (ha.run pos pins s σ H _ I h') fun us s1 ⟨vs, H1, I1, r, q⟩ => ?_) hpl he
 refine thn ((pk_cons hv pk_nil : PK X [⟨some kw, a, kpos⟩] _).run pos pins s1 σ H1 _ I1 q) fun ws s2 ⟨zs, H2, I2, rz, l1, l2, q2⟩ => ⟨I2.kIn, ?_⟩
 rw [hks];have r2 := hb.rel r rz;refine wpAny_call (codeAny_mono (F.run X.A X.stack s2 H2 ⟨us, [kw].zip ws⟩ (us ++ ws) (vs ++ zs) Q (WE W σ) (hr.mono hjk) I2.env0 (hb.to s2 us ws I2.kIn (r.length.symm.trans l1) (rz.length.symm.trans l2)) r2 q2) fun r s' hq => ?_)
 cases r with
 | error e => exact passAt tk σ pins H2 s2 e s' I2 hq
 | ok fl =>
  cases fl with
  | ret u => exact I2.after hq
  | next => exact False.elim hq
  | brk => exact False.elim hq
  | cont => exact False.elim hq
end
section
variable {P : Program} {w : World} {K : aD} {mg : Str -> Option Value} {base : Heap}
abbrev FnK (K : aD) (x : Str) (st : Stmt) (kw : Str) (dv : L2.V) : Prop := ∃ fd, FunD K x x (defArgs st) (defBody st) (defScope st) [] [(kw, dv)] (He.ga K x) fd
theorem okK {x kw : Str} {dv : L2.V} {st : Stmt} {N ps : List Str} {k n : Nat} {md : FD} {mb : FS} (F : FnK K x st kw dv) (g : mg x = some (.ref (He.ga K x))) (S : FnScope N ps (defScope st)) (R : Runs md N.length ps.length mb) (hn : n + 1 = ps.length)
  (b0 : ∀ (D : Addr) (doc pm : Value) (an : Option Addr) (cdv ct : Value) (us ks : List Value), us.length = n -> ks.length = 1 -> KwChain D ([kw].zip ks) (bindArgs (dC x x (defArgs st) (defBody st) (defScope st) .none (.ref D) doc pm an cdv ct) ⟨us, []⟩) (ps.zip (us ++ ks)))
  (b1 : ∀ (kV doc pm : Value) (an : Option Addr) (cdv ct : Value) (us ws : List Value), us.length = n -> ws.length = 1 -> bindArgs (dC x x (defArgs st) (defBody st) (defScope st) .none kV doc pm an cdv ct) ⟨us, [kw].zip ws⟩ = pure (ps.zip (us ++ ws)))
  (hbody : ∀ (cdv : Value) (A : Around) (outer : List Env) (s : Shared) (H : Hp) (E : XK), Room k (A.deeper (envOfC x (defScope st) s.heap.objs.size (He.ga K x) cdv)) -> PSs (cxOf (L2.CX P w) P w K mg base N x (defScope st) (He.ga K x) cdv A outer s H E) (defBody st) (mN K (fun c x _ H => E c x H) mb)) : OkK P w K mg base (k + 1) x ps n kw dv (spF K md) := by
 obtain ⟨fd, F⟩ := F;refine ⟨fd, FunD.ok F S (xA R) fun cdv A outer s H vs Q E hr hsp => ⟨_, hbody cdv A outer s H E hr, tQ R hsp⟩, g, F.kp, F.binds0 n (by simp) hn b0, ⟨fun s us ws _ l1 l2 => ?_, fun r1 r2 => r1.append r2⟩⟩
 obtain ⟨oc, od, dV, kV, doc, pm, an, cdv, ct, osl, rfl, lk, hcd, hD, hK⟩ := F.ex;rcases hD with ⟨_, rfl⟩ | ⟨e, _⟩
 ·exact .of_eq (b1 kV doc pm an cdv ct us ws l1 l2)
 ·exact absurd rfl e
end
def EV0 := aE @eA (aE @Bq (aE @lW (aE @Jm (aE @QD (aE @g_c (aE @g_op (aE @g_op1 (aE @g_1 (aE @g_B (aE @g_unB (aE @M8 (aE @g_and (aE @g_or (aE @QF (aE @ME (aE @MF (aE @OU (aE @OV (aE @Ro (aE @SE (aE @g_orV (aE @Jr (aE @Js (aE @MC (aE @MD (aE @Rg (aE @Ob (aE @g_kNV (aE @g_orT (aE @Rq (aE @MG (aE @MH (aE @M7 (aE @Oi (aE @g_ch1 (aE @g_ch2 (aE @Oj (aE @Ol (aE @g_if (aE @OW (aE @OX (aE @MA (aE @HS (aE @Du (aE @Dt (aE @g_lst (aE @g_tup (aE @HV (aE @Fu (aE @kTup0 (aE @kTup1 (aE @kTup2 (aE @kTup3 (aE @kTup4 (aE @kLst0 (aE @kLst1 (aE @kLst2 (aE @kLst3 (@Ri)))))))))))))))))))))))))))))))))))))))))))))))))))))))))))
def EV1 := aE @Rh (aE @HU (aE @g_sl (aE @g_sl0 (aE @g_sl1 (aE @g_sl2 (aE @g_noP (aE @Rf (aE @Oa (aE @g_frz (aE @g_app (aE @QE (aE @HR (aE @Jn (aE @Jo (aE @Jq (aE @Jp (aE @RZ (aE @g_ret (aE @Rp (aE @SB (aE @Oe (aE @QG (aE @MK (aE @ML (aE @QH (aE @Rv (aE @Og (aE @Of (aE @g_for (aE @Ru (aE @g_lc (aE @Rb (aE @MT (aE @MS (aE @Rc (aE @OP (aE @SA (aE @Od (aE @RU (aE @Fm (aE @HN (aE @HP (aE @SF (aE @RY (aE @g_ltI (aE @g_leI (aE @g_gtI (aE @g_geI (aE @g_eqI (aE @g_neI (aE @g_eqS (aE @g_neS (aE @g_eqB (aE @g_neB (aE @g_neg (aE @Rw (aE @Rx (aE @Rm (@Rn)))))))))))))))))))))))))))))))))))))))))))))))))))))))))))
def EV2 := aE @Ft (aE @M5 (aE @RW (aE @RX (aE @Fp (aE @Fs (aE @g_slT (aE @g_slL (aE @g_slS (aE @OS (aE @OR (aE @M6 (aE @OQ (aE @M9 (aE @Ju (aE @Jt (aE @Ra (aE @OY (aE @Rk (aE @Rj (aE @MI (aE @g_fld (aE @Oc (aE @RV (aE @Fn (aE @HQ (aE @iY (aE @yG (aE @Ov (aE @Ou (aE @Ot (aE @Os (aE @Oq (aE @Oo (aE @On (aE @Om (aE @MX (aE @MW (aE @MV (aE @MU (aE @Re (aE @OZ (aE @MB (aE @Rz (aE @g_inO (aE @Ox (aE @S7 (aE @Oh (aE @MM (aE @g_lcC (aE @MJ (aE @Ow (aE @MQ (aE @Ia (aE @D5 (aE @D6 (@DW))))))))))))))))))))))))))))))))))))))))))))))))))))))))
end PH
local macro_rules
 | `(tactic| simp! [$xs,*] $[$l:location]?) => `(tactic| simp (config := { implicitDefEqProofs := false }) only [$xs,*, PH.EV0, PH.EV1, PH.EV2, bO, cO, Bool.not_true, Bool.not_false, eq_self, if_true, if_false, Bool.true_or, Bool.false_or, Bool.or_true, GU, zC, Bool.true_and, Bool.and_false, Bool.false_and, iT, aJ, aZ, beq_self_eq_true, A9, PH.lk, PH.isTy, PH.fIsi, PH.fIsi2, PH.kindOf, PH.wipeE, decide_true, decide_false, Int.reduceEq, Int.reduceLT, Int.reduceLE, Int.reduceSub, Int.reduceAdd, Int.reduceNeg, Int.reduceToNat, Int.reduceNe, Nat.reduceAdd, Nat.reduceLT, Nat.reduceLeDiff, String.reduceEq, String.reduceBEq] $[$l:location]?)
namespace PH
open PySem PySem.Spec PyProof.Rows L2
structure FnG (P : Program) (w : World) (K : aD) (mg : Str -> Option Value) (base : Heap) (CX : CXT) (k : Nat) (f : Addr) (fd : FuncData) (ps : List Str) (sp : Sp) : Prop where
 len : ∀ vs H Q E, sp vs H Q E -> vs.length = ps.length
 run : ∀ (A : Around) (outer : List Env) (s : Shared) (H : Hp) (args : Args) (us : List Value) (vs : List V) (Q : VK) (E : XK), Room k A -> A.guards = some [] -> Env0 P w K mg base A outer s H -> BindsTo s fd args (ps.zip us) -> Vals vs us -> sp vs H Q E ->
  codeAny (model P w) A (.call (.ref f) args) (CR CX outer P w H s Q E) s
section
variable {P : Program} {w : World} {K : aD} {mg mb : Str -> Option Value} {base : Heap} {CX : CXT} {k j : Nat} {f : Addr} {fd : FuncData} {ps : List Str} {sp : Sp}
theorem MZ {name qual : Str} {params : Arguments} {body : List Stmt} {scope : Scope} {dV kV doc pm cdv ct oc : Value} {an od : Option Addr} {osl : Array (Option Value)} {N : List Str} (lk : K.lookup f = some ⟨oc, od, .func (dC name qual params body scope dV kV doc pm an cdv ct), osl⟩) (hcd : PySem.W.codeIn K cdv qual = true) (S : FnScope N ps scope) (len : ∀ vs H Q E, sp vs H Q E -> vs.length = ps.length)
  (hbody : ∀ (A : Around) (outer : List Env) (s : Shared) (H : Hp) (vs : List V) (Q : VK) (E : XK), Room k (A.deeper (envOfC qual scope s.heap.objs.size f cdv)) -> A.guards = some [] -> sp vs H Q E ->
   ∃ t, PSs (cxOf CX P w K mg base N qual scope f cdv A outer s H E) body t /\ t { nx := fun _ H' => Q .non H', rt := Q } (start N vs) H) :
  FnG P w K mg base CX (k + 1) f (dC name qual params body scope dV kV doc pm an cdv ct) ps sp := by
 refine ⟨len, fun A outer s H args us vs Q E hr hgd e0 hb rv hsp => ?_⟩
 have KX : K.In s.heap := e0.mod.kin.keeps fun b o e => (e0.bs b o e).1
 have lim : s.heap.NoLimit := e0.mod.nolimit.keeps fun b o e => (e0.bs b o e).1
 have names : ∀ y ∈ ps.zip us, scope.names.lookup y.1 = some .local \/ (scope.names.lookup y.1 = some .cell /\ ((cellsFrom (s.heap.objs.size + 1) scope.names []).lookup y.1).isSome = true) := fun y hy => by
  obtain ⟨n, v⟩ := y;exact (S.par n (List.of_mem_zip hy).1).imp id fun q => ⟨q, PySem.W.cellsFrom_some _ _ _ (.inl q)⟩
 refine codeAny_call_function hr.depth (KX _ _ lk) rfl S.co S.gen rfl (PySem.W.codeRec_of KX hcd) (hb _ _ _ _ (wpAny_newFunctionEnv_cells S.kind names fun env he s1 x => ?_))
 subst he;obtain ⟨t, ht, hq⟩ := hbody A outer s H vs Q E (hr.deeper _) hgd hsp;have I := inv_start (CX := CX) (E := E) S hr.hd e0 (len _ _ _ _ hsp) rv x;refine ⟨lim.keeps x.toInCall.keep, codeAny_func (wpAny_mono (ht.run [] s1 (start N vs) H _ I hq) (fun fl s' hs => ?_) fun e s' hs => hs)⟩
 cases fl with
 | ret u => obtain ⟨v, σ', H', J, r, q⟩ := hs; exact ⟨v, H', J.os, J.bare, J.base, J.hok, r, q⟩
 | next => obtain ⟨σ', H', J, q⟩ := hs; exact ⟨V.non, H', J.os, J.bare, J.base, J.hok, rfl, q⟩
 | brk => obtain ⟨_, _, _, q⟩ := hs; exact q.elim
 | cont => obtain ⟨_, _, _, q⟩ := hs; exact q.elim
end
def OkG (P : Program) (w : World) (K : aD) (mg : Str -> Option Value) (base : Heap) (k : Nat) (x : Str) (ps : List Str) (sp : Sp) : Prop :=
 ∃ fd, FnG P w K mg base (L2.CX P w) k (He.ga K x) fd ps sp /\ mg x = some (.ref (He.ga K x)) /\ hX K (.ref (He.ga K x)) = true /\ Binds K fd ps []
section
variable {X : Cx} {W : WX} {e : Expr} {es : List Expr} {pos p : Pos} {x : Str} {mas : FA} {ps : List Str} {md : FD} {j k : Nat} {fd : FuncData} {f : Addr} {sp : Sp}
theorem Nr {pins : List (Addr × Obj)} {σ : L2.St} {H : Hp} {s : Shared} {Q : VK} {us : List Value} {vs : List V} (F : FnG X.prog X.w X.K X.mg X.base (L2.CX X.prog X.w) k f fd ps sp) (hr : Room k X.A) (hgd : X.A.guards = some []) (hb : Binds X.K fd ps []) (tk : Takes X W)
  (I : Inv X pins σ H s) (r : Vals vs us) (h : sp vs H Q (WE W σ)) : wpAny (model X.prog X.w) X.A (call (.ref f) us) (EP X pins σ Q) X.xe s := by
 have hl : us.length = ps.length := r.length.symm.trans (F.len _ _ _ _ h);have b := hb s us I.kIn (by rw [cS]; exact hl)
 rw [cS] at b;refine wpAny_call (codeAny_mono (F.run X.A X.stack s H ⟨us, []⟩ us vs Q (WE W σ) hr hgd I.env0 b r h) fun r s' hq => ?_)
 match r, hq with
 | .error e, hq => exact passAt tk σ pins H s e s' I hq
 | .ok (.ret u), hq => exact I.after hq
 | .ok .next, hq => exact hq.elim
 | .ok .brk, hq => exact hq.elim
 | .ok .cont, hq => exact hq.elim
theorem E9 (F : OkG X.prog X.w X.K X.mg X.base j x ps (spF X.K md)) (hr : Room k X.A) (hgd : X.A.guards = some []) (tk : Takes X W) (ha : PA X (e :: es) (CN X.K W mas)) (hjk : j <= k := by decide) (hg : Gl X x := by rfl) (hdb : (x == ("__debug__" : Str)) = false := by decide)
  (he : starEach (e :: es) X.env = (false, eval e X.env) :: starEach es X.env := by rfl) (hpl : (backTo pos (starEach es X.env)).any (·.1) = false := by rfl) : PE X (.Call (.Name x p) (e :: es) [] pos) (cR X.K W (bM md mas)) := by
 obtain ⟨fd, F, hm, hk, hb⟩ := F;have h0 : PE X (.Call (.Name x p) (e :: es) [] pos) (tCallS (spF X.K md) (WE W) (CN X.K W mas)) := ⟨fun pins s σ H Q I h => by
  refine wpAny_Call_Name_kw (ld_glob I hg hm ?_ hdb)
  refine wU (h₀ := X.base) I.ok.mod.kin hk (thn (ha.run pos pins s σ H _ I h) fun us s1 ⟨vs, H1, I1, r, q⟩ => ⟨I1.kIn, ?_⟩) he hpl
  exact Nr F (hr.mono hjk) hgd hb tk I1 r q⟩
 exact cW h0 fun σ H Q h => bZ (k := fun ds _ S => md ds S) h fun B φ S ρ d v H1 I E r f => ⟨B, φ, S, d, I, r, f.toE⟩
end
section
variable {P : Program} {w : World} {K : aD} {mg : Str -> Option Value} {base : Heap}
theorem okG {x : Str} {st : Stmt} {N ps : List Str} {k : Nat} {md : FD} {mb : FS} (F : rB K x st) (g : mg x = some (.ref (He.ga K x))) (S : FnScope N ps (defScope st)) (R : Runs md N.length ps.length mb)
  (bnd : ∀ (kV doc pm : Value) (an : Option Addr) (cdv ct : Value) (us : List Value), us.length = ps.length -> bindArgs (dC x x (defArgs st) (defBody st) (defScope st) .none kV doc pm an cdv ct) ⟨us, []⟩ = pure (ps.zip us))
  (hbody : ∀ (cdv : Value) (A : Around) (outer : List Env) (s : Shared) (H : Hp) (E : XK), Room k (A.deeper (envOfC x (defScope st) s.heap.objs.size (He.ga K x) cdv)) -> A.guards = some [] ->
   PSs (cxOf (L2.CX P w) P w K mg base N x (defScope st) (He.ga K x) cdv A outer s H E) (defBody st) (mN K (fun c x _ H => E c x H) mb)) : OkG P w K mg base (k + 1) x ps (spF K md) := by
 obtain ⟨fd, F⟩ := F;refine ⟨fd, ?_, g, F.kp, F.bindsN bnd⟩
 obtain ⟨oc, od, dV, kV, doc, pm, an, cdv, ct, osl, e, lk, hc⟩ := F.ex;subst e;exact MZ lk hc.1 S (xA R) fun A outer s H vs Q E hr hgd hsp => ⟨_, hbody cdv A outer s H E hr hgd, tQ R hsp⟩
theorem La {x : Str} {st : Stmt} {N ps : List Str} {k : Nat} {md : FD} {mb : FS} (F : rB K x st) (S : FnScope N ps (defScope st)) (R : Runs md N.length ps.length mb)
  (bnd : ∀ (kV doc pm : Value) (an : Option Addr) (cdv ct : Value) (us : List Value), us.length = ps.length -> bindArgs (dC x x (defArgs st) (defBody st) (defScope st) .none kV doc pm an cdv ct) ⟨us, []⟩ = pure (ps.zip us))
  (hbody : ∀ (base : Heap) (cdv : Value) (A : Around) (outer : List Env) (s : Shared) (H : Hp) (E : XK), Room k (A.deeper (envOfC x (defScope st) s.heap.objs.size (He.ga K x) cdv)) -> A.guards = some [] ->
   PSs (cxOf (L2.CX P w) P w K mg base N x (defScope st) (He.ga K x) cdv A outer s H E) (defBody st) (mN K (fun c x _ H => E c x H) mb)) :
  ∃ fd, (∀ (s : Shared) (us : List Value), us.length = ps.length -> BindsTo s fd ⟨us, []⟩ (ps.zip us)) /\ ∀ base, FnG P w K mg base (L2.CX P w) (k + 1) (He.ga K x) fd ps (spF K md) := by
 obtain ⟨fd, F⟩ := F;refine ⟨fd, fun s us hl => F.bindsA bnd s us hl, fun base => ?_⟩
 obtain ⟨oc, od, dV, kV, doc, pm, an, cdv, ct, osl, e, lk, hc⟩ := F.ex;subst e;exact MZ lk hc.1 S (xA R) fun A outer s H vs Q E hr hgd hsp => ⟨_, hbody base cdv A outer s H E hr hgd, tQ R hsp⟩
theorem HM {H : Hp} {h : Heap} {a : Addr} {vs : List Value} (ha : h.get? a = some { cls := .type "list", data := .seq vs.toArray }) (only : ∀ b, H b ≠ none -> b = a) {b : Addr} {m : Str -> Option Value} (n : h.Ns b m) : (hidT h H).Ns b m := by
 obtain ⟨o, es, ep, e, d, r⟩ := n;refine ⟨o, es, ep, hidT_get e ?_, d, r⟩
 by_cases q : H b = none
 ·exact q
 ·have e' := only b q
  subst e';rw [ha] at e;cases e;cases d
theorem RS {H : Hp} {h : Heap} {a : Addr} (KX : K.In h) (only : ∀ b, H b ≠ none -> b = a) (hK : H a ≠ none -> K.lookup a = none) : K.In (hidT h H) := fun b o e => hidT_get (KX b o e) (by
 by_cases q : H b = none
 ·exact q
 ·have e' := only b q
  subst e';rw [hK q] at e;cases e)
theorem Fc {mb : Str -> Option Value} {k : Nat} {fa a : Addr} {fd : FuncData} {x : Str} {sp : Sp} {s : Shared} {vs : List Value} {H : Hp} {vl : List V} (KX : K.In s.heap) (hns : s.heap.Ns mainGlobals mg) (hb : s.heap.Ns builtinsNs mb) (hbb : ∀ x : Str, x ≠ "__name__" -> mb x = bootBuiltins x) (hlim : s.heap.NoLimit) (hg : s.gens = #[])
  (ha : s.heap.get? a = some { cls := .type "list", data := .seq vs.toArray }) (hr : Room k callerA) (F : ∀ base : Heap, K.In base -> base.Ns mainGlobals mg -> FnG P w K mg base (L2.CX P w) k fa fd [x] sp) (hbind : ∀ (s : Shared) (u : Value), BindsTo s fd ⟨[u], []⟩ [(x, u)])
  (hsp : sp [.ref a] H (fun v _ => v = .bl true) fun _ _ _ => False) (hO : Only H) (hok : HOk P w H s.heap) (only : ∀ b, H b ≠ none -> b = a) (hK : H a ≠ none -> K.lookup a = none) :
  codeAny (model P w) callerA (.call (.ref fa) ⟨[.ref a], []⟩) (fun r s' => r = .ok (.ret (.bool true)) /\ OldK s.heap s'.heap /\ s'.os = s.os /\ AllBare s'.gens) s := by
 have hin := RS KX only hK;have hn := HM ha only hns;obtain ⟨mc, l1, l2⟩ := hlim;have e0 : Env0 P w K mg (hidT s.heap H) callerA [] s H := ⟨rfl, ⟨hin, hn, ⟨mb, HM ha only hb, hbb⟩, ⟨mc, HM ha only l1, l2⟩⟩, fun b o e => of_hidT e, Nat.le_of_eq (hidT_size _ _), trivial, fun b hb => absurd (show b ∈ ([] : List Addr) from hb) (by simp), hok, .of_eq hg⟩
 refine codeAny_mono ((F _ hin hn).run callerA [] s H ⟨[.ref a], []⟩ [.ref a] [.ref a] _ _ hr rfl e0 (hbind s (.ref a)) (.cons rfl .nil) hsp) fun r s' h => ?_
 match r, h with
 | .error e, z => obtain ⟨_, _, _, _, _, _, _, _, _, _, _, _, z⟩ := z; exact z.elim
 | .ok .next, z => exact z.elim
 | .ok .brk, z => exact z.elim
 | .ok .cont, z => exact z.elim
 | .ok (.ret u), ⟨v, H', os, bare, un, hok', rv, q⟩ =>
  obtain rfl : v = .bl true := q;obtain rfl : u = Value.bool true := rv;refine ⟨rfl, OldK.of_keep fun b o e => ?_, os, bare⟩
  rcases hO b with z | ⟨ob, xs, z⟩
  ·exact un.keep b o e z (by intro z; exact absurd (show b ∈ ([] : List Addr) from z) (by simp)) (by simp)
  ·obtain ⟨e1, _⟩ := hok b _ z
   obtain ⟨e2, _⟩ := hok' b _ (un.frzs b ob _ z);rw [e] at e1;cases e1;exact e2
theorem Jg {mb : Str -> Option Value} {k : Nat} {fa a : Addr} {fd : FuncData} {x : Str} {sp : Sp} {s : Shared} {vs : List Value} {ns : List Int} (KX : K.In s.heap) (hns : s.heap.Ns mainGlobals mg) (hb : s.heap.Ns builtinsNs mb) (hbb : ∀ x : Str, x ≠ "__name__" -> mb x = bootBuiltins x) (hlim : s.heap.NoLimit) (hg : s.gens = #[])
  (ha : s.heap.get? a = some { cls := .type "list", data := .seq vs.toArray }) (hi : IntsAre vs ns) (hl : ns.length <= sizeLine) (hr : Room k callerA) (F : ∀ base : Heap, K.In base -> base.Ns mainGlobals mg -> FnG P w K mg base (L2.CX P w) k fa fd [x] sp) (hbind : ∀ (s : Shared) (u : Value), BindsTo s fd ⟨[u], []⟩ [(x, u)])
  (hsp : ∀ H : Hp, Only H -> SqL K H a (ns.map V.int) -> sp [.ref a] H (fun v _ => v = .bl true) fun _ _ _ => False) :
  codeAny (model P w) callerA (.call (.ref fa) ⟨[.ref a], []⟩) (fun r s' => r = .ok (.ret (.bool true)) /\ OldK s.heap s'.heap /\ s'.os = s.os /\ AllBare s'.gens) s := by
 have rv := vals_ints hi;cases hk : K.lookup a with
 | some o =>
  obtain rfl : o = { cls := .type "list", data := .seq vs.toArray } := Option.some.inj ((KX a o hk).symm.trans ha);have hO : Only fun _ => none := fun _ => .inl rfl
  exact Fc (vl := []) KX hns hb hbb hlim hg ha hr F hbind (hsp _ hO (.inr ⟨_, vs.toArray, _, hk, rfl, rfl, rfl, by rw [List.size_toArray, hi.length]; exact hl, by simpa using rv⟩)) hO (fun b u z => by cases z) (fun b z => absurd rfl z) fun z => absurd rfl z
 | none =>
  let H : Hp := fun b => if b = a then some (.frz { cls := .type "list", data := .seq vs.toArray } (.lst (ns.map V.int))) else none
  have at_ : H a = some (.frz { cls := .type "list", data := .seq vs.toArray } (.lst (ns.map V.int))) := if_pos rfl;have off : ∀ b, b ≠ a -> H b = none := fun b hb => if_neg hb
  have only : ∀ b, H b ≠ none -> b = a := fun b z => Classical.byContradiction fun q => z (off b q)
  have hO : Only H := fun b => by
   by_cases q : b = a
   ·subst q; exact .inr ⟨_, _, at_⟩
   ·exact .inl (off b q)
  refine Fc (vl := []) KX hns hb hbb hlim hg ha hr F hbind (hsp H hO (.inl (.inr ⟨_, at_⟩))) hO (fun b u z => ?_) only fun _ => hk
  by_cases q : b = a
  ·subst q
   rw [at_] at z;cases z;exact ⟨ha, by rw [aN]; exact hl, vs, _, rv, ha⟩
  ·rw [off b q] at z
   cases z
end
theorem walk_g {l : PySem.W.OpenLaw} {n k : Nat} {q : Program} {loose : List Str} {XP : (Str -> Option Value) -> Heap -> Prop} {YP : World -> Heap -> Prop} {d : DefRec} {x : Str} (e1 : l.most = some n) (e2 : n <= sizeLine) (e3 : d.params.defaults = []) (e4 : Room k callerA)
  (e5 : ∀ (w : World) (mg : Str -> Option Value) (fa : Addr) (h : Heap), YP w h -> h.Ns mainGlobals mg -> mg d.name = some (.ref fa) -> ∃ (K : aD) (fd : FuncData) (sp : Sp), K.In h /\ (∀ (s : Shared) (u : Value), BindsTo s fd ⟨[u], []⟩ [(x, u)]) /\
   (∀ (H : Hp) (a : Addr) (ns : List Int), ns.length <= n -> Only H -> SqL K H a (ns.map V.int) -> sp [.ref a] H (fun v _ => v = .bl true) fun _ _ _ => False) /\ ∀ base : Heap, K.In base -> base.Ns mainGlobals mg -> FnG l.prog w K mg base (L2.CX l.prog w) k fa fd [x] sp) :
  PySem.W.WalkO q loose XP YP l.row.toRowW d [] (fun f vs => PySem.call f vs) :=
 Att.attach_call e1 e3 fun w s0 s1 mg mb fa o pm cd doc a vs ns G Y _ _ _ m1 m2 m3 m4 m5 => by
  obtain ⟨K, fd, sp, KX, hb, hs, hF⟩ := e5 w mg fa _ Y G.T.g m1;exact Jg KX G.T.g G.T.b G.T.builtins G.T.nolimit m5 m2 m3 (dF m4 e2) e4 hF hb fun H h1 h2 => hs H a ns m4 h1 h2
section
variable {X : Cx} {W : WX} {e a b c o i : Expr} {es rest : List Expr} {pos pos' p q p2 tpos apos cpos : Pos} {x y z C f : Str} {K : aD} {ma mb mc mo me mi mv : FE} {mt mu : FT} {mas : FA} {B : Addr -> Prop} {φ φ' : List Addr} {S S' : aQ} {H H' : Hp} {σ : L2.St} {Q : VK} {m n : FS} {st : Stmt} {gN : List Stmt} {D : Ends} {t t1 : Tg}
theorem Eb {k : Str} : ∀ {vs : List (Str × V)}, valV (iQ vs) (Sum.inr k) = vs.lookup k
 | [] => rfl
 | (g, v) :: r => by
  have e : iQ ((g, v) :: r) = (Sum.inr g, v) :: iQ r := rfl;rw [e, eP]
  by_cases h : k = g
  ·subst h
   rw [valV_pos rfl];simp
  ·rw [valV_neg (fun q => h (Sum.inr.inj q).symm), Eb, show (k == g) = false from beq_eq_false_iff_ne.mpr h]
theorem Ld {vs : List (Str × V)} : (iQ vs).length = vs.length := by simp [iQ]
theorem Qo {k : Str} {v : V} : ∀ {vs : List (Str × V)}, (vs.map Prod.fst).Nodup -> putK (iQ vs) (Sum.inr k) v = iQ (putF k v vs) := by
 have map_no : ∀ {vs : List (Str × V)}, k ∉ vs.map Prod.fst -> (iQ vs).map (fun kv => if kv.1 = (Sum.inr k : Key) then (kv.1, v) else kv) = iQ vs := fun {vs} h => by
  induction vs with
  | nil => rfl
  | cons g r ih =>
   simp only [aK, bH, not_or] at h;have e : iQ (g :: r) = (Sum.inr g.1, g.2) :: iQ r := rfl;rw [e, aK, ih h.2, if_neg fun q => h.1 (Sum.inr.inj q).symm]
 have any_no : ∀ {vs : List (Str × V)}, ((iQ vs).any fun kv => decide (kv.1 = (Sum.inr k : Key))) = decide (k ∈ vs.map Prod.fst) := fun {vs} => by
  induction vs with
  | nil => rfl
  | cons g r ih =>
   have e : iQ (g :: r) = (Sum.inr g.1, g.2) :: iQ r := rfl;rw [e, zB, ih]
   by_cases q : g.1 = k
   ·simp [q]
   ·have q' : ¬ k = g.1 := fun z => q z.symm
    simp [q, q', Sum.inr.injEq]
 intro vs hn
 induction vs with
 | nil => rfl
 | cons g r ih =>
  obtain ⟨g1, g2⟩ := g;simp only [aK, List.nodup_cons] at hn;have e : iQ ((g1, g2) :: r) = (Sum.inr g1, g2) :: iQ r := rfl
  by_cases q : g1 = k
  ·subst q
   unfold putK putF;rw [if_pos (by rw [e, zB]; simp), e, aK, if_pos rfl, map_no hn.1, if_pos rfl]
   rfl
  ·have ih := ih hn.2
   unfold putK at ih ⊢;unfold putF;rw [if_neg q];have e2 : iQ ((g1, g2) :: putF k v r) = (Sum.inr g1, g2) :: iQ (putF k v r) := rfl;rw [e2, <- ih, e, zB, show decide ((Sum.inr g1 : Key) = Sum.inr k) = false from decide_eq_false fun z => q (Sum.inr.inj z), Bool.false_or]
   by_cases z : ((iQ r).any fun kv => decide (kv.1 = (Sum.inr k : Key))) = true
   ·rw [if_pos z, if_pos z, aK, if_neg fun z => q (Sum.inr.inj z)]
   ·rw [if_neg z, if_neg z]
    rfl
theorem RepF.fsts : ∀ {fs : List (Str × Vl)} {vs : List (Str × V)}, RepF K B φ S H fs vs -> vs.map Prod.fst = fs.map Prod.fst
 | [], vs, h => by cases h; rfl
 | d :: ds, vs, ⟨v, ws, e, _, h2⟩ => by subst e; simp [RepF.fsts h2]
def rDGet : R2 := fun x y H Q => ∃ a v, x = .ref a /\ DGet H a y (some v) /\ Q v H
def cX (x y : Vl) (S : aQ) : Res Vl := match x, y with
 | .cel n, .dat (.str k) => (match S[n]? with
  | some (.dct fs) => (match fs.lookup k with
   | some d => .ok d S
   | none => .stuck)
  | _ => .stuck)
 | _, _ => .stuck
theorem Ii {n : Nat} {k : Str} {fs : List (Str × Vl)} {d : Vl} {v : V} (I : GInv K B φ S H) (r : RepV K B φ S H (.cel n) v) (h : S[n]? = some (.dct fs)) (hl : fs.lookup k = some d) : ∃ a u, v = .ref a /\ DGet H a (.str k) (some u) /\ RepV K B φ S H d u := by
 obtain ⟨a, rfl, h1⟩ := r;obtain ⟨vs, h2, h3⟩ := I.ok n _ a h h1;obtain ⟨u, h4, h5⟩ := h3.look hl;exact ⟨a, u, rfl, by have := DGet.k (k := Sum.inr k) h2; rw [Eb, h4] at this; exact this, h5⟩
theorem Qi : eX K rDGet cX := fun {W σ B φ S H x y d e Q} I r1 r2 f => by
 unfold cX at f;split at f
 ·rename_i n k
  cases r2;split at f
  ·rename_i fs q
   split at f
   ·rename_i d' ql
    obtain ⟨a, u, rfl, g, ru⟩ := Ii I r1 q ql;exact ⟨a, u, rfl, g, Fin.now f I ru⟩
   ·exact f.elim
  ·exact f.elim
 ·exact f.elim
theorem dJ (hu : X.A.units + 64 < cLine) (ho : PE X o (cR X.K W mo)) (hi : PE X i (cR X.K W mi)) (hs : NoSl i := by intro _ _; rfl) : PE X (.Subscript o i pos) (cR X.K W (aR cX mo mi)) := cW (pe_dget (by omega) ho hi hs) fun σ H Q h => BD Qi h
def Es (S : aQ) (x y d : Vl) : Option aQ := match x, y with
 | .cel n, .dat (.str k) => (match S[n]? with
  | some (.dct fs) => if fs.length < 1000 /\ (fs.map Prod.fst).Nodup then some (S.set n (.dct (nN k d fs))) else none
  | _ => none)
 | _, _ => none
theorem Hv {x y d : Vl} {S3 : aQ} {vx vy v : V} (I : GInv K B φ S H) (rx : RepV K B φ S H x vx) (ry : RepV K B φ S H y vy) (r : RepV K B φ S H d v) (h : Es S x y d = some S3) : ∃ a H', vx = .ref a /\ DPut H a vy v H' /\ GInv K B φ S3 H' /\ Ext φ S H φ S3 H' := by
 unfold Es at h;split at h
 ·rename_i n k
  obtain ⟨a, rfl, h1⟩ := rx;cases ry;split at h
  ·rename_i fs q
   split at h
   ·rename_i hc
    obtain ⟨hl, hn⟩ := hc;cases h;obtain ⟨vs, h4, h5⟩ := I.ok n _ a q h1;have X3 := Ext.put (H := H) (o := .dK (iQ (putF k v vs))) (x := .dct (nN k d fs)) q (by simp) h1 (by simp)
    have I3 := I.put q (by simp) h1 (by simp) (x := .dct (nN k d fs)) (o := .dK (iQ (putF k v vs))) ⟨putF k v vs, upd_same, (RepF.put r h5).ext X3 I⟩
    have g := DPut.k (k := Sum.inr k) (v := v) h4 (by rw [Ld, h5.len]; exact Nat.lt_trans hl (by decide))
    rw [Qo (by rw [h5.fsts]; exact hn)] at g
    exact ⟨a, _, rfl, g, I3, X3⟩
   ·cases h
  ·cases h
 ·cases h
def Ba (o i v : FE) : FS := fun ρ S => (v ρ S).toS ρ fun d S1 => (o ρ S1).toS ρ fun x S2 => (i ρ S2).toS ρ fun y S3 => match Es S3 x y d with
 | some S4 => .next ρ S4
 | none => .stuck
theorem yI (hu : X.A.units + 64 < cLine) (ho : PE X o (cR X.K W mo)) (hi : PE X i (cR X.K W mi)) (hv : PE X e (cR X.K W mv)) (hs : swapsWith e (some (.Subscript o i pos')) pos.line X.env = pure false := by rfl) : PS X (.Assign [.Subscript o i pos'] e pos) (mN X.K W (Ba mo mi mv)) := hW (ps_dput (by omega) ho hi hv hs) fun D σ H h => by
 obtain ⟨B, φ, S, ρ, I, E, f'⟩ := h;refine cJ I E f' fun φ1 S1 d1 v1 H1 I1 X1 E1 r1 f1 => cJ I1 E1 f1 fun φ2 S2 d2 v2 H2 I2 X2 E2 r2 f2 => cJ I2 E2 f2 fun φ3 S3 d3 v3 H3 I3 X3 E3 r3 f3 => ?_
 split at f3
 ·rename_i S4 q
  obtain ⟨a, H4, e1, g, I4, X4⟩ := Hv I3 (r2.ext X3 I2) r3 ((r1.ext X2 I1).ext X3 I2) q;exact ⟨a, H4, e1, g, f3 φ3 σ H4 I4 X4 (E3.ext X4 I3)⟩
 ·exact f3.elim
def AC (g : Vl -> Vl -> aQ -> Res Vl) (o i v : FE) : FS := fun ρ S => (o ρ S).toS ρ fun x S1 => (i ρ S1).toS ρ fun y S2 => match cX x y S2 with
 | .ok u _ => (v ρ S2).toS ρ fun w S3 => (match g u w S3 with
  | .ok z S4 => (match Es S4 x y z with
   | some S5 => .next ρ S5
   | none => .stuck)
  | _ => .stuck)
 | _ => .stuck
theorem Kj {g : Vl -> Vl -> aQ -> Res Vl} {rd : R2} (s : eX K rd g) (h : mN K W (AC g mo mi mv) D σ H) : sDAug (cR K W mo) (cR K W mi) (cR K W mv) rd D σ H := by
 obtain ⟨B, φ, S, ρ, I, E, f'⟩ := h;refine cJ I E f' fun φ1 S1 d1 v1 H1 I1 X1 E1 r1 f1 => cJ I1 E1 f1 fun φ2 S2 d2 v2 H2 I2 X2 E2 r2 f2 => ?_
 split at f2
 ·rename_i u S2' q
  unfold cX at q;split at q
  ·rename_i n k
   have r2' := r2;cases r2;split at q
   ·rename_i fs qn
    split at q
    ·rename_i d' ql
     cases q;obtain ⟨a, uv, ea, gt, ru⟩ := Ii I2 (r1.ext X2 I1) qn ql;subst ea;refine ⟨a, uv, rfl, gt, cJ I2 E2 f2 fun φ3 S3 d3 v3 H3 I3 X3 E3 r3 f3 => ?_⟩
     split at f3
     ·rename_i z S4 q4
      refine s (W := W) (σ := σ) I3 (ru.ext X3 I2) r3 ?_
      rw [q4];intro φ4 v4 H4 I4 X4 r4;split at f3
      ·rename_i S5 q5
       obtain ⟨a', H5, e1, g5, I5, X5⟩ := Hv I4 (((r1.ext X2 I1).ext X3 I2).ext X4 I3) ((r2'.ext X3 I2).ext X4 I3) r4 q5;cases e1;exact ⟨H5, g5, f3 φ4 σ H5 I5 (X4.trans X5) ((E3.ext X4 I3).ext X5 I4)⟩
      ·exact f3.elim
     ·exact f3.elim
    ·cases q
   ·cases q
  ·cases q
 ·exact f2.elim
def G1 : Vl -> Vl -> aQ -> Res Vl
 | .dat (.int i), .dat (.int j), S => .ok (.dat (.int (i + j))) S
 | _, _, _ => .stuck
def Fz : Vl -> Vl -> aQ -> Res Vl
 | .dat (.int i), .dat (.int j), S => .ok (.dat (.int (i - j))) S
 | _, _, _ => .stuck
theorem Qk : eX K rAdd G1 := fun {W σ B φ S H x y d e Q} I r1 r2 f => by
 unfold G1 at f;split at f
 ·cases r1; cases r2; exact ⟨_, _, rfl, rfl, Fin.now f I rfl⟩
 ·exact f.elim
theorem Qd : eX K rSub Fz := fun {W σ B φ S H x y d e Q} I r1 r2 f => by
 unfold Fz at f;split at f
 ·cases r1; cases r2; exact ⟨_, _, rfl, rfl, Fin.now f I rfl⟩
 ·exact f.elim
def HX (x y : Vl) (S : aQ) : Res Vl := match x, y with
 | .cel n, .dat (.lst es) => (match S[n]? with
  | some (.lst ds) => if ds.length + es.length <= sizeLine then .ok (.cel n) (S.set n (.lst (ds ++ es))) else .stuck
  | _ => .stuck)
 | _, _ => .stuck
theorem Kt : eX K rExt2 HX := fun {W σ B φ S H x y d e Q} I r1 r2 f => by
 unfold HX at f;split at f
 ·rename_i n es
  obtain ⟨a, rfl, h1⟩ := r1;obtain ⟨b, zs, rfl, nb, h2, l2⟩ := r2;split at f
  ·rename_i ds q
   split at f
   ·rename_i hl
    obtain ⟨vs, h3, l3⟩ := I.ok n _ a q h1;refine ⟨a, b, vs, zs, rfl, rfl, h3, h2, by rw [l3.len, l2.len]; exact hl, ?_⟩
    exact C5 (v := .ref a) (d' := .cel n) (vs := vs) I q h1 (RepL.append l3 l2) ⟨a, rfl, h1⟩ f
   ·exact f.elim
  ·exact f.elim
 ·exact f.elim
theorem uL {op : Operator} {g : Vl -> Vl -> aQ -> Res Vl} {rd : R2} (hop : InOp X op rd) (s : eX X.K rd g) (hu : X.A.units + 64 < cLine) (ho : PE X o (cR X.K W mo)) (hi : PE X i (cR X.K W mi)) (hv : PE X e (cR X.K W mv))
  (ha : ∀ ov iv new, augStore i ov iv new = (do holding [new, ov, iv] (setItem ov iv new); release [new, ov, iv] []; pure .next) := by intro _ _ _; rfl) : PS X (.AugAssign (.Subscript o i tpos) op e pos) (mN X.K W (AC g mo mi mv)) := hW (ps_daug (by omega) ho hi hv hop ha) fun D σ H h => Kj s h
theorem HI : InOp X .Add rExt2 := fun pins s σ H x y u v Q I rx ry h => iop_ext pins s σ H x y u v Q I rx ry h
end
section
variable {X : Cx} {W : WX} {e a b c o i : Expr} {es rest : List Expr} {pos pos' p q p2 tpos apos cpos : Pos} {x y z C f : Str} {K : aD} {ma mb mc mo me mi mv : FE} {mt mu : FT} {mas : FA} {B : Addr -> Prop} {φ φ' : List Addr} {S S' : aQ} {H H' : Hp} {σ : L2.St} {Q : VK} {m n : FS} {st : Stmt} {gN : List Stmt} {D : Ends} {t t1 : Tg}
def Pt (K : aD) : V -> Hp -> VK -> Prop := fun x H Q => ∃ d : PyData, Dp K H x d /\ d.showable = true /\ d.hasDict = false /\ isDisplay d = true /\ d.depth <= 64 /\ d.shown.length <= sizeLine /\ Q (.str d.shown) H
theorem K6 (hgd : X.A.guards = some []) (hu : X.A.units + 100 < cLine) : CallR X (.type "str") (c1 (Pt X.K)) := by
 intro pins s σ H xs us Q I rv h
 match xs, h with
 | [x], h =>
  obtain ⟨d, hd, h1, h2, h3, h4, h5, q⟩ := h;cases rv with
  | cons ru rn =>
   cases rn;obtain ⟨as, r1⟩ := Dp.reads I d x _ hd ru;obtain ⟨a, rfl⟩ := isRef_of_reads r1 h3;exact str_of_reads r1 h1 (PyData.noDict_hsm h2) hgd (by omega) (fun _ _ e => e) (fun h' u tk hk => ⟨.str d.shown, H, I.kept hk, ⟨u, rfl⟩, q⟩) h5
def CQ (x : Vl) (S : aQ) : Res Vl := match tJ S x with
 | some d => if d.showable = true /\ d.hasDict = false /\ isDisplay d = true /\ d.depth <= 64 /\ d.shown.length <= sizeLine then .ok (.dat (.str d.shown)) S else .stuck
 | none => .stuck
theorem s_str : EL K (Pt K) CQ := fun {W σ B φ S H x d Q} I r f => by
 unfold CQ at f;split at f
 ·rename_i p hp
  split at f
  ·rename_i h
   exact ⟨p, oQ I hp r, h.1, h.2.1, h.2.2.1, h.2.2.2.1, h.2.2.2.2, Fin.now f I rfl⟩
  ·exact f.elim
 ·exact f.elim
theorem SM (hm : X.mg "str" = none) (hr : X.A.units + 100 < cLine) (hgd : X.A.guards = some []) (ha : PE X a (cR X.K W ma)) (hg : Gl X "str" := by rfl) (hs : starEach [a] X.env = [(false, eval a X.env)] := by rfl) : PE X (.Call (.Name "str" p) [a] [] pos) (cR X.K W (m1 CQ ma)) :=
 cW (pe_callTy (K6 hgd hr) hg hm (by decide +kernel) (pa_cons ha pa_nil hs) (he := hs)) fun σ H Q h => zG s_str h
def rInT : R2 := fun x y H Q => ∃ i j, x = .str i /\ y = .str j /\ Q (.bl (!(Builtin.Str.occurrences j i 0 j.length 1).isEmpty)) H
def Ml : Vl -> Vl -> aQ -> Res Vl
 | .dat (.str i), .dat (.str j), S => .ok (.dat (.bl (!(Builtin.Str.occurrences j i 0 j.length 1).isEmpty))) S
 | _, _, _ => .stuck
theorem s_inT : eX K rInT Ml := fun {W σ B φ S H x y d e Q} I r1 r2 f => by
 unfold Ml at f;split at f
 ·cases r1; cases r2; exact ⟨_, _, rfl, rfl, Fin.now f I rfl⟩
 ·exact f.elim
def Ls (ds : List PyData) (d : PyData) : Option Nat := (aP ds.length).find? fun j => match ds[j]? with
 | some z => PyData.eqv z d
 | none => false
def wK (x y : Vl) (S : aQ) : Res Vl := match tJ S x, tJ S y with
 | some (.list ds), some d => if SeqAt.shaped (.list ds) = true /\ SeqAt.shaped d = true then (match Ls ds d with
   | some j => .ok (.dat (.int (j : Int))) S
   | none => .stuck) else .stuck
 | _, _ => .stuck
theorem Jj {ds : List PyData} {d : PyData} {j : Nat} (h : Ls ds d = some j) : ∃ z, ds[j]? = some z /\ PyData.eqv z d = true /\ ∀ (m : Nat) (z' : PyData), m < j -> ds[m]? = some z' -> PyData.eqv z' d = false := by
 unfold Ls at h;obtain ⟨h1, as, bs, h2, h3⟩ := CI.mp h;cases q : ds[j]? with
 | none => rw [q] at h1; cases h1
 | some z =>
  rw [q] at h1;refine ⟨z, rfl, h1, fun m z' hm hz => ?_⟩
  have hj : j < ds.length := (aG.mp q).1;have la : as.length = j := by
   have e : (aP ds.length)[as.length]? = some j := by rw [h2]; simp
   rw [aG] at e;obtain ⟨_, e⟩ := e
   simpa using e
  have hma : m ∈ as := by
   have e : (aP ds.length)[m]? = (as ++ j :: bs)[m]? := by rw [h2]
   rw [iA (by omega), aM (by omega)] at e
   exact bI e.symm
  have := h3 m hma;rw [hz] at this
  simpa using this
def R7 (a b : FE) : FE := fun ρ S => (a ρ S).bind fun x S1 => match nL S1 x with
 | some _ => (b ρ S1).bind fun y S2 => wK x y S2
 | none => .stuck
theorem P6 (hu : X.A.units + 65 < cLine) (ha : PE X a (cR X.K W ma)) (hb : PE X b (cR X.K W mb)) (hs : starEach [b] X.env = (false, eval b X.env) :: starEach [] X.env := by rfl) (hbase : attributeBase a "index" X.env (eval a X.env) = eval a X.env := by rfl) (hline : (apos.endLine == cpos.line) = true := by rfl)
  (hfew : ((backTo cpos (starEach [b] X.env)).all (fun x => !x.1) && (backToKw cpos (keywordEach [] X.env)).all (fun x => x.1.isSome)
   && decide ([b].length + ([] : List Keyword).length + (if ([] : List Keyword).isEmpty then 0 else 1) < 30)) = true := by rfl)
  (hpl : (backTo cpos (starEach ([] : List Expr) X.env)).any (·.1) = false := by rfl) : PE X (.Call (.Attribute a "index" apos) [b] [] cpos) (cR X.K W (R7 ma mb)) :=
 cW (pe_bm PySem.F.plainAttrs_list PySem.F.slot_list_index PySem.F.type_list_index (mt_indexD hu) ha (pa_cons hb pa_nil hs) hbase hfew hline hs hpl) fun σ H Q h =>
  bZ (k := fun x ρ S1 => match nL S1 x with | some _ => (mb ρ S1).bind fun y S2 => wK x y S2 | none => .stuck) h fun B φ S ρ d v H1 I E r f => by
   split at f
   ·rename_i ds q
    refine ⟨N8 (e := d) I r ⟨ds, q⟩, gI I E f fun φ' S' d2 v2 H2 I2 X2 E2 r2 f2 => ?_⟩
    obtain ⟨a, vs, rfl, _, _⟩ := kO I q r;have r' := r.ext X2 I;unfold wK at f2;split at f2
    ·rename_i ps pd h1 h2
     split at f2
     ·rename_i hc
      split at f2
      ·rename_i j hj
       obtain ⟨z, g1, g2, g3⟩ := Jj hj;exact ⟨a, v2, pd, ps, j, z, rfl, rfl, oQ I2 h1 r', oQ I2 h2 r2, hc.1, hc.2, g1, g2, g3, Fin.now f2 I2 rfl⟩
      ·exact f2.elim
     ·exact f2.elim
    ·exact f2.elim
   ·exact f.elim
theorem Kp.plusPutD {a : Addr} {acc : List (Key × V)} {o : HO} (ha : H a = some (.dK acc)) : Kp (jU (fL B a) φ S) H (jU (fL B a) φ S) (upd H a o) :=
 ⟨fun b o' h n => ⟨by
  rw [upd_ne]
  ·exact h
  ·intro e; subst e; exact n (.inl (.inr rfl)), n⟩, fun b w h => by
  have ne : b ≠ a := fun e => by
   subst e;rcases h with h | ⟨o', h⟩
   ·rw [ha] at h; cases h
   ·rw [ha] at h; cases h
  rcases h with h | ⟨o', h⟩
  ·exact .inl (by rw [upd_ne ne]; exact h)
  ·exact .inr ⟨o', by rw [upd_ne ne]; exact h⟩⟩
theorem RepV.plusPutD {a : Addr} {acc : List (Key × V)} {o : HO} (ha : H a = some (.dK acc)) {d : Vl} {v : L2.V} (r : RepV K (fL B a) φ S H d v) : RepV K (fL B a) φ S (upd H a o) d v := by
 have k := Kp.plusPutD (B := B) (φ := φ) (S := S) (o := o) ha;cases d with
 | dat d => exact Rep.kp k d v r
 | cel n => exact r
 | cels ns => obtain ⟨a', as, e1, e2, e3, e4⟩ := r; exact ⟨a', as, e1, (k.old _ _ e3 e2).2, (k.old _ _ e3 e2).1, e4⟩
 | scr ns =>
  obtain ⟨a', e1, e2⟩ := r;refine ⟨a', e1, e2.keep fun o u h => ?_⟩
  rw [upd_ne]
  ·exact h
  ·intro e; subst e; rw [ha] at h; cases h
 | tc xs => obtain ⟨a', vs, e1, e2, e3⟩ := r; exact ⟨a', vs, e1, SqT.kp k.tup e2, e3.kp k (fun _ _ h => h)⟩
theorem RepF.plusPutD {a : Addr} {acc : List (Key × V)} {o : HO} (ha : H a = some (.dK acc)) : ∀ {fs : List (Str × Vl)} {vs : List (Str × L2.V)}, RepF K (fL B a) φ S H fs vs -> RepF K (fL B a) φ S (upd H a o) fs vs
 | [], vs, r => r
 | f :: fs, vs, ⟨v, ws, e, h1, h2⟩ => ⟨v, ws, e, h1.plusPutD ha, RepF.plusPutD ha h2⟩
theorem GInv.plusPutD {a : Addr} {acc : List (Key × V)} {o : HO} (I : GInv K (fL B a) φ S H) (ha : H a = some (.dK acc)) : GInv K (fL B a) φ S (upd H a o) where
 len := I.len
 ok := fun n c b h1 h2 => by
  have q := I.ok n c b h1 h2;have k := Kp.plusPutD (B := B) (φ := φ) (S := S) (o := o) ha;have hb : c ≠ .dead -> upd H a o b = H b := fun hc => upd_ne fun e => by
   subst e;exact I.blk b ⟨n, c, h1, hc, h2⟩ (.inr rfl)
  cases c with
  | dead => trivial
  | lst ds => obtain ⟨vs, e, r⟩ := q; exact ⟨vs, by rw [hb (by simp)]; exact e, RepL.kp k ds vs r⟩
  | ins C fs => obtain ⟨dx, vs, e, r⟩ := q; exact ⟨dx, vs, by rw [hb (by simp)]; exact e, r.plusPutD ha⟩
  | dct fs => obtain ⟨vs, e, r⟩ := q; exact ⟨vs, by rw [hb (by simp)]; exact e, r.plusPutD ha⟩
  | lv xs => obtain ⟨vs, e, r⟩ := q; exact ⟨vs, by rw [hb (by simp)]; exact e, dB (RepV.plusPutD ha) r⟩
  | dki ks xs => obtain ⟨vs, e, r⟩ := q; exact ⟨vs, by rw [hb (by simp)]; exact e, dB (RepV.plusPutD ha) r⟩
  | dkt ks xs => obtain ⟨vs, e, r⟩ := q; exact ⟨vs, by rw [hb (by simp)]; exact e, dB (RepV.plusPutD ha) r⟩
 inj := I.inj
 blk := I.blk
 btr := fun b h => by
  by_cases e : b = a
  ·subst e; exact ⟨o, upd_same⟩
  ·obtain ⟨u, h1⟩ := I.btr b h
   exact ⟨u, by rw [upd_ne e]; exact h1⟩
section
variable {x : Cell} {p : Addr}
theorem cellK (I : GInv K (fL B p) φ S H) : Kp (jU (fL B p) φ S) H (jU B (φ ++ [p]) (S ++ [x])) H := ⟨fun b o h n => ⟨h, fun q => n (by
 rcases q with q | q
 ·exact .inl (.inl q)
 ·rcases (lF I.len).mp q with q | ⟨_, q⟩
  ·exact .inr q
  ·exact .inl (.inr q))⟩, fun _ _ h => h⟩
theorem Il (I : GInv K (fL B p) φ S H) {d : Vl} {v : L2.V} (r : RepV K (fL B p) φ S H d v) : RepV K B (φ ++ [p]) (S ++ [x]) H d v := by
 have k := cellK (x := x) I;have hφ : ∀ (n : Nat) (b : Addr), φ[n]? = some b -> (φ ++ [p])[n]? = some b := fun n b h => by rw [aM (aG.mp h).1]; exact h
 cases d with
 | dat d => exact Rep.kp k d v r
 | cel n => obtain ⟨b, e1, e2⟩ := r; exact ⟨b, e1, hφ _ _ e2⟩
 | cels ns => obtain ⟨a', as, e1, e2, e3, e4⟩ := r; exact ⟨a', as, e1, (k.old _ _ e3 e2).2, e3, xQ hφ ns as e4⟩
 | scr ns => exact r
 | tc xs => obtain ⟨a', vs, e1, e2, e3⟩ := r; exact ⟨a', vs, e1, SqT.kp k.tup e2, e3.kp k hφ⟩
theorem Im (I : GInv K (fL B p) φ S H) : ∀ {fs : List (Str × Vl)} {vs : List (Str × L2.V)}, RepF K (fL B p) φ S H fs vs -> RepF K B (φ ++ [p]) (S ++ [x]) H fs vs
 | [], vs, r => r
 | f :: fs, vs, ⟨v, ws, e, h1, h2⟩ => ⟨v, ws, e, Il I h1, Im I h2⟩
theorem GInv.toCell (I : GInv K (fL B p) φ S H) (nB : ¬ B p) (hx : ES K B (φ ++ [p]) (S ++ [x]) H x p) : GInv K B (φ ++ [p]) (S ++ [x]) H where
 len := by simp [I.len]
 ok := fun n c b h1 h2 => by
  have k := cellK (x := x) I
  by_cases hn : n < S.length
  ·rw [aM hn] at h1
   rw [aM (by rw [I.len]; exact hn)] at h2
   have q := I.ok n c b h1 h2;cases c with
   | dead => trivial
   | lst es => obtain ⟨us, e, r⟩ := q; exact ⟨us, e, RepL.kp k es us r⟩
   | ins C fs => obtain ⟨dx, us, e, r⟩ := q; exact ⟨dx, us, e, Im I r⟩
   | dct fs => obtain ⟨us, e, r⟩ := q; exact ⟨us, e, Im I r⟩
   | lv xs => obtain ⟨us, e, r⟩ := q; exact ⟨us, e, dB (Il I) r⟩
   | dki ks xs => obtain ⟨us, e, r⟩ := q; exact ⟨us, e, dB (Il I) r⟩
   | dkt ks xs => obtain ⟨us, e, r⟩ := q; exact ⟨us, e, dB (Il I) r⟩
  ·have e : n = S.length := by
    have := (aG.mp h1).1;simp at this;omega
   subst e;rw [aX (bS _)] at h1;rw [<- I.len, aX (bS _)] at h2;simp at h1 h2;subst h1 h2;exact hx
 inj := fun n m c c' b h1 h2 h3 h4 h5 h6 => by
  have na : ¬ mH φ S p := fun q => I.blk p q (.inr rfl)
  have key : ∀ (n : Nat) (c : Cell), (S ++ [x])[n]? = some c -> (n < S.length /\ S[n]? = some c) \/ n = S.length := fun n c h => by
   by_cases hn : n < S.length
   ·rw [aM hn] at h; exact .inl ⟨hn, h⟩
   ·have := (aG.mp h).1
    simp at this;exact .inr (by omega)
  have kφ : ∀ n : Nat, n < S.length -> (φ ++ [p])[n]? = φ[n]? := fun n hn => aM (by rw [I.len]; exact hn)
  have kp : (φ ++ [p])[S.length]? = some p := by rw [<- I.len]; simp
  rcases key n c h1 with ⟨hn, e1⟩ | e1 <;> rcases key m c' h3 with ⟨hm, e2⟩ | e2
  ·rw [kφ n hn] at h5
   rw [kφ m hm] at h6;exact I.inj n m c c' b e1 h2 e2 h4 h5 h6
  ·subst e2
   rw [kp] at h6;cases h6;rw [kφ n hn] at h5;exact absurd ⟨n, c, e1, h2, h5⟩ na
  ·subst e1
   rw [kp] at h5;cases h5;rw [kφ m hm] at h6;exact absurd ⟨m, c', e2, h4, h6⟩ na
  ·omega
 blk := fun b h => by
  rcases (lF I.len).mp h with h | ⟨_, h⟩
  ·exact fun q => I.blk b h (.inl q)
  ·subst h; exact nB
 btr := fun b h => I.btr b (.inl h)
end
def lQ : List (Str × FE) -> Ev -> aQ -> Res (List (Str × Vl))
 | [], _, S => .ok [] S
 | k :: r, ρ, S => (k.2 ρ S).bind fun v S1 => (lQ r ρ S1).bind fun fs S2 => .ok ((k.1, v) :: fs) S2
def Jc (ks : List (Str × FE)) : FE := fun ρ S => match lQ ks ρ S with
 | .ok fs S1 => if (fs.map Prod.fst).Nodup /\ fs.length <= 15 then .ok (.cel S1.length) (S1 ++ [.dct fs]) else .stuck
 | _ => .stuck
theorem Ca : ∀ {ks : List (Str × FE)} {φ : List Addr} {S S1 : aQ} {H : Hp} {ρ : Ev} {fs : List (Str × Vl)} {Q : List (V × V) -> Hp -> Prop}, GInv K B φ S H -> RepE K B φ S H ρ σ -> lQ ks ρ S = .ok fs S1 -> (∀ φ1 vs H1, GInv K B φ1 S1 H1 -> Ext φ S H φ1 S1 H1 -> RepF K B φ1 S1 H1 fs vs -> Q (vs.map fun p => (V.str p.1, p.2)) H1) ->
  tPairs (ks.map fun k => (cR K vX (mC (.str k.1)), cR K vX k.2)) σ H Q
 | [], φ, S, S1, H, ρ, fs, Q, I, E, h, q => by cases h; exact q φ [] H I Ext.refl rfl
 | k :: r, φ, S, S1, H, ρ, fs, Q, I, E, h, q => by
  unfold lQ at h;cases e1 : k.2 ρ S with
  | stuck => rw [e1] at h; cases h
  | err x S' => rw [e1] at h; cases h
  | ok v S2 =>
   rw [e1] at h;cases e2 : lQ r ρ S2 with
   | stuck => rw [show (Res.ok v S2).bind (fun v S1 => (lQ r ρ S1).bind fun fs S2 => Res.ok ((k.1, v) :: fs) S2) = (lQ r ρ S2).bind fun fs S3 => Res.ok ((k.1, v) :: fs) S3 from rfl, e2] at h; cases h
   | err x S' => rw [show (Res.ok v S2).bind (fun v S1 => (lQ r ρ S1).bind fun fs S2 => Res.ok ((k.1, v) :: fs) S2) = (lQ r ρ S2).bind fun fs S3 => Res.ok ((k.1, v) :: fs) S3 from rfl, e2] at h; cases h
   | ok fs' S3 =>
    rw [show (Res.ok v S2).bind (fun v S1 => (lQ r ρ S1).bind fun fs S2 => Res.ok ((k.1, v) :: fs) S2) = (lQ r ρ S2).bind fun fs S3 => Res.ok ((k.1, v) :: fs) S3 from rfl, e2] at h
    cases h;refine ⟨B, φ, S, ρ, I, E, fun φ0 kv H0 I0 X0 r0 => ?_⟩
    obtain rfl : kv = V.str k.1 := r0;refine ⟨B, φ0, S, ρ, I0, E.ext X0 I, ?_⟩
    rw [e1];intro φ2 v2 H2 I2 X2 r2;refine Ca I2 ((E.ext X0 I).ext X2 I0) e2 fun φ3 vs H3 I3 X3 r3 => ?_
    exact q φ3 ((k.1, v2) :: vs) H3 I3 ((X0.trans X2).trans X3) ⟨v2, vs, rfl, r2.ext X3 I2, r3⟩
theorem FN : ∀ {ys xs : List (Str × V)}, ((xs ++ ys).map Prod.fst).Nodup -> mergeK (iQ xs) (iQ ys) = iQ (xs ++ ys)
 | [], xs, _ => by rw [cS]; rfl
 | y :: r, xs, h => by
  have hn : ∀ k ∈ iQ xs, k.1 ≠ Sum.inr y.1 := fun k hk q => by
   obtain ⟨u, hu, rfl⟩ := pY.mp hk;have e : u.1 = y.1 := Sum.inr.inj q;rw [bN, aK, List.nodup_append] at h;exact h.2.2 _ (KN hu) _ (aY ..) e
  have ep : putK (iQ xs) (Sum.inr y.1) y.2 = iQ (xs ++ [y]) := by
   unfold putK;rw [if_neg]
   ·simp [iQ]
   ·intro q
    obtain ⟨k, hk, e⟩ := List.any_eq_true.mp q;exact hn k hk (of_decide_eq_true e)
  have ih := FN (ys := r) (xs := xs ++ [y]) (by rw [cV]; exact h)
  rw [cV] at ih
  show mergeK (putK (iQ xs) (Sum.inr y.1) y.2) (iQ r) = iQ (xs ++ y :: r)
  rw [ep, ih];rfl
theorem Nh {ks : List (Str × FE)} (h : cR K W (Jc ks) σ H Q) : tDisp (ks.map fun k => (cR K vX (mC (.str k.1)), cR K vX k.2)) σ H Q := by
 obtain ⟨B, φ, S, ρ, I, E, f⟩ := h;intro p hp;unfold Jc at f;cases e : lQ ks ρ S with
 | stuck => rw [e] at f; exact f.elim
 | err x S' => rw [e] at f; exact f.elim
 | ok fs S1 =>
  rw [e] at f;dsimp only at f;split at f
  ·rename_i hc
   have nB : ¬ B p := fun q => by obtain ⟨u, e⟩ := I.btr p q; rw [hp] at e; cases e
   have IA : GInv K (fL B p) φ S (upd H p (.dK [])) := I.plus hp;refine Ca IA (E.plus I hp) e fun φ1 vs H1 I1 X1 r1 => ?_
   have hp1 : H1 p = some (.dK []) := (X1.old p _ upd_same fun q => IA.blk p q (.inr rfl)).1
   have I2 : GInv K (fL B p) φ1 S1 (upd H1 p (.dK (iQ vs))) := I1.plusPutD hp1;have r2 : RepF K (fL B p) φ1 S1 (upd H1 p (.dK (iQ vs))) fs vs := r1.plusPutD hp1;refine ⟨hp1, iQ vs, by simp [iQ, kV], by rw [Ld, r1.len]; exact hc.2, ?_⟩
   have em : mergeK [] (iQ vs) = iQ vs := by
    have := FN (xs := []) (ys := vs) (by rw [bL, r1.fsts]; exact hc.1)
    exact this
   rw [em];refine f (φ1 ++ [p]) (.ref p) _ (I2.toCell nB ⟨vs, upd_same, Im I2 r2⟩) ⟨fun b o hb nb => ?_, fun n b hb => ?_⟩ ⟨p, rfl, by rw [<- I1.len]; exact nU⟩
   ·have ne : b ≠ p := fun q => by subst q; rw [hp] at hb; cases hb
    obtain ⟨h1, h2⟩ := X1.old b o (by rw [upd_ne ne]; exact hb) nb
    refine ⟨by rw [upd_ne ne]; exact h1, fun q => ?_⟩
    rcases (lF I1.len).mp q with q | ⟨_, q⟩
    ·exact h2 q
    ·exact ne q
   ·have := X1.ids n b hb
    rw [aM (aG.mp this).1]; exact this
  ·exact f.elim
theorem P3 : PPs X pos [] [] (([] : List (Str × FE)).map fun k => (cR X.K vX (mC (.str k.1)), cR X.K vX k.2)) := pps_nil
theorem pQ {k : Str} {ek v : Expr} {ks : List (Option Expr)} {vs : List Expr} {mv : FE} {r : List (Str × FE)} (hk : PE X ek (cR X.K vX (mC (.str k)))) (hv : PE X v (cR X.K vX mv)) (hr : PPs X pos ks vs (r.map fun k => (cR X.K vX (mC (.str k.1)), cR X.K vX k.2))) :
  PPs X pos (some ek :: ks) (v :: vs) (((k, mv) :: r).map fun k => (cR X.K vX (mC (.str k.1)), cR X.K vX k.2)) := pps_cons hk hv hr
theorem SQ {keys : List (Option Expr)} {values : List Expr} {r : List (Str × FE)} (h : PPs X pos keys values (r.map fun k => (cR X.K vX (mC (.str k.1)), cR X.K vX k.2))) (hall : keys.all (·.isSome) = true := by rfl) (hl : keys.length = values.length := by rfl) (h0 : keys ≠ [] := by simp) (h15 : keys.length <= 15 := by decide) : PE X (.Dict keys values pos) (cR X.K W (Jc r)) :=
 cW (pe_disp h hall hl h0 h15) fun σ H Q h => Nh h
end
theorem st_hu {k : Nat} {A : Around} (r : Room k A) : A.units + 100 < cLine := by have := r.un; omega
section
variable {o i v a b : FE} {ρ : Ev} {S : aQ} {x y d u w : Vl} {g : Vl -> Vl -> aQ -> Res Vl}
def uH (ρ : Ev) (d x y : Vl) (S : aQ) : Out := match Es S x y d with
 | some S4 => .next ρ S4
 | none => .stuck
def HB (i : FE) (ρ : Ev) (d x : Vl) (S : aQ) : Out := (i ρ S).toS ρ (uH ρ d x)
def Li (o i : FE) (ρ : Ev) (d : Vl) (S : aQ) : Out := (o ρ S).toS ρ (HB i ρ d)
theorem SC : Ba o i v ρ S = (v ρ S).toS ρ (Li o i ρ) := rfl
theorem MO : Li o i ρ d S = (o ρ S).toS ρ (HB i ρ d) := rfl
theorem MN : HB i ρ d x S = (i ρ S).toS ρ (uH ρ d x) := rfl
def Do (g : Vl -> Vl -> aQ -> Res Vl) (ρ : Ev) (x y u w : Vl) (S : aQ) : Out := match g u w S with
 | .ok z S4 => (match Es S4 x y z with
  | some S5 => .next ρ S5
  | none => .stuck)
 | _ => .stuck
def uI (g : Vl -> Vl -> aQ -> Res Vl) (v : FE) (ρ : Ev) (x y : Vl) (S : aQ) : Out := match cX x y S with
 | .ok u _ => (v ρ S).toS ρ (Do g ρ x y u)
 | _ => .stuck
def Lj (g : Vl -> Vl -> aQ -> Res Vl) (i v : FE) (ρ : Ev) (x : Vl) (S : aQ) : Out := (i ρ S).toS ρ (uI g v ρ x)
theorem SD : AC g o i v ρ S = (o ρ S).toS ρ (Lj g i v ρ) := rfl
theorem MP : Lj g i v ρ x S = (i ρ S).toS ρ (uI g v ρ x) := rfl
def kIdx (b : FE) (ρ : Ev) (x : Vl) (S : aQ) : Res Vl := match nL S x with
 | some _ => (b ρ S).bind (wK x)
 | none => .stuck
theorem g_idx : R7 a b ρ S = (a ρ S).bind (kIdx b ρ) := rfl
theorem Rr {ds : List PH.D} : kIdx b ρ (.dat (.lst ds)) S = (b ρ S).bind (wK (.dat (.lst ds))) := rfl
theorem g_inT {z y : Str} : Ml (.dat (.str z)) (.dat (.str y)) S = .ok (.dat (.bl (!(Builtin.Str.occurrences y z 0 y.length 1).isEmpty))) S := rfl
theorem zW {n : Nat} {k : Str} {fs : List (Str × Vl)} (h : S[n]? = some (.dct fs)) (hl : fs.length < 1000) (hn : (fs.map Prod.fst).Nodup) : Es S (.cel n) (.dat (.str k)) d = some (S.set n (.dct (nN k d fs))) := by
 unfold Es;dsimp only;rw [h];exact if_pos ⟨hl, hn⟩
theorem lY {n : Nat} {k : Str} {fs : List (Str × Vl)} (h : S[n]? = some (.dct fs)) (hl : fs.lookup k = some d) : cX (.cel n) (.dat (.str k)) S = .ok d S := by
 unfold cX;dsimp only;rw [h];dsimp only;rw [hl]
end
def rV := aE @SC (aE @MO (aE @MN (aE @SD (aE @MP (aE @g_idx (aE @Rr @g_inT))))))
def isNone {α : Type} : Option α -> Bool
 | none => true
 | some _ => false
end PH
namespace L2
open PySem PySem.Spec PyProof.Rows GenW
section
variable {prog : Program} {w : World} {A : Around} {E : Value -> Shared -> Prop} {s : Shared}
theorem zF {it l : Addr} {i : Nat} {items : Array Value} {x : Value} {Q : Option Value -> Shared -> Prop} (hit : s.heap.get? it = some (GNX.itObj l i)) (hl : s.heap.IsList l items) (hx : items[i]? = some x)
  (hQ : ∀ h', h'.get? it = some (GNX.itObj l (i + 1)) -> Heap.SameBut it s.heap h' -> Q (some x) { s with heap := h' }) : wpAny (model prog w) A (callSpecial? (.ref it) "__next__") Q E s :=
 wpAny_callSpecial?_slot (name := Str.ofString "__next__") (show s.heap.IsListIter it l i from ⟨_, hit, rfl, rfl⟩).typeIs slot_listiter_next
  (wpAny_call_entry slot_listiter_next (show s.heap.IsListIter it l i from ⟨_, hit, rfl, rfl⟩).typeIs entry_listiter_next (GNX.next_item hit hl hx fun h' e sb => hQ h' e sb) (args_listiter_next _))
theorem AW {it l : Addr} {i : Nat} {items : Array Value} {Q : Option Value -> Shared -> Prop} (hh : A.handled = none) (ho : s.heap.get? it = some (GNX.itObj l i)) (hl : s.heap.IsList l items) (hx : items[i]? = none)
  (hE : ∀ e h', StopX e h' -> Heap.ExtBut it s.heap h' -> E e { s with heap := h' }) : wpAny (model prog w) A (callSpecial? (.ref it) "__next__") Q E s := by
 obtain ⟨ol, hol, _, nl, hdl⟩ := hl;refine wpAny_callSpecial?_slot (name := Str.ofString "__next__") (show s.heap.IsListIter it l i from ⟨_, ho, rfl, rfl⟩).typeIs slot_listiter_next (wpAny_call_entry slot_listiter_next (show s.heap.IsListIter it l i from ⟨_, ho, rfl, rfl⟩).typeIs entry_listiter_next ?_ (args_listiter_next _))
 show wpAny _ _ (field (.ref it) 0 >>= _) _ _ s
 refine wpAny_bind (wpAny_field ho rfl (x := .ref l) rfl ?_)
 show wpAny _ _ (if (Value.ref l == Value.none) = true then _ else _) _ _ s
 rw [if_neg (show ¬ ((Value.ref l == Value.none) = true) from Bool.false_ne_true)]
 show wpAny _ _ (field (.ref it) 1 >>= _) _ _ s
 refine wpAny_bind (wpAny_field ho rfl (x := .int i 0) rfl ?_)
 show wpAny _ _ (seqItems? (.ref l) >>= _) _ _ s
 refine wpAny_bind (wpAny_seqItems hol hdl ?_)
 simp only [jV, hx];refine wpAny_bind (wpAny_rule (wpAny_bind (wpAny_setField ho rfl (by simp) ?_)))
 show wpAny _ _ (newExc (.type "StopIteration") [] >>= _) _ _ _
 refine wpAny_bind ?_
 simp only [newExc, newTuple];refine wpAny_bind (wpAny_newObj_type ?_ (by size_fits))
 refine wpAny_bind (m := firstArgMember _ _) (wpAny_of_eq (a := Value.none) (by first | rfl | (simp only [firstArgMember]; rfl)) ?_)
 refine wpAny_newObj_type ?_ (by size_fits)
 simp only [raiseNew];refine wpAny_bind (wpAny_handled ?_)
 first | rw [show A.in1.handled = none from hh] | rw [hh]
 refine wpAny_bind (wpAny_pure (wpAny_throw ?_))
 refine hE _ _ ⟨_, _, _, rfl, Heap.get?_push_size _ rfl, rfl, rfl, ?_⟩ (((Heap.SameBut.update ..).extBut.push _).push _)
 first
  | rfl
  | (rw [Array.getElem?_append_left (by decide)]; rfl)
  | kernel_rfl
end
def QV (te : TE) : TYf := fun σ H Q => te σ H fun x H1 => ∃ a xs, x = .ref a /\ H1 a = some (.lst xs) /\ Q xs H1
theorem K5 : typeLookup (.type "list_iterator") "close" = pure none := by rw [typeLookup_type, builtinLookup_eq_fast]; kernel_rfl
section
variable {X : Cx} {e : Expr} {te : TE}
theorem QQ (he : PE X e te) : YfE X e (QV te) := by
 refine ⟨fun pins s σ H Q I h => ?_⟩
 refine thn (he.run pins s σ H _ I h) fun v s1 ⟨x, H1, I1, r1, a, xs, ex, ha, hq⟩ => ?_
 subst ex;obtain rfl : v = Value.ref a := r1;obtain ⟨its, rits, ht, hlen⟩ := I1.list (.inl (.inl ha));have hl := ht.isList;refine ⟨"list", hl.typeIs, by decide, wpAny_pyIter_list hl ?_⟩
 have ksz : ∀ b o, s1.heap.get? b = some o -> b ≠ s1.heap.objs.size := fun b o e => Nat.ne_of_lt (Heap.lt_size e)
 have kp : ∀ b o, s1.heap.get? b = some o -> (s1.heap.push (GNX.itObj a 0)).get? b = some o := fun b o e => Heap.get?_push_of_some _ e
 have hne : a ≠ s1.heap.objs.size := by obtain ⟨o, ho, _⟩ := hl; exact ksz a o ho
 refine ⟨s1.heap.objs.size, H1, xs, fun j h => h.get? s1.heap.objs.size = some (GNX.itObj a j) /\ h.IsList a its.toArray, rfl, I1.kept (t' := s1.toks) kp, .inr I1.sz, Nat.ne_of_gt I1.lt, fun y c hy => ?_, I1.hok.fresh (bS _), fun p hp => ?_,
  ⟨Heap.get?_push_size _ rfl, hl.push _⟩, ⟨⟨"list_iterator", fun j h q => ⟨_, q.1, rfl⟩, K5, by decide⟩, fun j h h' q hk => ?_, fun A' j x s2 Q' E' hA hx q hQ => ?_, fun A' s2 Q' E' hA q hE => ?_⟩, hq⟩
 ·obtain ⟨v, o, ho, _⟩ := I1.cell y c hy
  exact ksz c o ho
 ·exact ksz p.1 _ (I1.pin p hp).1
 ·obtain ⟨q1, o2, ho2, r2⟩ := q
  exact ⟨hk _ _ (.inl rfl) q1, o2, hk _ o2 (.inr (by rw [ha]; exact fun z => by cases z)) ho2, r2⟩
 ·obtain ⟨q1, q2⟩ := q
  obtain ⟨u, hu, ru⟩ := rits.get hx;exact zF q1 q2 (x := u) (by simpa using hu) fun h' q1' hs => hQ u h' s2.toks ru ⟨q1', q2.extBut hs.extBut hne⟩ fun b o hb eb => hs.extBut b o hb eb
 ·obtain ⟨q1, q2⟩ := q
  have hnone : its.toArray[xs.length]? = none := by
   have e := rits.length;have e2 : its[xs.length]? = none := gQ.mpr (by omega)
   simpa using e2
  exact AW hA q1 q2 hnone fun e h' hS hk => hE e h' s2.toks hS fun b o hb eb => hk b o hb eb
end
end L2
namespace PH
open PySem PySem.Spec PyProof.Rows L2
abbrev NL := Ev -> aQ -> Res (List PH.D)
abbrev NS := List Vl -> aQ -> Res (List PH.D)
section
variable {X : Cx} {W : WX} {e a : Expr} {es : List Expr} {rest gN : List Stmt} {st : Stmt} {pos p yp : Pos} {x kw : Str} {K : aD} {ma me : FE} {mas : FA} {B : Addr -> Prop} {φ φ' : List Addr} {S S' : aQ} {H H' : Hp} {σ : L2.St} {Q : VK} {m : FS} {n : NL}
def FinG (K : aD) (D : GEnds) (B : Addr -> Prop) (φ : List Addr) (S : aQ) (H : Hp) (r : Res (List PH.D)) : Prop := match r with
 | .ok zs S' => ∀ φ' ws σ' H', GInv K B φ' S' H' -> Ext φ S H φ' S' H' -> RepL K (jU B φ' S') H' zs ws -> D.nx ws σ' H'
 | _ => False
theorem FinG.ext {D : GEnds} {r : Res (List PH.D)} (f : FinG K D B φ S H r) (e : Ext φ S H φ' S' H') : FinG K D B φ' S' H' r := by
 cases r with
 | ok d S1 => exact fun φ1 v σ1 H1 I1 X r => f φ1 v σ1 H1 I1 (e.trans X) r
 | err x S1 => exact f
 | stuck => exact f
def rdG (K : aD) (W : WX) (m : NL) : TGn := fun D ys σ H => ys = [] /\ ∃ B φ S ρ, GInv K B φ S H /\ RepE K B φ S H ρ σ /\ FinG K D B φ S H (m ρ S)
theorem Iz {t u : TGn} (h : GSs X gN t) (i : ∀ D ys σ H, u D ys σ H -> t D ys σ H) : GSs X gN u :=
 ⟨fun A S ip R n ys s₀ c fs K J gd lv s σ H D g hn k hI ht => h.run A S ip R n ys s₀ c fs K J gd lv s σ H D g hn k hI (i D ys σ H ht)⟩
def Cq (m : FS) (n : NL) : NL := fun ρ S => match m ρ S with
 | .next ρ' S' => n ρ' S'
 | _ => .stuck
theorem Dy (a : PS X st (mN X.K W m)) (b : GSs X rest (rdG X.K W n)) : GSs X (st :: rest) (rdG X.K W (Cq m n)) := Iz (gss_cons (gs_ps a) b) fun D ys σ H h => by
 obtain ⟨rfl, B, φ, S, ρ, I, E, f⟩ := h;refine ⟨B, φ, S, ρ, I, E, ?_⟩
 unfold Cq at f;cases q : m ρ S with
 | next ρ' S' => rw [q] at f; exact fun φ' σ' H' I' X' E' => ⟨rfl, B, φ', S', ρ', I', E', FinG.ext f X'⟩
 | ret d S' => rw [q] at f; exact f.elim
 | brk ρ' S' => rw [q] at f; exact f.elim
 | cnt ρ' S' => rw [q] at f; exact f.elim
 | err e' ρ' S' => rw [q] at f; exact f.elim
 | stuck => rw [q] at f; exact f.elim
def kYf (x : Vl) (S : aQ) : Res (List PH.D) := match x with
 | .dat (.lst zs) => if zs.length <= 1000000 then .ok zs S else .stuck
 | _ => .stuck
def mYf (me : FE) : NL := fun ρ S => (me ρ S).bind kYf
theorem fg_yf (he : PE X e (cR X.K W me)) (hc : X.A.handled = none) (hi : interactive X.env = false := by rfl) : GSs X [.Expr (.YieldFrom e yp) pos] (rdG X.K W (mYf me)) := Iz (gss_cons (gs_yieldFrom (QQ he) hc hi) gss_nil) fun D ys σ H h => by
 obtain ⟨rfl, B, φ, S, ρ, I, E, f⟩ := h;refine ⟨B, φ, S, ρ, I, E, ?_⟩
 unfold mYf at f;cases q : me ρ S with
 | stuck => rw [q] at f; exact f.elim
 | err x' S' => rw [q] at f; exact f.elim
 | ok x' S' =>
  rw [q] at f;intro φ' v H' I' X' r;have f : FinG X.K D B φ S H (kYf x' S') := f;unfold kYf at f;split at f
  ·rename_i zs
   split at f
   ·rename_i hz
    obtain ⟨b, ws, rfl, nb, hb, rl⟩ := r;refine ⟨b, ws, rfl, hb, ?_, ?_⟩
    ·have := rl.len
     show 0 + ws.length <= sizeLine
     rw [this, fV];exact dF hz (by decide)
    ·show D.nx ([] ++ ws) σ H'
     rw [bL];exact f φ' ws σ H' I' X' rl
   ·exact f.elim
  ·exact f.elim
def spG (K : aD) (md : NS) : SpG := fun vs H Q E => ∃ B φ S ds, GInv K B φ S H /\ RepVs K B φ S H ds vs /\ match md ds S with
 | .ok zs S' => ∀ φ' ws H', GInv K B φ' S' H' -> Ext φ S H φ' S' H' -> RepL K (jU B φ' S') H' zs ws -> Q ws H'
 | _ => False
def Ku (n np : Nat) (mb : NL) : NS := fun ds S => if ds.length = np then mb (envOf n ds) S else .stuck
def Ph (P : Program) (w : World) (K : aD) (mg : Str -> Option Value) (base : Heap) (k : Nat) (x : Str) (ps : List Str) (n : Nat) (kw : Str) (sp : SpG) : Prop :=
 ∃ fd, GFn P w K mg base k (He.ga K x) fd ps sp /\ mg x = some (.ref (He.ga K x)) /\ hX K (.ref (He.ga K x)) = true /\ KBn K fd ps n [kw] (fun us ws => us ++ ws) (fun vs zs => vs ++ zs)
def yD (md : NS) (ds : List Vl) (d : Vl) (S2 : aQ) : Res Vl := match md (ds ++ [d]) S2 with
 | .ok zs S3 => .ok (.dat (.lst zs)) S3
 | _ => .stuck
def Bj (n : Nat) (md : NS) (a : FE) (ρ : Ev) (ds : List Vl) (S1 : aQ) : Res Vl := if ds.length = n then (a ρ S1).bind (yD md ds) else .stuck
def Gw (n : Nat) (md : NS) (as : FA) (a : FE) : FE := fun ρ S => (as ρ S).bind (Bj n md a ρ)
def tGK (K : aD) (W : WX) (n : Nat) (md : NS) (mas : FA) (ma : FE) : TGen := fun σ H cont => CN K W mas σ H fun vs H1 => tCons (cR K W ma) tNil σ H1 fun zs H2 => vs.length = n /\ zs.length = 1 /\ spG K md (vs ++ zs) H2 cont (fun _ _ _ => False)
theorem Qq {j k nn : Nat} {ps : List Str} {md : NS} {kpos : Pos} (F : Ph X.prog X.w X.K X.mg X.base j x ps nn kw (spG X.K md)) (hr : Room k X.A) (ha : PA X (e :: es) (CN X.K W mas)) (hv : PE X a (cR X.K W ma)) (hjk : j <= k) (hg : Gl X x) (hdb : (x == ("__debug__" : Str)) = false)
  (hall : (backToKw pos (keywordEach [⟨some kw, a, kpos⟩] X.env)).all (·.1.isSome) = true) (hks : (backToKw pos (keywordEach [⟨some kw, a, kpos⟩] X.env)).filterMap (·.1) = [kw])
  (he : starEach (e :: es) X.env = (false, eval e X.env) :: starEach es X.env) (hpl : ((backTo pos (starEach (e :: es) X.env)).any (·.1) || (backToKw pos (keywordEach [⟨some kw, a, kpos⟩] X.env)).any (·.1.isNone)) = false) :
  PGen X j (.Call (.Name x p) (e :: es) [⟨some kw, a, kpos⟩] pos) (tGK X.K W nn md mas ma) (fun _ _ _ => False) := by
 obtain ⟨fd, F, hm, hk, hb⟩ := F;refine ⟨fun pins s σ H cont I h => ?_⟩
 refine wpAny_Call_Name_kw (ld_glob I hg hm ?_ hdb)
 refine Hj (h₀ := X.base) I.ok.mod.kin hk hall (thn (ha.run pos pins s σ H _ I h) fun us s1 ⟨vs, H1, I1, r, q⟩ => ?_) hpl he
 refine thn ((pk_cons hv pk_nil : PK X [⟨some kw, a, kpos⟩] _).run pos pins s1 σ H1 _ I1 q) fun ws s2 ⟨zs, H2, I2, rz, l1, l2, q2⟩ => ⟨I2.kIn, ?_⟩
 rw [hks];have r2 := hb.rel r rz;refine wpAny_call (codeAny_mono (F.run X.A X.stack s2 H2 ⟨us, [kw].zip ws⟩ (us ++ ws) (vs ++ zs) cont (fun _ _ _ => False) (hr.mono hjk) I2.env0 (hb.to s2 us ws I2.kIn (r.length.symm.trans l1) (rz.length.symm.trans l2)) r2 q2) fun r s' hq => ?_)
 cases r with
 | error e => exact False.elim hq
 | ok fl =>
  cases fl with
  | ret u => exact ⟨H2, s2, [], I2, .nil, hq⟩
  | next => exact False.elim hq
  | brk => exact False.elim hq
  | cont => exact False.elim hq
theorem P5 {j k nn : Nat} {ps : List Str} {md : NS} {kpos p0 pos2 : Pos} {nm : Str} (hn : X.mg nm = none) (F : Ph X.prog X.w X.K X.mg X.base j x ps nn kw (spG X.K md)) (hr : Room k X.A) (ha : PA X (e :: es) (CN X.K W mas)) (hv : PE X a (cR X.K W ma)) (hjk : j + 3 <= k := by decide) (hg : Gl X x := by rfl) (hg2 : Gl X nm := by rfl) (hdb : (x == ("__debug__" : Str)) = false := by decide)
  (hbv : bootBuiltins nm = some (.type "list") := by decide +kernel) (hnm : nm ≠ "__name__" := by decide) (hdb2 : (nm == ("__debug__" : Str)) = false := by decide)
  (hall : (backToKw pos (keywordEach [⟨some kw, a, kpos⟩] X.env)).all (·.1.isSome) = true := by rfl) (hks : (backToKw pos (keywordEach [⟨some kw, a, kpos⟩] X.env)).filterMap (·.1) = [kw] := by rfl)
  (he : starEach (e :: es) X.env = (false, eval e X.env) :: starEach es X.env := by rfl) (hpl : ((backTo pos (starEach (e :: es) X.env)).any (·.1) || (backToKw pos (keywordEach [⟨some kw, a, kpos⟩] X.env)).any (·.1.isNone)) = false := by rfl)
  (he2 : starEach [.Call (.Name x p) (e :: es) [⟨some kw, a, kpos⟩] pos] X.env = (false, eval (.Call (.Name x p) (e :: es) [⟨some kw, a, kpos⟩] pos) X.env) :: starEach [] X.env := by rfl) :
  PE X (.Call (.Name nm p0) [.Call (.Name x p) (e :: es) [⟨some kw, a, kpos⟩] pos] [] pos2) (cR X.K W (Gw nn md mas ma)) :=
 cW (pe_listG (Qq F hr ha hv (by omega) hg hdb hall hks he hpl) (fun pins σ H s e s' I h => by obtain ⟨_, _, _, _, _, _, _, _, _, _, _, _, w⟩ := h; exact w.elim) (fun _ _ _ h => h.elim) (hr.mono hjk) hg2 hn hbv hnm hdb2 he2) fun σ H Q h => by
  refine bZ (k := fun ds ρ S1 => Bj nn md ma ρ ds S1) h fun B φ S ρ ds vs H1 I E r f => ?_
  unfold Bj at f;split at f
  case isFalse => exact f.elim
  rename_i hl;refine gI I E f fun φ' S' d v H2 I2 X2 E2 r2 f2 => ⟨by rw [r.len]; exact hl, rfl, B, φ', S', ds ++ [d], I2, RepVs.snoc (r.ext X2 I) r2, ?_⟩
  unfold yD at f2;cases q : md (ds ++ [d]) S' with
  | stuck => rw [q] at f2; exact f2.elim
  | err x' S3 => rw [q] at f2; exact f2.elim
  | ok zs S3 =>
   rw [q] at f2;intro φ3 ws H3 I3 X3 r3 pp hp;have X4 := Ext.new (o := .lst ws) I3 hp;exact f2 φ3 (.ref pp) _ (I3.new hp) (X3.trans X4) ⟨pp, ws, rfl, I3.nblk hp, upd_same, RepL.kp (X4.kp I3) _ _ r3⟩
end
section
variable {P : Program} {w : World} {K : aD} {mg : Str -> Option Value} {base : Heap}
theorem okGn {x kw : Str} {dv : L2.V} {st : Stmt} {N ps : List Str} {k n : Nat} {mb : NL} (F : FnK K x st kw dv) (g : mg x = some (.ref (He.ga K x))) (S : GScope N ps (defScope st)) (hn : n + 1 = ps.length)
  (b1 : ∀ (kV doc pm : Value) (an : Option Addr) (cdv ct : Value) (us ws : List Value), us.length = n -> ws.length = 1 -> bindArgs (dC x x (defArgs st) (defBody st) (defScope st) .none kV doc pm an cdv ct) ⟨us, [kw].zip ws⟩ = pure (ps.zip (us ++ ws)))
  (hbody : ∀ (cdv : Value) (A : Around) (outer : List Env) (s : Shared) (H : Hp) (E : XK) (pn : List (Addr × Obj)), Room k (A.deeper (envOfC x (defScope st) s.heap.objs.size (He.ga K x) cdv)) -> GSs (gcxOf P w K mg base N x (defScope st) (He.ga K x) cdv A outer s H E pn) (defBody st) (rdG K (fun c x _ H => E c x H) mb)) : Ph P w K mg base (k + 1) x ps n kw (spG K (Ku N.length ps.length mb)) := by
 obtain ⟨fd, F⟩ := F;have kp := F.kp;obtain ⟨oc, od, dV, kV, doc, pm, an, cdv, ct, osl, rfl, lk, hcd, hD, hK⟩ := F.ex;have hlen : ∀ vs H Q E, spG K (Ku N.length ps.length mb) vs H Q E -> vs.length = ps.length := fun vs H Q E ⟨B, φ, S, ds, I, r, f⟩ => by
  rw [r.len]
  by_cases h : ds.length = ps.length
  ·exact h
  ·unfold Ku at f
   rw [if_neg h] at f;exact f.elim
 refine ⟨_, gfn_of lk hcd S hlen fun A outer s H vs Q E pn hr hsp => ⟨_, hbody cdv A outer s H E pn hr, rfl, ?_⟩, g, kp, ⟨fun s us ws _ l1 l2 => ?_, fun r1 r2 => r1.append r2⟩⟩
 ·have hv := hlen _ _ _ _ hsp
  obtain ⟨B, φ, S, ds, I, r, f⟩ := hsp;refine ⟨B, φ, S, envOf N.length ds, I, G2 r, ?_⟩
  unfold Ku at f;rw [if_pos (by rw [<- r.len]; exact hv)] at f
  cases q : mb (envOf N.length ds) S with
  | stuck => rw [q] at f; exact f.elim
  | err x' S' => rw [q] at f; exact f.elim
  | ok zs S' =>
   rw [q] at f;exact fun φ' ws σ' H' I' X' rl => f φ' ws H' I' X' rl
 ·rcases hD with ⟨_, rfl⟩ | ⟨e, _⟩
  ·exact .of_eq (b1 kV doc pm an cdv ct us ws l1 l2)
  ·exact absurd rfl e
end
section
variable {ρ : Ev} {S : aQ} {m : FS} {n : NL} {me ma : FE} {mas : FA} {md : NS}
def Q8 (n : NL) (o : Out) : Res (List PH.D) := match o with
 | .next ρ' S' => n ρ' S'
 | _ => .stuck
theorem Ry : Cq m n ρ S = Q8 n (m ρ S) := rfl
theorem OT {nn : Nat} : Gw nn md mas ma ρ S = (mas ρ S).bind (Bj nn md ma ρ) := rfl
theorem Jv {x y z : Vl} : Bj 3 md ma ρ [x, y, z] S = (ma ρ S).bind (yD md [x, y, z]) := rfl
theorem g_yf : mYf me ρ S = (me ρ S).bind kYf := rfl
end
end PH
namespace PH
open PySem PySem.Spec PyProof PyProof.Rows L2
theorem O2 {n : Nat} {fa : List He.Fa} {fn : List He.DefD} {ts : List He.Tab} {ex : aD -> Bool} {g : Addr -> Option Obj} {s : Shared} (h : ∀ a, g a = s.heap.get? a) : Qw n fa fn ts ex g = (QC n fa fn ts ex).obs s := by
 have e : g = s.heap.get? := funext h;rw [e] <;> rfl
section
variable {X : Cx} {W : WX}
theorem fI {i j pos} : PE X (.Constant (.int i) j pos) (cR X.K W (mC (.int i))) := Me pe_int fun _ _ => rfl
theorem fS {x j pos} : PE X (.Constant (.str x) j pos) (cR X.K W (mC (.str x))) := Me pe_str fun _ _ => rfl
theorem fB {b j pos} : PE X (.Constant (.bool b) j pos) (cR X.K W (mC (.bl b))) := Me pe_bl fun _ _ => rfl
theorem fN {j pos} : PE X (.Constant .none j pos) (cR X.K W (mC .non)) := Me pe_non fun _ _ => rfl
end
section
variable {P : Program} {w : World} {K : aD} {mg : Str -> Option Value} {base : Heap}
theorem kG {x : Str} {st : Stmt} {N ps : List Str} {k : Nat} {md : FD} {mb : FS} (F : rB K x st) (g : mg x = some (.ref (He.ga K x))) (S : FnScope N ps (defScope st)) (R : Runs md N.length ps.length mb)
  (bnd : ∀ (kV doc pm : Value) (an : Option Addr) (cdv ct : Value) (us : List Value), us.length = ps.length -> bindArgs (dC x x (defArgs st) (defBody st) (defScope st) .none kV doc pm an cdv ct) ⟨us, []⟩ = pure (ps.zip us))
  (hbody : ∀ (cdv : Value) (A : Around) (outer : List Env) (s : Shared) (H : Hp) (E : XK), Room k (A.deeper (envOfC x (defScope st) s.heap.objs.size (He.ga K x) cdv)) ->
   Takes (cxOf (L2.CX P w) P w K mg base N x (defScope st) (He.ga K x) cdv A outer s H E) (fun c x _ H => E c x H) -> N.Nodup ->
   PSs (cxOf (L2.CX P w) P w K mg base N x (defScope st) (He.ga K x) cdv A outer s H E) (defBody st) (mN K (fun c x _ H => E c x H) mb)) : sX P w K mg base (k + 1) x ps (spF K md) :=
 okF F g S R bnd fun cdv A outer s H E hr => hbody cdv A outer s H E hr (takes_of (X := cxOf (L2.CX P w) P w K mg base N x (defScope st) (He.ga K x) cdv A outer s H E) (E := E) rfl rfl rfl rfl) S.nd
theorem vP {C m q : Str} {st : Stmt} {N ps : List Str} {k : Nat} {md : FD} {mb : FS} (F : GW K C m q st) (g : Meth K (He.ga K C) m (He.ma K (He.ga K C) m)) (S : FnScope N ps (defScope st)) (R : Runs md N.length ps.length mb)
  (bnd : ∀ (kV doc pm : Value) (an : Option Addr) (cdv ct : Value) (us : List Value), us.length = ps.length -> bindArgs (dC m q (defArgs st) (defBody st) (defScope st) .none kV doc pm an cdv ct) ⟨us, []⟩ = pure (ps.zip us))
  (hbody : ∀ (cdv : Value) (A : Around) (outer : List Env) (s : Shared) (H : Hp) (E : XK), Room k (A.deeper (envOfC q (defScope st) s.heap.objs.size (He.ma K (He.ga K C) m) cdv)) ->
   Takes (cxOf (L2.CX P w) P w K mg base N q (defScope st) (He.ma K (He.ga K C) m) cdv A outer s H E) (fun c x _ H => E c x H) -> N.Nodup ->
   PSs (cxOf (L2.CX P w) P w K mg base N q (defScope st) (He.ma K (He.ga K C) m) cdv A outer s H E) (defBody st) (mN K (fun c x _ H => E c x H) mb)) : OkMX P w K mg base (k + 1) C m ps (spF K md) :=
 okFM F g S R bnd fun cdv A outer s H E hr => hbody cdv A outer s H E hr (takes_of (X := cxOf (L2.CX P w) P w K mg base N q (defScope st) (He.ma K (He.ga K C) m) cdv A outer s H E) (E := E) rfl rfl rfl rfl) S.nd
end
end PH
namespace PH
open PySem PySem.Spec PyProof.Rows L2
def oY : FS :=
 (bW (mO (m1 (fIsi "int") (aC 0)) (LM (m1 (fIsi "bool") (aC 0)))))
def eY : FD := run 1 1 oY
def yP : FS :=
 (bW (mO (bM eY (aB (aC 0) aO)) (qV KL KL (mC (.int 0)) (aC 0) (mC (.int 1)))))
def uE : FD := run 1 1 yP
def mE : FE :=
 (mO (bM eY (aB (aC 4) aO)) (qV KL KL (aC 2) (aC 4) (aC 3)))
def jR : FS :=
 (aT (cA (CP (oS (gR (m1 (fIsi "tuple") (aC 0)))) (mB (aR fK (m1 fF (aC 0)) (mC (.int 0))))) (bW (mC (.bl false))) bK)
 (aT (cA (CP (oS (gR (m1 (fIsi "str") (aR bR (aC 0) (mC (.int 0)))))) (mB (m1 (gO true) (aR bR (aC 0) (mC (.int 0)))))) (bW (mC (.bl false))) bK)
 (aT (cN (m1 A2 (aR bR (aC 0) (mC (.int 0)))) (.tp [1, 2, 3]))
 (aT (cA (mB (aR GV (m1 fF (aC 0)) (aR (dR false) (aC 1) (mC (.int 1))))) (bW (mC (.bl false))) bK)
 (bW (m1 Bu (wR false (kK (Ao false (aC 0) (hC (mC (.int 1))) qU)) (.nm 4) fP mE [4])))))))
def gE : FD := run 5 1 jR
def qK : FS :=
 (aT (cN (aR bR (aC 0) (mC (.int 0))) (.nm 1))
 (aT (cA (CP (mB (aR fK (aC 1) (mC (.str "keep")))) (mB (aR fK (aC 1) (mC (.str "again"))))) (bW (dG false (aB (aR bR (aC 0) (mC (.int 1))) aO))) bK)
 (aT (cA (mB (aR fK (aC 1) (mC (.str "either")))) (bW (dG false (aB (aR bR (aC 0) (mC (.int 1))) (aB (aR bR (aC 0) (mC (.int 2))) aO)))) bK)
 (aT (cA (mB (aR fK (aC 1) (mC (.str "call")))) (bW (aR bR (aC 0) (mC (.int 3)))) bK)
 (bW (dG false aO))))))
def lE : FD := run 2 1 qK
def nD : FS :=
 (aT (cN (aR bR (aC 0) (mC (.int 0))) (.nm 2))
 (aT (cA (CP (mB (aR fK (aC 2) (mC (.str "keep")))) (mB (aR fK (aC 2) (mC (.str "again"))))) (bW (cC (aB (aC 2) (aB (aR bR (aC 1) (mC (.int 0))) aO)))) bK)
 (aT (cA (mB (aR fK (aC 2) (mC (.str "either")))) (bW (cC (aB (aC 2) (aB (aR bR (aC 1) (mC (.int 0))) (aB (aR bR (aC 1) (mC (.int 1))) aO))))) bK)
 (aT (cA (mB (aR fK (aC 2) (mC (.str "call")))) (bW (cC (aB (aC 2) (aB (aR bR (aC 0) (mC (.int 1))) (aB (aR bR (aC 0) (mC (.int 2))) (aB (aC 1) aO)))))) bK)
 (bW (aC 0))))))
def mW : FD := run 3 2 nD
def iK (f_copied_block : FD) : FS :=
 (bW (bM mW (aB (aC 0) (aB (wR false (kK (bM lE (aB (aC 0) aO))) (.nm 1) fP (bM (f_copied_block) (aB (aC 1) aO)) [1]) aO))))
def mG (f_copied_statement : FD) : FS :=
 (bW (wR false (kK (aC 0)) (.nm 1) fP (bM (f_copied_statement) (aB (aC 1) aO)) [1]))
def kU : Nat -> FD × FD
 | 0 => (zE, zE)
 | n + 1 => let r := kU n
  (run 2 1 (iK r.2), run 2 1 (mG r.1))
def iC (n : Nat) : FD := (kU n).1
def eN (n : Nat) : FD := (kU n).2
def nE : FS :=
 (aT (cA (gR (bM gE (aB (aC 0) aO))) (bW (mC (.bl true))) bK)
 (aT (cA (CP (oS (gR (m1 (fIsi "tuple") (aC 0)))) (CP (mB (aR Mj (m1 fF (aC 0)) (mC (.int 2)))) (oS (gR (m1 (fIsi "str") (aR bR (aC 0) (mC (.int 0)))))))) (bW (mC (.bl false))) bK)
 (aT (cN (aR bR (aC 0) (mC (.int 0))) (.nm 3))
 (aT (cA (mB (aR fK (aC 3) (mC (.str "end")))) (bW (mO (aR fK (m1 fF (aC 0)) (mC (.int 2))) (bM uE (aB (aR bR (aC 0) (mC (.int 1))) aO)))) bK)
 (aT (cA (mB (aR fK (aC 1) (mC (.int 3)))) (bW (mC (.bl false))) bK)
 (aT (cA (CP (mB (aR fK (aC 3) (mC (.str "keep")))) (mB (aR fK (aC 3) (mC (.str "again"))))) (bW (mO (aR fK (m1 fF (aC 0)) (mC (.int 2))) (m1 (fIsi "list") (aR bR (aC 0) (mC (.int 1)))))) bK)
 (aT (cA (mB (aR fK (aC 3) (mC (.str "either")))) (bW (mO (aR fK (m1 fF (aC 0)) (mC (.int 3))) (mO (m1 (fIsi "list") (aR bR (aC 0) (mC (.int 1)))) (m1 (fIsi "list") (aR bR (aC 0) (mC (.int 2))))))) bK)
 (aT (cA (CP (mB (aR GV (aC 3) (mC (.str "call")))) (mB (aR GV (m1 fF (aC 0)) (mC (.int 4))))) (bW (mC (.bl false))) bK)
 (aT (cA (CP (oS (gR (bM eY (aB (aR bR (aC 0) (mC (.int 1))) aO)))) (oS (mB (qV KL Mj (mC (.int 0)) (aR bR (aC 0) (mC (.int 1))) (aC 2))))) (bW (mC (.bl false))) bK)
 (aT (cA (CP (oS (gR (m1 (fIsi "bool") (aR bR (aC 0) (mC (.int 2)))))) (CP (oS (gR (m1 (fIsi "list") (aR bR (aC 0) (mC (.int 3)))))) (mB (aR GV (m1 fF (aR bR (aC 0) (mC (.int 3)))) (mC (.int 2)))))) (bW (mC (.bl false))) bK)
 (bW (mO (m1 (fIsi "list") (aR bR (aR bR (aC 0) (mC (.int 3))) (mC (.int 0)))) (m1 (fIsi "list") (aR bR (aR bR (aC 0) (mC (.int 3))) (mC (.int 1))))))))))))))))
def kH : FD := run 4 3 nE
def fX (f_first_fault : FD) : FS :=
 (kJ [8, 9, 10] (aT (cN (bM (f_first_fault) (aB (aC 9) (aB (aR (dR false) (aC 1) (mC (.int 1))) (aB (aC 2) (aB (aR (dR false) (aC 7) (cC (aB (aC 8) aO))) (aB (aC 4) aO)))))) (.tp [10, 4]))
 (cA (mB (aR (CS true) (aC 10) (mC .non))) (bW (cC (aB (aC 10) (aB (aC 4) aO)))) bK)))
def kN (f_first_fault : FD) : FS :=
 (kJ [5, 6, 7, 8, 9, 10] (aT (cN (aR (dR false) (aC 3) (cC (aB (aC 5) aO))) (.nm 7))
 (aT (cA (CP (mB (aR fK (aC 5) (mC (.int 8)))) (CP (mB (aR fK (aC 4) (mC (.int 12)))) (oS (gR (bM kH (aB (aC 6) (aB (aC 1) (aB (aC 2) aO)))))))) (bW (cC (aB (aC 7) (aB (aC 4) aO)))) bK)
 (aT (Jd (fun x y => x + y) 4 (mC (.int 1)))
 (tK (Cr (bM lE (aB (aC 6) aO))) (.tp [8, 9]) (fX (f_first_fault)))))))
def nH (f_first_fault : FD) : FS :=
 (aT (tK (Cr (aC 0)) (.tp [5, 6]) (kN (f_first_fault)))
 (bW (cC (aB (mC .non) (aB (aC 4) aO)))))
def dA : Nat -> FD
 | 0 => zE
 | n + 1 => run 11 5 (nH (dA n))
def dU : FS :=
 (kJ [2, 3, 4, 5] (aT (cA (oS (gR (m1 (fIsi "list") (aC 3)))) (lP "NoBook" ["path", "procedure"] (aB (aC 2) (aB (cC aO) aO))) bK)
 (aT (cN (bM (dA 10) (aB (aC 3) (aB (mC (.int 0)) (aB (m1 fF (aC 1)) (aB (cC aO) (aB (mC (.int 0)) aO)))))) (.tp [4, 5]))
 (cA (mB (aR (CS true) (aC 4) (mC .non))) (lP "NoBook" ["path", "procedure"] (aB (aC 2) (aB (aC 4) aO))) bK))))
def qL : FS :=
 (aT (cA (CP (oS (gR (m1 (fIsi "list") (aC 1)))) (oS (mB (qV KL KL (mC (.int 1)) (m1 fF (aC 1)) (mC (.int 3)))))) (lP "NoBook" ["path", "procedure"] (aB (m1 wJ (mC (.int 1))) (aB (cC aO) aO))) bK)
 (aT (tK (Cr (aC 1)) (.tp [2, 3]) dU)
 (uF "Book" "own" (aC 0) (wR false (kK (aC 1)) (.nm 3) fP (bM (eN 20) (aB (aC 3) aO)) [3]))))
def jF : FD := run 6 2 qL
def sW : FS :=
 (bW (m1 fF (gG "Book" "own" (aC 0))))
def pJ : FD := run 1 1 sW
def nI : FS :=
 (bW (wR false (kK (gG "Book" "own" (aC 0))) (.nm 1) fP (bM (eN 20) (aB (aC 1) aO)) [1]))
def mY : FD := run 2 1 nI
def yS : FS :=
 (bW (aR (dR true) (dG false (aB (mC (.int 0)) aO)) (R6 (wR false (kK (Ao false (aC 0) qU (hC (mC (.int 63))))) (.nm 1) fP (m1 pX (aC 1)) [1]) (dG false (aB (mC (.int 0)) aO)))))
def xT : FD := run 2 1 yS
def yV : FS :=
 (aT (AD (fun x y => x + y) (aC 0) (mC (.int 0)) (mC (.int 1)))
 (aT (cN (aR (dR false) (mC (.int 1)) (aR A1 (m1 pX (aR bR (aC 0) (mC (.int 0)))) (aR rO (m1 fF (aC 0)) (mC (.int 1))))) (.nm 2))
 (aT (cN (m1 pX (aR bR (aC 0) (aC 2))) (.nm 3))
 (aT (cA (mB (aR fGe (aC 3) (aR Jy (mC (.int 10)) (mC (.int 18))))) (aT (II (aR AJ (aC 3) (aC 1)) (aC 0) (aC 2))
 (bW (aR A1 (aC 3) (aC 1)))) bK)
 (aT (cN (aR A1 (aR nX (m1 pX (aR (dR false) (aR (dR false) (aC 3) (aR nX (mC (.int 7919)) (aR bR (aC 0) (mC (.int 0))))) (mC (.int 1)))) (mC (.int 48271))) (mC (.int 2147483647))) (.nm 4))
 (aT (cN (aR A1 (aR nX (aC 4) (aR (dR false) (aR AJ (aC 4) (mC (.int 1009))) (mC (.int 69621)))) (mC (.int 2147483647))) (.nm 4))
 (aT (cN (aR A1 (aR nX (aC 4) (aR (dR false) (aR AJ (aC 4) (mC (.int 2003))) (mC (.int 40692)))) (mC (.int 2147483399))) (.nm 4))
 (bW (aR A1 (aR AJ (aC 4) (mC (.int 11))) (aC 1))))))))))
def dE : FD := run 5 2 yV
def kR : FS :=
 (aT (cN (bM dE (aB (aC 0) (aB (mC (.int 9)) aO))) (.nm 1))
 (aT (cA (mB (aR fK (aC 1) (mC (.int 0)))) (bW (cC (aB (mC (.str "go")) (aB (aR rO (bM dE (aB (aC 0) (aB (mC (.int 19)) aO))) (mC (.int 9))) aO)))) bK)
 (aT (cA (mB (aR fK (aC 1) (mC (.int 1)))) (bW (cC (aB (mC (.str "turn")) (aB (aR (dR false) (mC (.int 1)) (bM dE (aB (aC 0) (aB (mC (.int 3)) aO)))) aO)))) bK)
 (aT (cA (mB (aR fK (aC 1) (mC (.int 2)))) (bW (cC (aB (mC (.str "scale")) (aB (aR rO (bM dE (aB (aC 0) (aB (mC (.int 7)) aO))) (mC (.int 3))) aO)))) bK)
 (aT (cA (mB (aR Mj (aC 1) (mC (.int 5)))) (bW (cC (aB (aR bR (cC (aB (mC (.str "aim")) (aB (mC (.str "place")) aO))) (aR rO (aC 1) (mC (.int 3)))) (aB (aR rO (bM dE (aB (aC 0) (aB (mC (.int 19)) aO))) (mC (.int 9))) (aB (aR rO (bM dE (aB (aC 0) (aB (mC (.int 19)) aO))) (mC (.int 9))) aO))))) bK)
 (bW (cC (aB (aR bR (cC (aB (mC (.str "mirror")) (aB (mC (.str "mark")) (aB (mC (.str "return")) (aB (mC (.str "exchange")) aO))))) (aR rO (aC 1) (mC (.int 5)))) aO))))))))
def fY : FD := run 2 1 kR
def sV : FS :=
 (aT (cA (mB (aR fK (aR bR (aC 0) (mC (.int 0))) (mC (.str "call")))) (bW (m1 (qD false) (aR bR (aC 0) (mC (.int 3))))) bK)
 (bW (wR false (kK (Ao false (aC 0) (hC (mC (.int 1))) qU)) (.nm 1) (gR (m1 (fIsi "list") (aC 1))) (aC 1) [1])))
def sE : FD := run 2 1 sV
def yQ : FS :=
 (aT (cA (mB (aR fK (aR bR (aC 0) (mC (.int 0))) (mC (.str "call")))) (bW (aR (dR false) (Ao false (aC 0) qU (hC (mC (.int 3)))) (cC (aB (aC 1) aO)))) bK)
 (aT (cA (mB (aR fK (m1 fF (aC 1)) (mC (.int 0)))) (bW (aC 0)) bK)
 (bW (aR (dR false) (cC (aB (aR bR (aC 0) (mC (.int 0))) aO)) (m1 fTuple (aC 1))))))
def xS : FD := run 2 2 yQ
def wL (f_L_copy : FD) : FE :=
 (bM xS (aB (aC 1) (aB (wR false (kK (bM sE (aB (aC 1) aO))) (.nm 2) fP (bM (f_L_copy) (aB (aC 2) aO)) [2]) aO)))
def yW (f_L_copy : FD) : FS :=
 (bW (wR false (kK (aC 0)) (.nm 1) fP (wL (f_L_copy)) [1]))
def rM : Nat -> FD
 | 0 => zE
 | n + 1 => run 3 1 (yW (rM n))
def sU : FS :=
 (bW (wR false (kK (aC 0)) (.nm 1) fP (bM (rM 10) (aB (aC 1) aO)) [1]))
def pI : FD := run 2 1 sU
def sO (f_L_same : FD) : FE :=
 (bM (f_L_same) (aB (aR bR (aC 0) (aC 2)) (aB (aR bR (aC 1) (aC 2)) aO)))
def yR (f_L_same : FD) : FS :=
 (aT (cA (gR (m1 (fIsi2 "list" "tuple") (aC 0))) (aT (cA (CP (mB (aR GV (m1 (fIsi "list") (aC 0)) (m1 (fIsi "list") (aC 1)))) (mB (aR GV (m1 (fIsi "tuple") (aC 0)) (m1 (fIsi "tuple") (aC 1))))) (bW (mC (.bl false))) bK)
 (bW (mO (aR fK (m1 fF (aC 0)) (m1 fF (aC 1))) (m1 Bu (wR false (iX (m1 fF (aC 0))) (.nm 2) fP (sO (f_L_same)) [2]))))) bK)
 (aT (cA (CP (gR (m1 (fIsi2 "list" "tuple") (aC 1))) (mB (aR GV (m1 (fIsi "bool") (aC 0)) (m1 (fIsi "bool") (aC 1))))) (bW (mC (.bl false))) bK)
 (bW (mO (aR fK (m1 (fIsi "int") (aC 0)) (m1 (fIsi "int") (aC 1))) (aR fK (aC 0) (aC 1))))))
def lO : Nat -> FD
 | 0 => zE
 | n + 1 => run 3 2 (yR (lO n))
def jI : FS :=
 (kJ [4, 5] (aT (cA (CP (oS (gR (bM eY (aB (aC 5) aO)))) (oS (mB (qV KL Mj (mC (.int 0)) (aC 5) (m1 fF (aC 3)))))) (bW (mC .non)) bK)
 (cA (mB (aR fK (aR A1 (aC 4) (mC (.int 2))) (mC (.int 0)))) (aT (cN (aR bR (aC 3) (aC 5)) (.nm 2))
 (cN (bM lE (aB (aC 2) aO)) (.nm 3))) (cN (aR bR (aC 3) (aC 5)) (.nm 3)))))
def kQ : FS :=
 (bW (mO (bM eY (aB (aC 1) aO)) (qV KL Mj (mC (.int 0)) (aC 1) (m1 (DA "Book" pJ) (aC 0)))))
def kP : FD := run 2 2 kQ
theorem Ab {x0 x1 : Vl} {S : aQ} : kP [x0, x1] S = cL (kQ [some x0, some x1] S) := (rfl)
def yO : FS :=
 (bW (mO (m1 (fIsi "tuple") (aC 0)) (mO (aR fK (m1 fF (aC 0)) (mC (.int 6))) (m1 Bu (wR false (kK (aC 0)) (.nm 1) fP (bM eY (aB (aC 1) aO)) [1])))))
def uD : FD := run 2 1 yO
def lK : FS :=
 (kJ [9] (mPar 4 5 (m1 wJ (aC 5)) (aC 4)))
def sR : FS :=
 (aT (cN (aC 0) (.tp [2, 3, 4, 5, 6, 7]))
 (aT (cN (aR bR (aC 1) (mC (.int 0))) (.nm 8))
 (aT (cA (mB (aR fK (aC 8) (mC (.str "go")))) (bW (cC (aB (aR (dR false) (aC 2) (aR nX (aR bR (aC 1) (mC (.int 1))) (aC 4))) (aB (aR (dR false) (aC 3) (aR nX (aR bR (aC 1) (mC (.int 1))) (aC 5))) (aB (aC 4) (aB (aC 5) (aB (aC 6) (aB (aC 7) aO)))))))) bK)
 (aT (cA (mB (aR fK (aC 8) (mC (.str "turn")))) (aT (tK (iX (aR bR (aC 1) (mC (.int 1)))) (.nm 9) lK)
 (bW (cC (aB (aC 2) (aB (aC 3) (aB (aC 4) (aB (aC 5) (aB (aC 6) (aB (aC 7) aO))))))))) bK)
 (aT (cA (mB (aR fK (aC 8) (mC (.str "mirror")))) (bW (cC (aB (aC 2) (aB (aC 3) (aB (aC 4) (aB (m1 wJ (aC 5)) (aB (aC 6) (aB (aC 7) aO)))))))) bK)
 (aT (cA (mB (aR fK (aC 8) (mC (.str "scale")))) (bW (cC (aB (aC 2) (aB (aC 3) (aB (aR nX (aR bR (aC 1) (mC (.int 1))) (aC 4)) (aB (aR nX (aR bR (aC 1) (mC (.int 1))) (aC 5)) (aB (aC 6) (aB (aC 7) aO)))))))) bK)
 (aT (cA (mB (aR fK (aC 8) (mC (.str "aim")))) (bW (cC (aB (aC 2) (aB (aC 3) (aB (aR bR (aC 1) (mC (.int 1))) (aB (aR bR (aC 1) (mC (.int 2))) (aB (aC 6) (aB (aC 7) aO)))))))) bK)
 (aT (cA (mB (aR fK (aC 8) (mC (.str "place")))) (bW (cC (aB (aR bR (aC 1) (mC (.int 1))) (aB (aR bR (aC 1) (mC (.int 2))) (aB (aC 4) (aB (aC 5) (aB (aC 6) (aB (aC 7) aO)))))))) bK)
 (aT (cA (mB (aR fK (aC 8) (mC (.str "mark")))) (bW (cC (aB (aC 2) (aB (aC 3) (aB (aC 4) (aB (aC 5) (aB (aC 2) (aB (aC 3) aO)))))))) bK)
 (aT (cA (mB (aR fK (aC 8) (mC (.str "return")))) (bW (cC (aB (aC 6) (aB (aC 7) (aB (aC 4) (aB (aC 5) (aB (aC 6) (aB (aC 7) aO)))))))) bK)
 (bW (cC (aB (aC 6) (aB (aC 7) (aB (aC 4) (aB (aC 5) (aB (aC 2) (aB (aC 3) aO))))))))))))))))))
def mQ : FD := run 10 2 sR
def sN : FE :=
 (m1 pX (aR fK (aR A1 (aC 0) (mC (.int 8))) (mC (.int 0))))
def sQ : FS :=
 (bW (wR false (iX (mC (.int 49))) (.nm 0) fP sN [0]))
def mP : FD := run 1 0 sQ
def nC : FE :=
 (aR rO (aR bR (aC 5) (aC 6)) (aR bR (aC 1) (aC 6)))
def kD : FS :=
 (kJ [3, 4, 5] (aT (cN (m1 fTuple (wR false (iX (mC (.int 6))) (.nm 6) fP (m1 pX (aR fK (aC 6) (aC 3))) [6])) (.nm 4))
 (aT (cN (bM mQ (aB (aC 4) (aB (aC 0) aO))) (.nm 5))
 (dQ (kT (aC 2) (aR (dR false) (dG false (aB (mC (.int 0)) aO)) (wR false (iX (mC (.int 6))) (.nm 6) fP nC [6])))))))
def qJ : FS :=
 (aT (cA (oS (gR (bM gE (aB (aC 0) aO)))) (zP "NoCommand") bK)
 (aT (cN (bM mQ (aB (cC (aB (mC (.int 0)) (aB (mC (.int 0)) (aB (mC (.int 0)) (aB (mC (.int 0)) (aB (mC (.int 0)) (aB (mC (.int 0)) aO))))))) (aB (aC 0) aO))) (.nm 1))
 (aT (cN (dG true (aB (dG false (aB (mC (.int 1)) (LL (aC 1) aO))) aO)) (.nm 2))
 (aT (tK (iX (mC (.int 6))) (.nm 3) kD)
 (bW (LN false (iX (mC (.int 7))) (.nm 7) fP (iX (mC (.int 7))) (.nm 8) fP (aR bR (aR bR (aC 2) (aC 8)) (aC 7)) [7, 8] [8]))))))
def nQ : FD := BQ 9 1 qJ
def jJ : FS :=
 (kJ [5, 6] (aT (cN (aR bR (aC 1) (aR (dR false) (aR nX (mC (.int 7)) (aC 3)) (aC 5))) (.nm 6))
 (cA (mB (aR GV (aC 6) (mC (.int 0)))) (cN (wR false (LK (aC 4) (Ao false (aC 0) (hC (aR nX (mC (.int 7)) (aC 5))) (hC (aR (dR false) (aR nX (mC (.int 7)) (aC 5)) (mC (.int 7)))))) (.tp [7, 8]) fP (aR (dR false) (aC 7) (aR nX (aC 6) (aC 8))) [7, 8]) (.nm 4)) bK)))
def lL : FS :=
 (kJ [3, 4, 5, 6] (aT (cN (dG false (aB (mC (.int 0)) (aB (mC (.int 0)) (aB (mC (.int 0)) (aB (mC (.int 0)) (aB (mC (.int 0)) (aB (mC (.int 0)) (aB (mC (.int 0)) aO)))))))) (.nm 4))
 (aT (tK (iX (mC (.int 7))) (.nm 5) jJ)
 (cN (aR (dR false) (aC 2) (aC 4)) (.nm 2)))))
def sS : FS :=
 (aT (cN (dG false aO) (.nm 2))
 (aT (tK (iX (mC (.int 7))) (.nm 3) lL)
 (bW (aC 2))))
def pG : FD := run 9 2 sS
def nG : FS :=
 (aT (cN (aR bR (aC 0) (mC (.int 0))) (.nm 1))
 (aT (cN (wR false (kK (Ao false (bM mP aO) (hC (mC (.int 7))) (hC (mC (.int 35))))) (.nm 3) fP (aR nX (aC 1) (aC 3)) [3]) (.nm 2))
 (bW (aR (dR false) (aR (dR false) (Ao false (aC 0) qU (hC (mC (.int 7)))) (aC 2)) (Ao false (aC 0) (hC (mC (.int 35))) qU)))))
def mX : FD := run 4 1 nG
def jT : FS :=
 (aT (uF "Execution" "own" (aC 0) (aC 1))
 (aT (uF "Execution" "bits" (aC 0) (aC 2))
 (aT (uF "Execution" "taken" (aC 0) (mC (.int 0)))
 (aT (uF "Execution" "deeds" (aC 0) (dG true aO))
 (aT (uF "Execution" "stack" (aC 0) (dG true aO))
 (aT (uF "Execution" "active" (aC 0) (O7 (kK (aC 1)) (.nm 3) [3]))
 (uF "Execution" "ended" (aC 0) (mC (.int 0)))))))))
def gZ : FD := run 4 3 jT
def hR : FS :=
 (aT (cA (mB (aR fK (gG "Execution" "taken" (aC 0)) (m1 fF (gG "Execution" "bits" (aC 0))))) (lP "NoRun" ["index"] (aB (gG "Execution" "taken" (aC 0)) aO)) bK)
 (aT (Cs (fun x y => x + y) "Execution" "taken" (aC 0) (mC (.int 1)))
 (bW (aR bR (gG "Execution" "bits" (aC 0)) (aR rO (gG "Execution" "taken" (aC 0)) (mC (.int 1)))))))
def dN : FD := run 1 1 hR
def gL : FS :=
 (aT (cN (aR bR (gG "Execution" "active" (aC 0)) (aC 1)) (.nm 3))
 (aT (cA (LO (mB (aR NQ (m1 fF (aC 3)) (mC (.int 0)))) (mB (aR fK (aR bR (aC 3) (m1 wJ (mC (.int 1)))) (gG "Execution" "taken" (aC 0))))) (lP "NoRun" ["index"] (aB (m1 wJ (mC (.int 2))) aO)) bK)
 (aT (dQ (kT (aR bR (gG "Execution" "active" (aC 0)) (aC 1)) (gG "Execution" "taken" (aC 0))))
 (aT (dQ (kT (gG "Execution" "stack" (aC 0)) (cC (aB (mC (.str "call")) (aB (aC 1) (aB (aC 2) aO))))))
 (dQ (kT (gG "Execution" "stack" (aC 0)) (cC (aB (mC (.str "list")) (aB (aR bR (gG "Execution" "own" (aC 0)) (aC 1)) (aB (mC (.int 0)) aO))))))))))
def dW : FD := run 4 3 gL
def jA : FS :=
 (aT (dQ (m1 qY (aR bR (gG "Execution" "active" (aC 0)) (aC 1))))
 (aT (cA (mB (aR (CS false) (aC 2) (mC .non))) (aT (uF "Execution" "ended" (aC 0) (aC 3))
 (bW (mC .non))) bK)
 (aT (cA (gR (aR bR (aC 2) (mC (.int 2)))) (dQ (kT (gG "Execution" "deeds" (aC 0)) (cC (aB (mC (.str "close")) aO)))) bK)
 (dQ (kT (gG "Execution" "stack" (aC 0)) (cC (aB (mC (.str "list")) (aB (aR bR (aR bR (aC 2) (mC (.int 3))) (aC 3)) (aB (mC (.int 0)) aO)))))))))
def gF : FD := run 4 4 jA
def dM : FS :=
 (aT (cA (mB (aR fK (aR bR (aC 2) (mC (.int 0))) (mC (.str "close")))) (dQ (kT (gG "Execution" "deeds" (aC 0)) (aC 2))) bK)
 (cN (m1 qY (gG "Execution" "stack" (aC 0))) (.nm 2)))
def iL : FS :=
 (aT (cN (m1 qY (gG "Execution" "stack" (aC 0))) (.nm 2))
 (aT (zO 1000000 (mB (aR GV (aR bR (aC 2) (mC (.int 0))) (mC (.str "call")))) dM)
 (dQ (pK "Execution" "leave" gF (aC 0) (aB (aR bR (aC 2) (mC (.int 1))) (aB (aR bR (aC 2) (mC (.int 2))) (aB (aC 1) aO)))))))
def iD : FD := run 3 2 iL
def jB : FS :=
 (aT (cN (aR bR (aC 1) (mC (.int 0))) (.nm 2))
 (cA (gR (bM gE (aB (aC 1) aO))) (dQ (kT (gG "Execution" "deeds" (aC 0)) (aC 1))) (cA (mB (aR fK (aC 2) (mC (.str "keep")))) (aT (dQ (kT (gG "Execution" "deeds" (aC 0)) (cC (aB (mC (.str "open")) aO))))
 (aT (dQ (kT (gG "Execution" "stack" (aC 0)) (cC (aB (mC (.str "close")) aO))))
 (dQ (kT (gG "Execution" "stack" (aC 0)) (cC (aB (mC (.str "list")) (aB (aR bR (aC 1) (mC (.int 1))) (aB (mC (.int 0)) aO)))))))) (cA (mB (aR fK (aC 2) (mC (.str "either")))) (dQ (kT (gG "Execution" "stack" (aC 0)) (cC (aB (mC (.str "list")) (aB (aR bR (aC 1) (aR (dR false) (mC (.int 1)) (pK "Execution" "take" dN (aC 0) aO))) (aB (mC (.int 0)) aO)))))) (cA (mB (aR fK (aC 2) (mC (.str "again")))) (dQ (kT (gG "Execution" "stack" (aC 0)) (cC (aB (mC (.str "again")) (aB (aR bR (aC 1) (mC (.int 1))) aO))))) (cA (mB (aR fK (aC 2) (mC (.str "call")))) (aT (cA (gR (aR bR (aC 1) (mC (.int 2)))) (dQ (kT (gG "Execution" "deeds" (aC 0)) (cC (aB (mC (.str "open")) aO)))) bK)
 (dQ (pK "Execution" "enter" dW (aC 0) (aB (aR bR (aC 1) (mC (.int 1))) (aB (aC 1) aO))))) (dQ (pK "Execution" "unwind" iD (aC 0) (aB (aR bR (aC 1) (mC (.int 1))) aO)))))))))
def iW : FD := run 3 2 jB
def jS : FS :=
 (aT (cN (m1 qY (gG "Execution" "stack" (aC 0))) (.nm 1))
 (cA (mB (aR fK (aR bR (aC 1) (mC (.int 0))) (mC (.str "list")))) (cA (mB (aR Mj (aR bR (aC 1) (mC (.int 2))) (m1 fF (aR bR (aC 1) (mC (.int 1)))))) (aT (dQ (kT (gG "Execution" "stack" (aC 0)) (cC (aB (mC (.str "list")) (aB (aR bR (aC 1) (mC (.int 1))) (aB (aR (dR false) (aR bR (aC 1) (mC (.int 2))) (mC (.int 1))) aO))))))
 (dQ (pK "Execution" "begin" iW (aC 0) (aB (aR bR (aR bR (aC 1) (mC (.int 1))) (aR bR (aC 1) (mC (.int 2)))) aO)))) bK) (cA (mB (aR fK (aR bR (aC 1) (mC (.int 0))) (mC (.str "close")))) (dQ (kT (gG "Execution" "deeds" (aC 0)) (aC 1))) (cA (mB (aR fK (aR bR (aC 1) (mC (.int 0))) (mC (.str "again")))) (cA (mB (aR fK (pK "Execution" "take" dN (aC 0) aO) (mC (.int 1)))) (aT (dQ (kT (gG "Execution" "stack" (aC 0)) (aC 1)))
 (dQ (kT (gG "Execution" "stack" (aC 0)) (cC (aB (mC (.str "list")) (aB (aR bR (aC 1) (mC (.int 1))) (aB (mC (.int 0)) aO))))))) bK) (dQ (pK "Execution" "leave" gF (aC 0) (aB (aR bR (aC 1) (mC (.int 1))) (aB (aR bR (aC 1) (mC (.int 2))) (aB (mC (.int 0)) aO)))))))))
def jK : FD := run 2 1 jS
def gW : FS :=
 (kJ [3, 4] (cA (oS (gR (bM uE (aB (aC 4) aO)))) (lP "NoRun" ["index"] (aB (aC 3) aO)) bK))
def eJ : FS :=
 (dQ (pK "Execution" "step" jK (aC 5) aO))
def mF : FS :=
 (aT (cA (oS (gR (bM kP (aB (aC 0) (aB (aC 1) aO))))) (zP "NoProcedure") bK)
 (aT (cA (oS (gR (m1 (fIsi "list") (aC 2)))) (lP "NoRun" ["index"] (aB (m1 wJ (mC (.int 1))) aO)) bK)
 (aT (tK (Cr (aC 2)) (.tp [3, 4]) gW)
 (aT (cN (IJ true "Execution" gZ (aB (pK "Book" "bodies" mY (aC 0) aO) (aB (aC 2) aO))) (.nm 5))
 (aT (dQ (pK "Execution" "enter" dW (aC 5) (aB (aC 1) (aB (mC .non) aO))))
 (aT (zO 1000000 (mB (aR NQ (m1 fF (gG "Execution" "stack" (aC 5))) (mC (.int 0)))) eJ)
 (aT (cA (mB (aR Mj (gG "Execution" "taken" (aC 5)) (m1 fF (aC 2)))) (lP "NoRun" ["index"] (aB (gG "Execution" "taken" (aC 5)) aO)) bK)
 (bW (cC (aB (gG "Execution" "ended" (aC 5)) (aB (xV (gG "Execution" "deeds" (aC 5))) aO)))))))))))
def cH : FD := BQ 6 3 mF
def eU : FS :=
 (kJ [4] (cA (mB (aR fK (aR bR (aC 4) (mC (.int 0))) (mC (.str "open")))) (dQ (kT (aC 3) (Ao false (aC 1) qU (hC (mC (.int 4)))))) (cA (mB (aR fK (aR bR (aC 4) (mC (.int 0))) (mC (.str "close")))) (cN (aR (dR false) (m1 qY (aC 3)) (Ao false (aC 1) (hC (mC (.int 4))) qU)) (.nm 1)) (aT (cN (bM mQ (aB (aC 1) (aB (aC 4) aO))) (.nm 1))
 (dQ (kT (aC 2) (aC 1)))))))
def nF : FS :=
 (aT (cN (dG true aO) (.nm 2))
 (aT (cN (dG true aO) (.nm 3))
 (aT (tK (kK (aC 0)) (.nm 4) eU)
 (bW (cC (aB (xV (aC 2)) (aB (aC 1) aO)))))))
def kI : FD := BQ 5 2 nF
def Iv : FS :=
 (aT (cN (bM cH (aB (aC 0) (aB (aC 1) (aB (aC 2) aO)))) (.tp [4, 5]))
 (aT (cA (oS (gR (bM uD (aB (aC 3) aO)))) (zP "NoPen") bK)
 (aT (cN (bM kI (aB (aC 5) (aB (aC 3) aO))) (.tp [6, 7]))
 (bW (cC (aB (aC 4) (aB (aC 7) (aB (m1 fF (aC 6)) aO))))))))
def FQ : FD := run 8 4 Iv
def fM : FS :=
 (kJ [8] (cA (mB (aR fK (aR bR (aC 8) (mC (.int 0))) (mC (.str "open")))) (aT (dQ (kT (aC 6) (aC 5)))
 (cN (bM mP aO) (.nm 5))) (cA (mB (aR fK (aR bR (aC 8) (mC (.int 0))) (mC (.str "close")))) (cN (bM pG (aB (m1 qY (aC 6)) (aB (bM mX (aB (aC 5) aO)) aO))) (.nm 5)) (aT (cN (bM pG (aB (aC 5) (aB (bM nQ (aB (aC 8) aO)) aO))) (.nm 5))
 (Jd (fun x y => x + y) 7 (mC (.int 1)))))))
def oX : FS :=
 (aT (cN (bM cH (aB (aC 0) (aB (aC 1) (aB (aC 2) aO)))) (.tp [3, 4]))
 (aT (cN (bM mP aO) (.nm 5))
 (aT (cN (dG true aO) (.nm 6))
 (aT (cN (mC (.int 0)) (.nm 7))
 (aT (tK (kK (aC 4)) (.nm 8) fM)
 (bW (cC (aB (aC 3) (aB (aC 5) (aB (aC 7) aO))))))))))
def lN : FD := BQ 9 3 oX
def sT : FS :=
 (aT (cN (bM dE (aB (aC 0) (aB (mC (.int 3)) aO))) (.nm 1))
 (aT (cA (mB (aR fK (aC 1) (mC (.int 0)))) (bW (aR rO (bM dE (aB (aC 0) (aB (mC (.int 9)) aO))) (mC (.int 4)))) bK)
 (aT (AD (fun x y => x + y) (aC 0) (mC (.int 0)) (mC (.int 1)))
 (aT (cN (aR (dR false) (mC (.int 1)) (aR A1 (m1 pX (aR bR (aC 0) (mC (.int 0)))) (aR rO (m1 fF (aC 0)) (mC (.int 1))))) (.nm 2))
 (aT (cN (aR A1 (m1 pX (aR (dR false) (aR nX (aR bR (aC 0) (aC 2)) (mC (.int 48271))) (aR nX (aR bR (aC 0) (mC (.int 0))) (mC (.int 69621))))) (aR Jy (mC (.int 10)) (mC (.int 40)))) (.nm 3))
 (aT (cA (mB (aR fK (bM dE (aB (aC 0) (aB (mC (.int 2)) aO))) (mC (.int 0)))) (bW (aC 3)) bK)
 (bW (aR rO (mC (.int 5)) (aC 3)))))))))
def mR : FD := run 4 1 sT
def Az : FS :=
 (aT (cN (wR false (iX (mC (.int 6))) (.nm 2) fP (bM mR (aB (aC 0) aO)) [2]) (.nm 1))
 (bW (cC (aB (aR bR (aC 1) (mC (.int 0))) (aB (aR bR (aC 1) (mC (.int 1))) (aB (aR bR (aC 1) (mC (.int 2))) (aB (aR bR (aC 1) (mC (.int 3))) (aB (aR bR (aC 1) (mC (.int 4))) (aB (aR bR (aC 1) (mC (.int 5))) aO)))))))))
def Am : FD := run 3 1 Az
def yU : FS :=
 (aT (cN (aC 0) (.tp [2, 3, 4, 5, 6, 7]))
 (aT (cN (aR bR (aC 1) (mC (.int 0))) (.nm 8))
 (aT (cN (aR bR (aR (dR false) (aC 1) (cC (aB (mC (.int 0)) aO))) (mC (.int 1))) (.nm 9))
 (aT (cA (mB (aR fK (aC 8) (mC (.str "go")))) (bW (cC (aB (aR (dR false) (aC 2) (aR nX (aC 9) (aC 4))) (aB (aR (dR false) (aC 3) (aR nX (aC 9) (aC 5))) (aB (aC 4) (aB (aC 5) (aB (aC 6) (aB (aC 7) aO)))))))) bK)
 (aT (cA (mB (aR fK (aC 8) (mC (.str "turn")))) (aT (cN (aR bR (dG false (aB (cC (aB (m1 wJ (aC 5)) (aB (aC 4) aO))) (aB (cC (aB (m1 wJ (aC 4)) (aB (m1 wJ (aC 5)) aO))) (aB (cC (aB (aC 5) (aB (m1 wJ (aC 4)) aO))) aO)))) (aR rO (aC 9) (mC (.int 1)))) (.nm 10))
 (bW (cC (aB (aC 2) (aB (aC 3) (aB (aR bR (aC 10) (mC (.int 0))) (aB (aR bR (aC 10) (mC (.int 1))) (aB (aC 6) (aB (aC 7) aO))))))))) bK)
 (aT (cA (mB (aR fK (aC 8) (mC (.str "mirror")))) (bW (cC (aB (aC 2) (aB (aC 3) (aB (aC 4) (aB (m1 wJ (aC 5)) (aB (aC 6) (aB (aC 7) aO)))))))) bK)
 (aT (cA (mB (aR fK (aC 8) (mC (.str "scale")))) (bW (cC (aB (aC 2) (aB (aC 3) (aB (aR nX (aC 4) (aC 9)) (aB (aR nX (aC 5) (aC 9)) (aB (aC 6) (aB (aC 7) aO)))))))) bK)
 (aT (cA (mB (aR fK (aC 8) (mC (.str "aim")))) (bW (cC (aB (aC 2) (aB (aC 3) (aB (aC 9) (aB (aR bR (aC 1) (mC (.int 2))) (aB (aC 6) (aB (aC 7) aO)))))))) bK)
 (aT (cA (mB (aR fK (aC 8) (mC (.str "place")))) (bW (cC (aB (aC 9) (aB (aR bR (aC 1) (mC (.int 2))) (aB (aC 4) (aB (aC 5) (aB (aC 6) (aB (aC 7) aO)))))))) bK)
 (aT (cA (mB (aR fK (aC 8) (mC (.str "mark")))) (bW (cC (aB (aC 2) (aB (aC 3) (aB (aC 4) (aB (aC 5) (aB (aC 2) (aB (aC 3) aO)))))))) bK)
 (aT (cA (mB (aR fK (aC 8) (mC (.str "return")))) (bW (cC (aB (aC 6) (aB (aC 7) (aB (aC 4) (aB (aC 5) (aB (aC 6) (aB (aC 7) aO)))))))) bK)
 (bW (cC (aB (aC 6) (aB (aC 7) (aB (aC 4) (aB (aC 5) (aB (aC 2) (aB (aC 3) aO)))))))))))))))))))
def xU : FD := run 11 2 yU
def kS : FS :=
 (kJ [4] (cA (mB (aR fK (aR bR (aC 4) (mC (.int 0))) (mC (.str "hold")))) (dQ (kT (aC 3) (aC 1))) (cA (mB (aR fK (aR bR (aC 4) (mC (.int 0))) (mC (.str "shut")))) (cN (aR (dR false) (Ao false (m1 qY (aC 3)) qU (hC (mC (.int 4)))) (Ao false (aC 1) (hC (mC (.int 4))) qU)) (.nm 1)) (aT (cN (bM xU (aB (aC 1) (aB (aC 4) aO))) (.nm 1))
 (dQ (kT (aC 2) (aC 1)))))))
def yT : FS :=
 (aT (cN (dG true aO) (.nm 2))
 (aT (cN (dG true aO) (.nm 3))
 (aT (tK (kK (aC 0)) (.nm 4) kS)
 (bW (dG false (aB (xV (aC 2)) (aB (aC 1) aO)))))))
def pH : FD := BQ 5 2 yT
def qE : FE :=
 (aR bR (bM pH (aB (aC 0) (aB (m1 fTuple (wR false (iX (mC (.int 6))) (.nm 6) fP (m1 pX (aR fK (aC 6) (aC 5))) [6])) aO))) (mC (.int 1)))
def nK : FS :=
 (kJ [5] (dQ (kT (aC 3) (aR rO (aR bR (aR bR (aC 2) (aC 5)) (aC 4)) (aR bR (aC 1) (aC 4))))))
def nJ : FS :=
 (kJ [4, 5] (aT (dQ (kT (aC 3) (aR bR (aC 1) (aC 4))))
 (tK (iX (mC (.int 6))) (.nm 5) nK)))
def vJ : FS :=
 (aT (cN (aR bR (bM pH (aB (aC 0) (aB (cC (aB (mC (.int 0)) (aB (mC (.int 0)) (aB (mC (.int 0)) (aB (mC (.int 0)) (aB (mC (.int 0)) (aB (mC (.int 0)) aO))))))) aO))) (mC (.int 1))) (.nm 1))
 (aT (cN (wR false (iX (mC (.int 6))) (.nm 5) fP qE [5]) (.nm 2))
 (aT (cN (dG true (aB (mC (.int 1)) (aB (mC (.int 0)) (aB (mC (.int 0)) (aB (mC (.int 0)) (aB (mC (.int 0)) (aB (mC (.int 0)) (aB (mC (.int 0)) aO)))))))) (.nm 3))
 (aT (tK (iX (mC (.int 6))) (.nm 4) nJ)
 (bW (xV (aC 3)))))))
def rL : FD := BQ 7 1 vJ
theorem NM {x0 : Vl} {S : aQ} : uD [x0] S = cL (yO [some x0, none] S) := (rfl)
theorem Hg {x0 x1 : Vl} {S : aQ} : mQ [x0, x1] S = cL (sR [some x0, some x1, none, none, none, none, none, none, none, none] S) := (rfl)
theorem Hf {S : aQ} : mP [] S = cL (sQ [none] S) := (rfl)
theorem GQ {x0 : Vl} {S : aQ} : nQ [x0] S = trunc S.length (cL (qJ [some x0, none, none, none, none, none, none, none, none] S)) := (rfl)
theorem Hh {x0 x1 : Vl} {S : aQ} : pG [x0, x1] S = cL (sS [some x0, some x1, none, none, none, none, none, none, none] S) := (rfl)
theorem CU {x0 : Vl} {S : aQ} : mX [x0] S = cL (nG [some x0, none, none, none] S) := (rfl)
theorem A8 {x0 x1 x2 : Vl} {S : aQ} : gZ [x0, x1, x2] S = cL (jT [some x0, some x1, some x2, none] S) := (rfl)
theorem rT {x0 : Vl} {S : aQ} : dN [x0] S = cL (hR [some x0] S) := (rfl)
theorem qM {x0 x1 x2 : Vl} {S : aQ} : dW [x0, x1, x2] S = cL (gL [some x0, some x1, some x2, none] S) := (rfl)
theorem yY {x0 x1 x2 x3 : Vl} {S : aQ} : gF [x0, x1, x2, x3] S = cL (jA [some x0, some x1, some x2, some x3] S) := (rfl)
theorem wO {x0 x1 : Vl} {S : aQ} : iD [x0, x1] S = cL (iL [some x0, some x1, none] S) := (rfl)
theorem yZ {x0 x1 : Vl} {S : aQ} : iW [x0, x1] S = cL (jB [some x0, some x1, none] S) := (rfl)
theorem A7 {x0 : Vl} {S : aQ} : jK [x0] S = cL (jS [some x0, none] S) := (rfl)
theorem CF {x0 x1 x2 : Vl} {S : aQ} : cH [x0, x1, x2] S = trunc S.length (cL (mF [some x0, some x1, some x2, none, none, none] S)) := (rfl)
theorem CT {x0 x1 : Vl} {S : aQ} : kI [x0, x1] S = trunc S.length (cL (nF [some x0, some x1, none, none, none] S)) := (rfl)
theorem E_ran {x0 x1 x2 x3 : Vl} {S : aQ} : FQ [x0, x1, x2, x3] S = cL (Iv [some x0, some x1, some x2, some x3, none, none, none, none] S) := (rfl)
theorem ER {x0 x1 x2 : Vl} {S : aQ} : lN [x0, x1, x2] S = trunc S.length (cL (oX [some x0, some x1, some x2, none, none, none, none, none, none] S)) := (rfl)
theorem Hi {x0 : Vl} {S : aQ} : mR [x0] S = cL (sT [some x0, none, none, none] S) := (rfl)
theorem Pk {x0 : Vl} {S : aQ} : Am [x0] S = cL (Az [some x0, none, none] S) := (rfl)
theorem NO {x0 x1 : Vl} {S : aQ} : xU [x0, x1] S = cL (yU [some x0, some x1, none, none, none, none, none, none, none, none, none] S) := (rfl)
theorem NN {x0 x1 : Vl} {S : aQ} : pH [x0, x1] S = trunc S.length (cL (yT [some x0, some x1, none, none, none] S)) := (rfl)
theorem KF {x0 : Vl} {S : aQ} : rL [x0] S = trunc S.length (cL (vJ [some x0, none, none, none, none, none, none] S)) := (rfl)
def B0 : FS :=
 (aT (cN (aR cX (aC 0) (mC (.str "bits"))) (.nm 2))
 (aT (cA (mB (aR fK (aR cX (aC 0) (mC (.str "taken"))) (m1 fF (aC 2)))) (aT (cA (mB (aR fK (aR cX (aC 0) (mC (.str "extra"))) (mC (.int 0)))) (bW (mC (.int 2))) bK)
 (aT (AC Fz (aC 0) (mC (.str "extra")) (mC (.int 1)))
 (dQ (kT (aC 2) (m1 pX (mO (aR fK (aR bR (aC 1) (mC (.int 0))) (mC (.str "either"))) (aR Ml (mC (.str "call")) (m1 CQ (aR bR (aC 1) (mC (.int 1))))))))))) bK)
 (aT (AC G1 (aC 0) (mC (.str "taken")) (mC (.int 1)))
 (bW (aR bR (aC 2) (aR rO (aR cX (aC 0) (mC (.str "taken"))) (mC (.int 1))))))))
def An : FD := run 3 2 B0
def gK : FS :=
 (aT (cN (aR bR (aC 1) (mC (.int 0))) (.nm 2))
 (aT (cA (CP (mB (aR fK (aC 2) (mC (.str "either")))) (mB (aR fK (aC 2) (mC (.str "again"))))) (aT (cN (bM An (aB (aC 0) (aB (aC 1) aO))) (.nm 3))
 (aT (cA (mB (aR fK (aC 3) (mC (.int 2)))) (bW (mC .non)) bK)
 (aT (cA (mB (aR fK (aC 2) (mC (.str "either")))) (bW (aR bR (aC 1) (aR (dR false) (mC (.int 1)) (aC 3)))) bK)
 (bW (aR bR (dG false (aB (dG false aO) (aB (aR (dR false) (aR bR (aC 1) (mC (.int 1))) (dG false (aB (aC 1) aO))) aO))) (aC 3)))))) bK)
 (aT (cA (mB (aR fK (aC 2) (mC (.str "keep")))) (aT (dQ (kT (aR cX (aC 0) (mC (.str "deeds"))) (cC (aB (mC (.str "hold")) aO))))
 (bW (aR (dR false) (aR bR (aC 1) (mC (.int 1))) (dG false (aB (cC (aB (mC (.str "shut")) aO)) aO))))) bK)
 (aT (cA (mB (aR fK (aC 2) (mC (.str "call")))) (aT (cA (mB (aR (fIn false) (cC (aB (aR bR (aC 1) (mC (.int 1))) (aB (aR cX (aC 0) (mC (.str "taken"))) aO))) (aR cX (aC 0) (mC (.str "opens"))))) (bW (mC .non)) bK)
 (aT (dQ (kT (aR cX (aC 0) (mC (.str "opens"))) (cC (aB (aR bR (aC 1) (mC (.int 1))) (aB (aR cX (aC 0) (mC (.str "taken"))) aO)))))
 (aT (AC HX (aC 0) (mC (.str "deeds")) (Ao false (dG false (aB (cC (aB (mC (.str "hold")) aO)) aO)) qU (hC (m1 pX (aR bR (aC 1) (mC (.int 2)))))))
 (bW (aR (dR false) (aR bR (aR cX (aC 0) (mC (.str "bodies"))) (aR bR (aC 1) (mC (.int 1)))) (dG false (aB (cC (aB (mC (.str "out")) (aB (aC 1) (aB (mC (.int 0)) aO)))) aO))))))) bK)
 (aT (cA (mB (aR fK (aC 2) (mC (.str "end")))) (aT (cN (aR cX (aC 0) (mC (.str "todo"))) (.nm 4))
 (aT (cN (R7 (wR false (kK (aC 4)) (.nm 6) fP (aR bR (aC 6) (mC (.int 0))) [6]) (mC (.str "out"))) (.nm 5))
 (aT (AC HX (aC 0) (mC (.str "deeds")) (wR false (kK (Ao false (aC 4) qU (hC (aC 5)))) (.nm 6) (mB (aR fK (aR bR (aC 6) (mC (.int 0))) (mC (.str "shut")))) (aC 6) [6]))
 (aT (Ba (aC 0) (mC (.str "todo")) (Ao false (aC 4) (hC (aR (dR false) (aC 5) (mC (.int 1)))) qU))
 (bW (dG false (aB (cC (aB (mC (.str "out")) (aB (aR bR (aR bR (aC 4) (aC 5)) (mC (.int 1))) (aB (aR bR (aC 1) (mC (.int 1))) aO)))) aO))))))) bK)
 (aT (cA (mB (aR fK (aC 2) (mC (.str "out")))) (aT (dQ (m1 qY (aR cX (aC 0) (mC (.str "opens")))))
 (aT (Ba (aC 0) (mC (.str "way")) (aR bR (aC 1) (mC (.int 2))))
 (aT (AC HX (aC 0) (mC (.str "deeds")) (Ao false (dG false (aB (cC (aB (mC (.str "shut")) aO)) aO)) qU (hC (m1 pX (aR bR (aR bR (aC 1) (mC (.int 1))) (mC (.int 2)))))))
 (bW (aR bR (aR bR (aR bR (aC 1) (mC (.int 1))) (mC (.int 3))) (aR bR (aC 1) (mC (.int 2)))))))) bK)
 (aT (dQ (kT (aR cX (aC 0) (mC (.str "deeds"))) (aC 1)))
 (bW (dG false aO)))))))))
def jE : FD := run 7 2 gK
def eK : FS :=
 (kJ [5, 6, 7] (cA (mB (aR NQ (m1 fF (aR cX (aC 4) (mC (.str "todo")))) (mC (.int 0)))) (aT (cN (aR bR (aR cX (aC 4) (mC (.str "todo"))) (mC (.int 0))) (.nm 6))
 (aT (Ba (aC 4) (mC (.str "todo")) (Ao false (aR cX (aC 4) (mC (.str "todo"))) (hC (mC (.int 1))) qU))
 (aT (cN (bM jE (aB (aC 4) (aB (aC 6) aO))) (.nm 7))
 (aT (cA (LO (mB (aR (CS false) (aC 7) (mC .non))) (mB (aR fK (aR bR (aC 6) (mC (.int 0))) (mC (.str "call"))))) (bW (cC (aB (mC (.str "never")) (aB (m1 wJ (mC (.int 2))) (aB (xV (aR cX (aC 4) (mC (.str "deeds")))) (aB (xV (aR cX (aC 4) (mC (.str "bits")))) aO)))))) bK)
 (aT (cA (mB (aR (CS false) (aC 7) (mC .non))) (bW (cC (aB (mC (.str "short")) (aB (m1 fF (aR cX (aC 4) (mC (.str "bits")))) (aB (xV (aR cX (aC 4) (mC (.str "deeds")))) (aB (xV (aR cX (aC 4) (mC (.str "bits")))) aO)))))) bK)
 (Ba (aC 4) (mC (.str "todo")) (aR (dR false) (aC 7) (aR cX (aC 4) (mC (.str "todo")))))))))) bK))
def Ay : FS :=
 (aT (cN (Jc [("bodies", (aC 0)), ("bits", (m1 (qD true) (aC 2))), ("extra", (aC 3)), ("taken", (mC (.int 0))), ("way", (mC (.int 0))), ("deeds", (dG true aO)), ("opens", (dG true aO))]) (.nm 4))
 (aT (Ba (aC 4) (mC (.str "todo")) (dG false (aB (cC (aB (mC (.str "call")) (aB (aC 1) (aB (mC (.bl false)) (aB (dG false (aB (dG false aO) (aB (dG false aO) aO))) aO))))) aO)))
 (aT (tK (iX (mC (.int 3000))) (.nm 5) eK)
 (aT (cA (mB (aR NQ (m1 fF (aR cX (aC 4) (mC (.str "todo")))) (mC (.int 0)))) (bW (cC (aB (mC (.str "long")) (aB (mC (.int 0)) (aB (dG false aO) (aB (dG false aO) aO)))))) bK)
 (aT (cA (mB (aR Mj (aR cX (aC 4) (mC (.str "taken"))) (m1 fF (aR cX (aC 4) (mC (.str "bits")))))) (bW (cC (aB (mC (.str "rest")) (aB (aR cX (aC 4) (mC (.str "taken"))) (aB (xV (aR cX (aC 4) (mC (.str "deeds")))) (aB (xV (aR cX (aC 4) (mC (.str "bits")))) aO)))))) bK)
 (bW (cC (aB (mC (.str "run")) (aB (aR cX (aC 4) (mC (.str "way"))) (aB (xV (aR cX (aC 4) (mC (.str "deeds")))) (aB (xV (aR cX (aC 4) (mC (.str "bits")))) aO)))))))))))
def sD : FD := BQ 8 4 Ay
theorem Pm {x0 x1 : Vl} {S : aQ} : An [x0, x1] S = cL (B0 [some x0, some x1, none] S) := (rfl)
theorem jH {x0 x1 : Vl} {S : aQ} : jE [x0, x1] S = cL (gK [some x0, some x1, none, none, none, none, none] S) := (rfl)
theorem Pj {x0 x1 x2 x3 : Vl} {S : aQ} : sD [x0, x1, x2, x3] S = trunc S.length (cL (Ay [some x0, some x1, some x2, some x3, none, none, none, none] S)) := (rfl)
def Ax : NL :=
 (Cq (cN (bM cH (aB (aC 0) (aB (aC 1) (aB (aC 2) aO)))) (.tp [4, 5]))
 (Cq (cA (oS (gR (bM uD (aB (aC 3) aO)))) (zP "NoPen") bK)
 (Cq (cN (bM kI (aB (aC 5) (aB (aC 3) aO))) (.tp [6, 7]))
 (mYf (aC 6)))))
def xR : NS := Ku 8 4 Ax
def kZ : FS :=
 (kJ [12] (cN (aR (dR false) (aC 11) (dG false (aB (mC (.int 1)) (aB (bM dE (aB (aC 1) (aB (mC (.int 2)) aO))) aO)))) (.nm 11)))
def tW : FS :=
 (aT (cN (m1 (qD false) (aC 11)) (.nm 16))
 (aT (cN (Gw 3 xR (aB (aC 14) (aB (mC (.int 0)) (aB (aC 16) aO))) (aC 4)) (.nm 17))
 (bW (mO (bM (lO 20) (aB (aC 17) (aB (aR bR (aC 15) (mC (.int 0))) aO))) (aR fK (aC 16) (aC 11))))))
def tV : FS :=
 (aT (cA (oS (gR (bM (lO 20) (aB (bM lN (aB (aC 14) (aB (mC (.int 0)) (aB (m1 (qD false) (aC 11)) aO)))) (aB (cC (aB (aR bR (aC 13) (mC (.int 1))) (aB (bM rL (aB (aR bR (aC 13) (mC (.int 2))) aO)) (aB (m1 fF (aR bR (aC 15) (mC (.int 0)))) aO)))) aO))))) (bW (mC (.bl false))) bK)
 tW)
def tU : FS :=
 (aT (cN (IJ false "Book" jF (aB (bM pI (aB (aC 9) aO)) aO)) (.nm 14))
 (aT (cN (bM pH (aB (aR bR (aC 13) (mC (.int 2))) (aB (aC 4) aO))) (.nm 15))
 (aT (cA (oS (gR (bM (lO 20) (aB (Gx 3 FQ (aB (aC 14) (aB (mC (.int 0)) (aB (m1 (qD false) (aC 11)) aO))) (aC 4)) (aB (cC (aB (aR bR (aC 13) (mC (.int 1))) (aB (aR bR (aC 15) (mC (.int 1))) (aB (m1 fF (aR bR (aC 15) (mC (.int 0)))) aO)))) aO))))) (bW (mC (.bl false))) bK)
 tV)))
def lD : FS :=
 (aT (cN (aR (dR false) (aC 11) (dG false (aB (mC (.int 0)) aO))) (.nm 11))
 (aT (cN (bM sD (aB (aC 9) (aB (mC (.int 0)) (aB (aC 11) (aB (mC (.int 0)) aO))))) (.nm 13))
 (aT (cA (mB (aR GV (aR bR (aC 13) (mC (.int 0))) (mC (.str "run")))) (bW (mC (.bl false))) bK)
 tU)))
def rS : FS :=
 (aT (cN (bM xT (aB (aC 0) aO)) (.nm 1))
 (aT (cN (aR (dR false) (mC (.int 1)) (bM dE (aB (aC 1) (aB (mC (.int 30)) aO)))) (.nm 2))
 (aT (cN (dG false (aB (aR fK (bM dE (aB (aC 1) (aB (mC (.int 3)) aO))) (mC (.int 0))) (aB (aR fK (bM dE (aB (aC 1) (aB (mC (.int 3)) aO))) (mC (.int 0))) aO))) (.nm 3))
 (aT (cN (bM Am (aB (aC 1) aO)) (.nm 4))
 (aT (cN (wR false (iX (mC (.int 6))) (.nm 18) fP (bM fY (aB (aC 1) aO)) [18]) (.nm 5))
 (aT (cN (bM dE (aB (aC 1) (aB (mC (.int 2)) aO))) (.nm 6))
 (aT (cN (dG false (aB (aR bR (aC 5) (mC (.int 0))) (aB (cC (aB (mC (.str "call")) (aB (mC (.int 0)) (aB (aR bR (aC 3) (mC (.int 0))) (aB (dG false (aB (dG false (aB (aR bR (aC 5) (mC (.int 1))) aO)) (aB (dG false (aB (aR bR (aC 5) (mC (.int 2))) aO)) aO))) aO))))) (aB (cC (aB (mC (.str "end")) (aB (aC 6) aO))) aO)))) (.nm 7))
 (aT (cN (dG false (aB (aR bR (aC 5) (mC (.int 3))) (aB (cC (aB (mC (.str "call")) (aB (mC (.int 0)) (aB (aR bR (aC 3) (mC (.int 1))) (aB (dG false (aB (dG false aO) (aB (dG false (aB (aR bR (aC 5) (mC (.int 4))) aO)) aO))) aO))))) (aB (aR bR (aC 5) (mC (.int 5))) aO)))) (.nm 8))
 (aT (cN (dG false (aB (dG false (aB (cC (aB (mC (.str "either")) (aB (dG false aO) (aB (dG false (aB (cC (aB (mC (.str "either")) (aB (aC 7) (aB (aC 8) aO)))) aO)) aO)))) aO)) aO)) (.nm 9))
 (aT (cN (aR D9 (mC (.int 90)) (aR nX (aC 2) (aR rO (m1 fF (aC 1)) (mC (.int 1))))) (.nm 10))
 (aT (cN (dG false aO) (.nm 11))
 (aT (tK (iX (aC 10)) (.nm 12) kZ)
 lD))))))))))))
def m_law_k23 : FD := BQ 19 1 rS
theorem Pi {x0 x1 x2 x3 : Vl} {S : aQ} : xR [x0, x1, x2, x3] S = Ax [some x0, some x1, some x2, some x3, none, none, none, none] S := (rfl)
theorem KE {x0 : Vl} {S : aQ} : m_law_k23 [x0] S = trunc S.length (cL (rS [some x0, none, none, none, none, none, none, none, none, none, none, none, none, none, none, none, none, none, none] S)) := (rfl)
end PH
namespace PHZ
open PH PySem PySem.Spec PyProof.Rows L2
theorem CK : FnScope ["value"] ["value"] (defScope rX) := ⟨rfl, rfl, rfl, by decide +kernel, rfl, by decide +kernel, by decide +kernel⟩
theorem JJ : FnScope ["value"] ["value"] (defScope BK) := ⟨rfl, rfl, rfl, by decide +kernel, rfl, by decide +kernel, by decide +kernel⟩
theorem JI : FnScope ["value", "number"] ["value"] (defScope xF) := ⟨rfl, rfl, rfl, by decide +kernel, rfl, by decide +kernel, by decide +kernel⟩
theorem CL : FnScope ["value", "many", "low", "high", "number"] ["value"] (defScope oP) := ⟨rfl, rfl, rfl, by decide +kernel, rfl, by decide +kernel, by decide +kernel⟩
theorem Ew : FnScope ["pen", "command", "x", "y", "u", "v", "p", "q", "word", "step"] ["pen", "command"] (defScope wB) := ⟨rfl, rfl, rfl, by decide +kernel, rfl, by decide +kernel, by decide +kernel⟩
theorem DY : FnScope ["statement", "word"] ["statement"] (defScope tT) := ⟨rfl, rfl, rfl, by decide +kernel, rfl, by decide +kernel, by decide +kernel⟩
theorem BE : FnScope ["statement", "blocks", "word"] ["statement", "blocks"] (defScope qO) := ⟨rfl, rfl, rfl, by decide +kernel, rfl, by decide +kernel, by decide +kernel⟩
theorem sZ : FnScope ["block", "statement"] ["block"] (defScope lM) := ⟨rfl, rfl, rfl, by decide +kernel, rfl, by decide +kernel, by decide +kernel⟩
theorem oL : FnScope ["statement", "block"] ["statement"] (defScope iB) := ⟨rfl, rfl, rfl, by decide +kernel, rfl, by decide +kernel, by decide +kernel⟩
theorem BF : FnScope ["value", "level", "many", "word"] ["value", "level", "many"] (defScope qP) := ⟨rfl, rfl, rfl, by decide +kernel, rfl, by decide +kernel, by decide +kernel⟩
theorem tS : FnScope ["block", "level", "many", "path", "met", "at", "statement", "here", "number", "inner", "fault"] ["block", "level", "many", "path", "met"] (defScope qR) := ⟨rfl, rfl, rfl, by decide +kernel, rfl, by decide +kernel, by decide +kernel⟩
theorem DZ : FnScope ["self", "bodies", "procedure", "body", "fault", "met"] ["self", "bodies"] (defScope lC) := ⟨rfl, rfl, rfl, by decide +kernel, rfl, by decide +kernel, by decide +kernel⟩
theorem F2 : FnScope ["self"] ["self"] (defScope pD) := ⟨rfl, rfl, rfl, by decide +kernel, rfl, by decide +kernel, by decide +kernel⟩
theorem BJ : FnScope ["self", "body"] ["self"] (defScope iR) := ⟨rfl, rfl, rfl, by decide +kernel, rfl, by decide +kernel, by decide +kernel⟩
theorem zI : FnScope ["book", "procedure"] ["book", "procedure"] (defScope nZ) := ⟨rfl, rfl, rfl, by decide +kernel, rfl, by decide +kernel, by decide +kernel⟩
theorem Eu : FnScope ["at"] [] (defScope rY) := ⟨rfl, rfl, rfl, by decide +kernel, rfl, by decide +kernel, by decide +kernel⟩
theorem DX : FnScope ["command", "origin", "columns", "at", "unit", "image", "k", "i", "j"] ["command"] (defScope lB) := ⟨rfl, rfl, rfl, by decide +kernel, rfl, by decide +kernel, by decide +kernel⟩
theorem Ex : FnScope ["one", "other", "result", "i", "row", "k", "factor", "a", "b"] ["one", "other"] (defScope rZ) := ⟨rfl, rfl, rfl, by decide +kernel, rfl, by decide +kernel, by decide +kernel⟩
theorem BI : FnScope ["matrix", "first", "middle", "number"] ["matrix"] (defScope mU) := ⟨rfl, rfl, rfl, by decide +kernel, rfl, by decide +kernel, by decide +kernel⟩
theorem xD : FnScope ["self", "bodies", "bits", "body"] ["self", "bodies", "bits"] (defScope fH) := ⟨rfl, rfl, rfl, by decide +kernel, rfl, by decide +kernel, by decide +kernel⟩
theorem xB : FnScope ["self"] ["self"] (defScope gX) := ⟨rfl, rfl, rfl, by decide +kernel, rfl, by decide +kernel, by decide +kernel⟩
theorem vZ : FnScope ["self", "procedure", "statement", "earlier"] ["self", "procedure", "statement"] (defScope gA) := ⟨rfl, rfl, rfl, by decide +kernel, rfl, by decide +kernel, by decide +kernel⟩
theorem vY : FnScope ["self", "procedure", "statement", "way"] ["self", "procedure", "statement", "way"] (defScope fZ) := ⟨rfl, rfl, rfl, by decide +kernel, rfl, by decide +kernel, by decide +kernel⟩
theorem vL : FnScope ["self", "way", "task"] ["self", "way"] (defScope fO) := ⟨rfl, rfl, rfl, by decide +kernel, rfl, by decide +kernel, by decide +kernel⟩
theorem wA : FnScope ["self", "statement", "word"] ["self", "statement"] (defScope gB) := ⟨rfl, rfl, rfl, by decide +kernel, rfl, by decide +kernel, by decide +kernel⟩
theorem xC : FnScope ["self", "task"] ["self"] (defScope gY) := ⟨rfl, rfl, rfl, by decide +kernel, rfl, by decide +kernel, by decide +kernel⟩
theorem AX : FnScope ["book", "procedure", "bits", "index", "bit", "execution"] ["book", "procedure", "bits"] (defScope pC) := ⟨rfl, rfl, rfl, by decide +kernel, rfl, by decide +kernel, by decide +kernel⟩
theorem BH : FnScope ["deeds", "pen", "pens", "held", "deed"] ["deeds", "pen"] (defScope qQ) := ⟨rfl, rfl, rfl, by decide +kernel, rfl, by decide +kernel, by decide +kernel⟩
theorem sc_ran : FnScope ["book", "procedure", "bits", "pen", "way", "deeds", "pens", "last"] ["book", "procedure", "bits", "pen"] (defScope Cg) := ⟨rfl, rfl, rfl, by decide +kernel, rfl, by decide +kernel, by decide +kernel⟩
theorem sc_trace : GScope ["book", "procedure", "bits", "pen", "way", "deeds", "pens", "last"] ["book", "procedure", "bits", "pen"] (defScope vC) := ⟨rfl, rfl, rfl, by decide +kernel, rfl, by decide +kernel, by decide +kernel⟩
theorem CJ : FnScope ["book", "procedure", "bits", "way", "deeds", "matrix", "held", "length", "deed"] ["book", "procedure", "bits"] (defScope rW) := ⟨rfl, rfl, rfl, by decide +kernel, rfl, by decide +kernel, by decide +kernel⟩
theorem JL : FnScope ["_law_script", "_law_cell"] ["_law_script"] (defScope xH) := ⟨rfl, rfl, rfl, by decide +kernel, rfl, by decide +kernel, by decide +kernel⟩
theorem JO : FnScope ["_law_pool_here", "_law_many", "_law_at", "_law_cell", "_law_number_here"] ["_law_pool_here", "_law_many"] (defScope BO) := ⟨rfl, rfl, rfl, by decide +kernel, rfl, by decide +kernel, by decide +kernel⟩
theorem Ey : FnScope ["_law_pool_here", "_law_small", "_law_at", "_law_number_here"] ["_law_pool_here"] (defScope wC) := ⟨rfl, rfl, rfl, by decide +kernel, rfl, by decide +kernel, by decide +kernel⟩
theorem Ko : FnScope ["_law_pool_here", "_law_begin", "_law_k"] ["_law_pool_here"] (defScope Ag) := ⟨rfl, rfl, rfl, by decide +kernel, rfl, by decide +kernel, by decide +kernel⟩
theorem JN : FnScope ["_law_begin", "_law_command", "_law_x", "_law_y", "_law_u", "_law_v", "_law_p", "_law_q", "_law_word", "_law_k", "_law_turned"] ["_law_begin", "_law_command"] (defScope BN) := ⟨rfl, rfl, rfl, by decide +kernel, rfl, by decide +kernel, by decide +kernel⟩
theorem sc_L_bit : FnScope ["_law_state", "_law_task_here", "_law_bits"] ["_law_state", "_law_task_here"] (defScope Ah) := ⟨rfl, rfl, rfl, by decide +kernel, rfl, by decide +kernel, by decide +kernel⟩
theorem sc_L_task : FnScope ["_law_state", "_law_task_here", "_law_word", "_law_bit_here", "_law_todo", "_law_at", "_law_waits"] ["_law_state", "_law_task_here"] (defScope rH) := ⟨rfl, rfl, rfl, by decide +kernel, rfl, by decide +kernel, by decide +kernel⟩
theorem sc_L_run : FnScope ["_law_bodies", "_law_procedure", "_law_bits", "_law_extra", "_law_state", "_law_turn", "_law_task_here", "_law_block"] ["_law_bodies", "_law_procedure", "_law_bits", "_law_extra"] (defScope Af) := ⟨rfl, rfl, rfl, by decide +kernel, rfl, by decide +kernel, by decide +kernel⟩
theorem JM : FnScope ["_law_deeds", "_law_begin", "_law_pens_here", "_law_held", "_law_deed"] ["_law_deeds", "_law_begin"] (defScope BM) := ⟨rfl, rfl, rfl, by decide +kernel, rfl, by decide +kernel, by decide +kernel⟩
theorem Gf : FnScope ["_law_deeds", "_law_origin", "_law_images", "_law_matrix", "_law_i", "_law_j", "_law_k"] ["_law_deeds"] (defScope vD) := ⟨rfl, rfl, rfl, by decide +kernel, rfl, by decide +kernel, by decide +kernel⟩
theorem zJ : FnScope ["_law_pool_here", "_law_kind"] ["_law_pool_here"] (defScope oA) := ⟨rfl, rfl, rfl, by decide +kernel, rfl, by decide +kernel, by decide +kernel⟩
theorem F0 : FnScope ["_law_statement", "_law_item"] ["_law_statement"] (defScope sC) := ⟨rfl, rfl, rfl, by decide +kernel, rfl, by decide +kernel, by decide +kernel⟩
theorem JK : FnScope ["_law_statement", "_law_blocks_here"] ["_law_statement", "_law_blocks_here"] (defScope BL) := ⟨rfl, rfl, rfl, by decide +kernel, rfl, by decide +kernel, by decide +kernel⟩
theorem Cf : FnScope ["_law_block", "_law_row", "_law_inner"] ["_law_block"] (defScope xI) := ⟨rfl, rfl, rfl, by decide +kernel, rfl, by decide +kernel, by decide +kernel⟩
theorem Ez : FnScope ["_law_bodies", "_law_body"] ["_law_bodies"] (defScope sA) := ⟨rfl, rfl, rfl, by decide +kernel, rfl, by decide +kernel, by decide +kernel⟩
theorem Ce : FnScope ["_law_one", "_law_other", "_law_k"] ["_law_one", "_law_other"] (defScope xG) := ⟨rfl, rfl, rfl, by decide +kernel, rfl, by decide +kernel, by decide +kernel⟩
theorem sc_law_k23 : FnScope ["_law_script", "_law_pool_here", "_law_factor", "_law_saved", "_law_begin", "_law_things", "_law_ended", "_law_one", "_law_other", "_law_bodies", "_law_depth", "_law_bits", "_law_step", "_law_found", "_law_book", "_law_pens_here", "_law_passed", "_law_traced", "_law_k"] ["_law_script"] (defScope rG) := ⟨rfl, rfl, rfl, by decide +kernel, rfl, by decide +kernel, by decide +kernel⟩
theorem Ge : FnScope ["self", "procedure", "path"] ["self", "procedure", "path"] (defScope rF) := ⟨rfl, rfl, rfl, by decide +kernel, rfl, by decide +kernel, by decide +kernel⟩
theorem JH : FnScope ["self", "index"] ["self", "index"] (defScope tR) := ⟨rfl, rfl, rfl, by decide +kernel, rfl, by decide +kernel, by decide +kernel⟩
structure Txt (w : World) (K : aD) (mg : Str -> Option Value) : Prop where
 n_isinstance : mg "isinstance" = none
 n_int : mg "int" = none
 n_bool : mg "bool" = none
 n_tuple : mg "tuple" = none
 n_len : mg "len" = none
 n_all : mg "all" = none
 n_str : mg "str" = none
 lim : Lim K
 k_LIMITS : ∃ es n, KDict K w (He.ga K "LIMITS") es n
 g_LIMITS : mg "LIMITS" = some (.ref (He.ga K "LIMITS"))
 n_range : mg "range" = none
 i_DEEPEST : ∃ t, mg "DEEPEST" = some (.int 3 t)
 n_list : mg "list" = none
 n_enumerate : mg "enumerate" = none
 i_MOST_IN_LIST : ∃ t, mg "MOST_IN_LIST" = some (.int 8 t)
 i_MOST_IN_PROCEDURE : ∃ t, mg "MOST_IN_PROCEDURE" = some (.int 12 t)
 i_MOST_PROCEDURES : ∃ t, mg "MOST_PROCEDURES" = some (.int 3 t)
 xa_NoBook : XaF K mg "NoBook" ["procedure", "path"]
 fx_NoBook : GW K "NoBook" "__init__" "NoBook.__init__" rF
 c_Book : Cls K (He.ga K "Book")
 a_Book_own : NoAttr K (He.ga K "Book") "own"
 x_NoCommand : XcF K mg "NoCommand"
 n_zip : mg "zip" = none
 c_Execution : Cls K (He.ga K "Execution")
 a_Execution_own : NoAttr K (He.ga K "Execution") "own"
 a_Execution_bits : NoAttr K (He.ga K "Execution") "bits"
 a_Execution_taken : NoAttr K (He.ga K "Execution") "taken"
 a_Execution_deeds : NoAttr K (He.ga K "Execution") "deeds"
 a_Execution_stack : NoAttr K (He.ga K "Execution") "stack"
 a_Execution_active : NoAttr K (He.ga K "Execution") "active"
 a_Execution_ended : NoAttr K (He.ga K "Execution") "ended"
 xa_NoRun : XaF K mg "NoRun" ["index"]
 fx_NoRun : GW K "NoRun" "__init__" "NoRun.__init__" tR
 x_NoProcedure : XcF K mg "NoProcedure"
 T_Execution : ClF K mg "Execution"
 x_NoPen : XcF K mg "NoPen"
 n_min : mg "min" = none
 T_Book : ClF K mg "Book"
 G_is_integer : mg "is_integer" = some (.ref (He.ga K "is_integer"))
 f_is_integer : rB K "is_integer" rX
 G_is_bit : mg "is_bit" = some (.ref (He.ga K "is_bit"))
 f_is_bit : rB K "is_bit" BK
 G_is_pen : mg "is_pen" = some (.ref (He.ga K "is_pen"))
 f_is_pen : rB K "is_pen" xF
 G_is_command : mg "is_command" = some (.ref (He.ga K "is_command"))
 f_is_command : rB K "is_command" oP
 G_executed : mg "executed" = some (.ref (He.ga K "executed"))
 f_executed : rB K "executed" wB
 G_blocks_of : mg "blocks_of" = some (.ref (He.ga K "blocks_of"))
 f_blocks_of : rB K "blocks_of" tT
 G_with_blocks : mg "with_blocks" = some (.ref (He.ga K "with_blocks"))
 f_with_blocks : rB K "with_blocks" qO
 G_copied_block : mg "copied_block" = some (.ref (He.ga K "copied_block"))
 f_copied_block : rB K "copied_block" lM
 G_copied_statement : mg "copied_statement" = some (.ref (He.ga K "copied_statement"))
 f_copied_statement : rB K "copied_statement" iB
 G_well_formed : mg "well_formed" = some (.ref (He.ga K "well_formed"))
 f_well_formed : rB K "well_formed" qP
 G_first_fault : mg "first_fault" = some (.ref (He.ga K "first_fault"))
 f_first_fault : rB K "first_fault" qR
 M_Book_init : Meth K (He.ga K "Book") "__init__" (He.ma K (He.ga K "Book") "__init__")
 f_Book_init : GW K "Book" "__init__" "Book.__init__" lC
 M_Book_len : Meth K (He.ga K "Book") "__len__" (He.ma K (He.ga K "Book") "__len__")
 f_Book_len : GW K "Book" "__len__" "Book.__len__" pD
 M_Book_bodies : Meth K (He.ga K "Book") "bodies" (He.ma K (He.ga K "Book") "bodies")
 f_Book_bodies : GW K "Book" "bodies" "Book.bodies" iR
 G_has_procedure : mg "has_procedure" = some (.ref (He.ga K "has_procedure"))
 f_has_procedure : rB K "has_procedure" nZ
 G_identity : mg "identity" = some (.ref (He.ga K "identity"))
 f_identity : rB K "identity" rY
 G_matrix_of : mg "matrix_of" = some (.ref (He.ga K "matrix_of"))
 f_matrix_of : rB K "matrix_of" lB
 G_composed : mg "composed" = some (.ref (He.ga K "composed"))
 f_composed : rB K "composed" rZ
 G_kept_matrix : mg "kept_matrix" = some (.ref (He.ga K "kept_matrix"))
 f_kept_matrix : rB K "kept_matrix" mU
 M_Execution_init : Meth K (He.ga K "Execution") "__init__" (He.ma K (He.ga K "Execution") "__init__")
 f_Execution_init : GW K "Execution" "__init__" "Execution.__init__" fH
 M_Execution_take : Meth K (He.ga K "Execution") "take" (He.ma K (He.ga K "Execution") "take")
 f_Execution_take : GW K "Execution" "take" "Execution.take" gX
 M_Execution_enter : Meth K (He.ga K "Execution") "enter" (He.ma K (He.ga K "Execution") "enter")
 f_Execution_enter : GW K "Execution" "enter" "Execution.enter" gA
 M_Execution_leave : Meth K (He.ga K "Execution") "leave" (He.ma K (He.ga K "Execution") "leave")
 f_Execution_leave : GW K "Execution" "leave" "Execution.leave" fZ
 M_Execution_unwind : Meth K (He.ga K "Execution") "unwind" (He.ma K (He.ga K "Execution") "unwind")
 f_Execution_unwind : GW K "Execution" "unwind" "Execution.unwind" fO
 M_Execution_begin : Meth K (He.ga K "Execution") "begin" (He.ma K (He.ga K "Execution") "begin")
 f_Execution_begin : GW K "Execution" "begin" "Execution.begin" gB
 M_Execution_step : Meth K (He.ga K "Execution") "step" (He.ma K (He.ga K "Execution") "step")
 f_Execution_step : GW K "Execution" "step" "Execution.step" gY
 G_executed_run : mg "executed_run" = some (.ref (He.ga K "executed_run"))
 f_executed_run : rB K "executed_run" pC
 G_pens_behind : mg "pens_behind" = some (.ref (He.ga K "pens_behind"))
 f_pens_behind : rB K "pens_behind" qQ
 G_ran : mg "ran" = some (.ref (He.ga K "ran"))
 f_ran : FnK K "ran" Cg "pen" (.ref (He.ga K "HOME"))
 G_trace : mg "trace" = some (.ref (He.ga K "trace"))
 f_trace : FnK K "trace" vC "pen" (.ref (He.ga K "HOME"))
 G_run_matrix : mg "run_matrix" = some (.ref (He.ga K "run_matrix"))
 f_run_matrix : rB K "run_matrix" rW
 G_L_pool : mg "_law_pool" = some (.ref (He.ga K "_law_pool"))
 f_L_pool : rB K "_law_pool" xH
 G_L_draw : mg "_law_draw" = some (.ref (He.ga K "_law_draw"))
 f_L_draw : rB K "_law_draw" BO
 G_L_number : mg "_law_number" = some (.ref (He.ga K "_law_number"))
 f_L_number : rB K "_law_number" wC
 G_L_pen : mg "_law_pen" = some (.ref (He.ga K "_law_pen"))
 f_L_pen : rB K "_law_pen" Ag
 G_L_move : mg "_law_move" = some (.ref (He.ga K "_law_move"))
 f_L_move : rB K "_law_move" BN
 G_L_bit : mg "_law_bit" = some (.ref (He.ga K "_law_bit"))
 f_L_bit : rB K "_law_bit" Ah
 G_L_task : mg "_law_task" = some (.ref (He.ga K "_law_task"))
 f_L_task : rB K "_law_task" rH
 G_L_run : mg "_law_run" = some (.ref (He.ga K "_law_run"))
 f_L_run : rB K "_law_run" Af
 G_L_pens : mg "_law_pens" = some (.ref (He.ga K "_law_pens"))
 f_L_pens : rB K "_law_pens" BM
 G_L_probe : mg "_law_probe" = some (.ref (He.ga K "_law_probe"))
 f_L_probe : rB K "_law_probe" vD
 G_L_any_command : mg "_law_any_command" = some (.ref (He.ga K "_law_any_command"))
 f_L_any_command : rB K "_law_any_command" oA
 G_L_blocks : mg "_law_blocks" = some (.ref (He.ga K "_law_blocks"))
 f_L_blocks : rB K "_law_blocks" sC
 G_L_with : mg "_law_with" = some (.ref (He.ga K "_law_with"))
 f_L_with : rB K "_law_with" BL
 G_L_copy : mg "_law_copy" = some (.ref (He.ga K "_law_copy"))
 f_L_copy : rB K "_law_copy" xI
 G_L_copies : mg "_law_copies" = some (.ref (He.ga K "_law_copies"))
 f_L_copies : rB K "_law_copies" sA
 G_L_same : mg "_law_same" = some (.ref (He.ga K "_law_same"))
 f_L_same : rB K "_law_same" xG
 G_law_k23 : mg "law" = some (.ref (He.ga K "law"))
 f_law_k23 : rB K "law" rG
section
variable {P : Program} {w : World} {K : aD} {mg : Str -> Option Value} {base : Heap}
theorem xa_NoBook (T : Txt w K mg) : XcA P w K mg base 1 "NoBook" ["self", "procedure", "path"] (QY (He.ga K "NoBook") "procedure" "path") :=
 LH (m := "__init__") T.xa_NoBook T.fx_NoBook Ge Kf (fun _ _ _ _ _ _ us hl => match us, hl with | [_, _, _], _ => rfl) fun cdv A outer s H vs Q E hr hsp => by
  obtain ⟨a, y, z, e, ha, h⟩ := hsp;subst e;exact ⟨_, (pss_cons (ps_ost (cv 0) (cv 1)) (pss_one (ps_ost (cv 0) (cv 2)))), rd_X2 T.xa_NoBook (by simp) (by simp) ha (fun _ _ => rfl) h⟩
theorem xa_NoRun (T : Txt w K mg) : XcA P w K mg base 1 "NoRun" ["self", "index"] (QZ (He.ga K "NoRun") "index") :=
 LH (m := "__init__") T.xa_NoRun T.fx_NoRun JH Kg (fun _ _ _ _ _ _ us hl => match us, hl with | [_, _], _ => rfl) fun cdv A outer s H vs Q E hr hsp => by
  obtain ⟨a, y, e, ha, h⟩ := hsp;subst e;exact ⟨_, (pss_one (ps_ost (cv 0) (cv 1))), rd_X1 T.xa_NoRun (by simp) ha (fun _ _ => rfl) h⟩
theorem kF (T : Txt w K mg) : sX P w K mg base 1 "is_integer" ["value"] (spF K eY) :=
 kG (k := 0) T.f_is_integer T.G_is_integer CK (Runs.plain (n := 1) (np := 1)) (fun _ _ _ _ _ _ us hl => match us, hl with | [_], _ => rfl) fun _ _ _ _ _ _ hr tk nd => by
  unfold oY;exact (aI (aU (kX (hY (T := "int") T.n_isinstance T.n_int (fv 0)) (pe_one (SL (hY (T := "bool") T.n_isinstance T.n_bool (fv 0)))))))
theorem Co (T : Txt w K mg) : sX P w K mg base 2 "is_bit" ["value"] (spF K uE) :=
 kG (k := 1) T.f_is_bit T.G_is_bit JJ (Runs.plain (n := 1) (np := 1)) (fun _ _ _ _ _ _ us hl => match us, hl with | [_], _ => rfl) fun _ _ _ _ _ _ hr tk nd => by
  unfold yP;exact (aI (aU (kX (bJ (kF T) hr tk (aA (fv 0) aH)) (pe_one (E8 tX F3 tX F3 fI (fv 0) fI)))))
theorem Cn (T : Txt w K mg) : sX P w K mg base 2 "is_pen" ["value"] (spF K uD) :=
 kG (k := 1) T.f_is_pen T.G_is_pen JI (Runs.plain (n := 2) (np := 1)) (fun _ _ _ _ _ _ us hl => match us, hl with | [_], _ => rfl) fun _ _ _ _ _ _ hr tk nd => by
  unfold yO;exact (aI (aU (kX (hY (T := "tuple") T.n_isinstance T.n_tuple (fv 0)) (kX (pS (bA hr.units) s_eq (fG T.n_len (fv 0)) fI) (pe_one (Mi T.n_all (tL (own := [("number", 1)]) (t := (.nm 1)) rfl nd (iS (fv 0)) (blkOk_by (own := [("number", 1)]) (N := ["value", "number"]) (sc := defScope xF) (by decide +kernel)) (fun _ _ _ _ _ => (pg_name (i := 1) nd rfl (.inl rfl))) (fun _ _ _ _ _ => dO) (fun _ _ _ _ _ => (bJ (kF T) hr takes0 (aA (fv 1) aH))))))))))
theorem qT (T : Txt w K mg) : sX P w K mg base 2 "is_command" ["value"] (spF K gE) :=
 kG (k := 1) T.f_is_command T.G_is_command CL (Runs.plain (n := 5) (np := 1)) (fun _ _ _ _ _ _ us hl => match us, hl with | [_], _ => rfl) fun _ _ _ _ _ _ hr tk nd => by
  unfold jR mE;exact (aF (bE (PW.pt (nV (hJ (eV (hY (T := "tuple") T.n_isinstance T.n_tuple (fv 0)))) (pw_or1 (aW (bA hr.units) s_eq (fG T.n_len (fv 0)) fI)))) (aI (aU fB)) aS)
  (aF (bE (PW.pt (nV (hJ (eV (hY (T := "str") T.n_isinstance T.n_str (bD (fv 0) fI)))) (pw_or1 (Jw T.lim T.k_LIMITS T.g_LIMITS (bD (fv 0) fI))))) (aI (aU fB)) aS)
  (aF (qX (t := (.tp [1, 2, 3])) (f_lim T.lim T.k_LIMITS T.g_LIMITS (bD (fv 0) fI)) (pg_tup rfl (pgs_cons (pg_name (i := 1) nd rfl (.inl rfl)) (pgs_cons (pg_name (i := 2) nd rfl (.inr rfl)) (pgs_cons (pg_name (i := 3) nd rfl (.inr rfl)) pgs_nil)))))
  (aF (bE (aW (qS hr.units) CM (fG T.n_len (fv 0)) (cQ cG dP (fv 1) fI)) (aI (aU fB)) aS)
  (aI (aU (Mi T.n_all (tL (own := [("number", 4)]) (t := (.nm 4)) rfl nd (iS (uN (fv 0) (fD fI) iJ)) (blkOk_by (own := [("number", 4)]) (N := ["value", "many", "low", "high", "number"]) (sc := defScope oP) (by decide +kernel)) (fun _ _ _ _ _ => (pg_name (i := 4) nd rfl (.inl rfl))) (fun _ _ _ _ _ => dO) (fun _ _ _ _ _ => (kX (bJ (kF T) hr takes0 (aA (fv 4) aH)) (pe_one (E8 tX F3 tX F3 (fv 2) (fv 4) (fv 3)))))))))))))
theorem uB (T : Txt w K mg) : sX P w K mg base 1 "executed" ["pen", "command"] (spF K mQ) :=
 kG (k := 0) T.f_executed T.G_executed Ew (Runs.plain (n := 10) (np := 2)) (fun _ _ _ _ _ _ us hl => match us, hl with | [_, _], _ => rfl) fun _ _ _ _ _ _ hr tk nd => by
  unfold sR lK;exact (aF (qX (t := (.tp [2, 3, 4, 5, 6, 7])) (fv 0) (pg_tup rfl (pgs_cons (pg_name (i := 2) nd rfl (.inl rfl)) (pgs_cons (pg_name (i := 3) nd rfl (.inl rfl)) (pgs_cons (pg_name (i := 4) nd rfl (.inl rfl)) (pgs_cons (pg_name (i := 5) nd rfl (.inl rfl)) (pgs_cons (pg_name (i := 6) nd rfl (.inl rfl)) (pgs_cons (pg_name (i := 7) nd rfl (.inl rfl)) pgs_nil))))))))
  (aF (bG (i := 8) nd rfl (.inl rfl) (bD (fv 1) fI))
  (aF (bE (aW (bA hr.units) s_eq (fv 8) fS) (aI (aU (bP (aA (cQ cG dP (fv 2) (cQ eQ lA (bD (fv 1) fI) (fv 4))) (aA (cQ cG dP (fv 3) (cQ eQ lA (bD (fv 1) fI) (fv 5))) (aA (fv 4) (aA (fv 5) (aA (fv 6) (aA (fv 7) aH))))))))) aS)
  (aF (bE (aW (bA hr.units) s_eq (fv 8) fS) (aF (kW (t := (.nm 9)) (passes_of rfl) rfl (fU (by rfl) T.n_range (bD (fv 1) fI)) (pg_name (i := 9) nd rfl (.inl rfl)) (fQ [9] (aI (SH (i := 4) (j := 5) (by rfl) nd rfl rfl (by decide) rfl rfl (tE (fv 5)) (fv 4) (by rfl)))))
  (aI (aU (bP (aA (fv 2) (aA (fv 3) (aA (fv 4) (aA (fv 5) (aA (fv 6) (aA (fv 7) aH)))))))))) aS)
  (aF (bE (aW (bA hr.units) s_eq (fv 8) fS) (aI (aU (bP (aA (fv 2) (aA (fv 3) (aA (fv 4) (aA (tE (fv 5)) (aA (fv 6) (aA (fv 7) aH))))))))) aS)
  (aF (bE (aW (bA hr.units) s_eq (fv 8) fS) (aI (aU (bP (aA (fv 2) (aA (fv 3) (aA (cQ eQ lA (bD (fv 1) fI) (fv 4)) (aA (cQ eQ lA (bD (fv 1) fI) (fv 5)) (aA (fv 6) (aA (fv 7) aH))))))))) aS)
  (aF (bE (aW (bA hr.units) s_eq (fv 8) fS) (aI (aU (bP (aA (fv 2) (aA (fv 3) (aA (bD (fv 1) fI) (aA (bD (fv 1) fI) (aA (fv 6) (aA (fv 7) aH))))))))) aS)
  (aF (bE (aW (bA hr.units) s_eq (fv 8) fS) (aI (aU (bP (aA (bD (fv 1) fI) (aA (bD (fv 1) fI) (aA (fv 4) (aA (fv 5) (aA (fv 6) (aA (fv 7) aH))))))))) aS)
  (aF (bE (aW (bA hr.units) s_eq (fv 8) fS) (aI (aU (bP (aA (fv 2) (aA (fv 3) (aA (fv 4) (aA (fv 5) (aA (fv 2) (aA (fv 3) aH))))))))) aS)
  (aF (bE (aW (bA hr.units) s_eq (fv 8) fS) (aI (aU (bP (aA (fv 6) (aA (fv 7) (aA (fv 4) (aA (fv 5) (aA (fv 6) (aA (fv 7) aH))))))))) aS)
  (aI (aU (bP (aA (fv 6) (aA (fv 7) (aA (fv 4) (aA (fv 5) (aA (fv 2) (aA (fv 3) aH)))))))))))))))))))
theorem xM (T : Txt w K mg) : sX P w K mg base 1 "blocks_of" ["statement"] (spF K lE) :=
 kG (k := 0) T.f_blocks_of T.G_blocks_of DY (Runs.plain (n := 2) (np := 1)) (fun _ _ _ _ _ _ us hl => match us, hl with | [_], _ => rfl) fun _ _ _ _ _ _ hr tk nd => by
  unfold qK;exact (aF (bG (i := 1) nd rfl (.inl rfl) (bD (fv 0) fI))
  (aF (bE (PW.pt (nV (aW (bA hr.units) s_eq (fv 1) fS) (pw_or1 (aW (bA hr.units) s_eq (fv 1) fS)))) (aI (aU (cU (aA (bD (fv 0) fI) aH)))) aS)
  (aF (bE (aW (bA hr.units) s_eq (fv 1) fS) (aI (aU (cU (aA (bD (fv 0) fI) (aA (bD (fv 0) fI) aH))))) aS)
  (aF (bE (aW (bA hr.units) s_eq (fv 1) fS) (aI (aU (bD (fv 0) fI))) aS)
  (aI (aU (cU aH)))))))
theorem BV (T : Txt w K mg) : sX P w K mg base 1 "with_blocks" ["statement", "blocks"] (spF K mW) :=
 kG (k := 0) T.f_with_blocks T.G_with_blocks BE (Runs.plain (n := 3) (np := 2)) (fun _ _ _ _ _ _ us hl => match us, hl with | [_, _], _ => rfl) fun _ _ _ _ _ _ hr tk nd => by
  unfold nD;exact (aF (bG (i := 2) nd rfl (.inl rfl) (bD (fv 0) fI))
  (aF (bE (PW.pt (nV (aW (bA hr.units) s_eq (fv 2) fS) (pw_or1 (aW (bA hr.units) s_eq (fv 2) fS)))) (aI (aU (bP (aA (fv 2) (aA (bD (fv 1) fI) aH))))) aS)
  (aF (bE (aW (bA hr.units) s_eq (fv 2) fS) (aI (aU (bP (aA (fv 2) (aA (bD (fv 1) fI) (aA (bD (fv 1) fI) aH)))))) aS)
  (aF (bE (aW (bA hr.units) s_eq (fv 2) fS) (aI (aU (bP (aA (fv 2) (aA (bD (fv 0) fI) (aA (bD (fv 0) fI) (aA (fv 1) aH))))))) aS)
  (aI (aU (fv 0)))))))
theorem nO (T : Txt w K mg) : ∀ n, (sX P w K mg base (1 + n + 1) "copied_statement" ["statement"] (spF K (iC n))) /\ (sX P w K mg base (1 + n + 1) "copied_block" ["block"] (spF K (eN n)))
 | 0 => ⟨xP T.f_copied_statement T.G_copied_statement oL (fun _ _ _ _ _ _ us hl => match us, hl with | [_], _ => rfl), xP T.f_copied_block T.G_copied_block sZ (fun _ _ _ _ _ _ us hl => match us, hl with | [_], _ => rfl)⟩
 | n + 1 => by
  have ih := nO T n;have ih_copied_statement := ih.1;have ih_copied_block := ih.2;refine ⟨?_, ?_⟩
  ·exact kG (k := 1 + n + 1) T.f_copied_statement T.G_copied_statement oL (Runs.plain (n := 2) (np := 1)) (fun _ _ _ _ _ _ us hl => match us, hl with | [_], _ => rfl) fun _ _ _ _ _ _ hr tk nd => by
    unfold iK;exact (aI (aU (bJ (BV T) hr tk (aA (fv 0) (aA (tL (own := [("block", 1)]) (t := (.nm 1)) rfl nd (iS (bJ (xM T) hr tk (aA (fv 0) aH) (by omega))) (blkOk_by (own := [("block", 1)]) (N := ["statement", "block"]) (sc := defScope iB) (by decide +kernel)) (fun _ _ _ _ _ => (pg_name (i := 1) nd rfl (.inl rfl))) (fun _ _ _ _ _ => dO) (fun _ _ _ _ _ => (bJ ih_copied_block hr takes0 (aA (fv 1) aH) (by omega)))) aH)) (by omega))))
  ·exact kG (k := 1 + n + 1) T.f_copied_block T.G_copied_block sZ (Runs.plain (n := 2) (np := 1)) (fun _ _ _ _ _ _ us hl => match us, hl with | [_], _ => rfl) fun _ _ _ _ _ _ hr tk nd => by
    unfold mG;exact (aI (aU (tL (own := [("statement", 1)]) (t := (.nm 1)) rfl nd (iS (fv 0)) (blkOk_by (own := [("statement", 1)]) (N := ["block", "statement"]) (sc := defScope lM) (by decide +kernel)) (fun _ _ _ _ _ => (pg_name (i := 1) nd rfl (.inl rfl))) (fun _ _ _ _ _ => dO) (fun _ _ _ _ _ => (bJ ih_copied_statement hr takes0 (aA (fv 1) aH) (by omega))))))
theorem tA (T : Txt w K mg) (n : Nat) : sX P w K mg base (1 + n + 1) "copied_block" ["block"] (spF K (eN n)) := (nO T n).2
theorem BW (T : Txt w K mg) : sX P w K mg base 3 "well_formed" ["value", "level", "many"] (spF K kH) :=
 kG (k := 2) T.f_well_formed T.G_well_formed BF (Runs.plain (n := 4) (np := 3)) (fun _ _ _ _ _ _ us hl => match us, hl with | [_, _, _], _ => rfl) fun _ _ _ _ _ _ hr tk nd => by
  unfold nE;exact (aF (bE (eV (bJ (qT T) hr tk (aA (fv 0) aH))) (aI (aU fB)) aS)
  (aF (bE (PW.pt (nV (hJ (eV (hY (T := "tuple") T.n_isinstance T.n_tuple (fv 0)))) (nV (aW wD Gg (fG T.n_len (fv 0)) fI) (pw_or1 (hJ (eV (hY (T := "str") T.n_isinstance T.n_str (bD (fv 0) fI)))))))) (aI (aU fB)) aS)
  (aF (bG (i := 3) nd rfl (.inl rfl) (bD (fv 0) fI))
  (aF (bE (aW (bA hr.units) s_eq (fv 3) fS) (aI (aU (kX (pS (bA hr.units) s_eq (fG T.n_len (fv 0)) fI) (pe_one (bJ (Co T) hr tk (aA (bD (fv 0) fI) aH)))))) aS)
  (aF (bE (aW (bA hr.units) s_eq (fv 1) (E6 T.i_DEEPEST)) (aI (aU fB)) aS)
  (aF (bE (PW.pt (nV (aW (bA hr.units) s_eq (fv 3) fS) (pw_or1 (aW (bA hr.units) s_eq (fv 3) fS)))) (aI (aU (kX (pS (bA hr.units) s_eq (fG T.n_len (fv 0)) fI) (pe_one (hY (T := "list") T.n_isinstance T.n_list (bD (fv 0) fI)))))) aS)
  (aF (bE (aW (bA hr.units) s_eq (fv 3) fS) (aI (aU (kX (pS (bA hr.units) s_eq (fG T.n_len (fv 0)) fI) (kX (hY (T := "list") T.n_isinstance T.n_list (bD (fv 0) fI)) (pe_one (hY (T := "list") T.n_isinstance T.n_list (bD (fv 0) fI))))))) aS)
  (aF (bE (PW.pt (nV (aW (qS hr.units) CM (fv 3) fS) (pw_or1 (aW (qS hr.units) CM (fG T.n_len (fv 0)) fI)))) (aI (aU fB)) aS)
  (aF (bE (PW.pt (nV (hJ (eV (bJ (kF T) hr tk (aA (bD (fv 0) fI) aH)))) (pw_or1 (hJ (Fv tX F3 wD Gg fI (bD (fv 0) fI) (fv 2)))))) (aI (aU fB)) aS)
  (aF (bE (PW.pt (nV (hJ (eV (hY (T := "bool") T.n_isinstance T.n_bool (bD (fv 0) fI)))) (nV (hJ (eV (hY (T := "list") T.n_isinstance T.n_list (bD (fv 0) fI)))) (pw_or1 (aW (qS hr.units) CM (fG T.n_len (bD (fv 0) fI)) fI))))) (aI (aU fB)) aS)
  (aI (aU (kX (hY (T := "list") T.n_isinstance T.n_list (bD (bD (fv 0) fI) fI)) (pe_one (hY (T := "list") T.n_isinstance T.n_list (bD (bD (fv 0) fI) fI))))))))))))))))
theorem uA (T : Txt w K mg) : ∀ n, sX P w K mg base (3 + n + 1) "first_fault" ["block", "level", "many", "path", "met"] (spF K (dA n))
 | 0 => xP T.f_first_fault T.G_first_fault tS (fun _ _ _ _ _ _ us hl => match us, hl with | [_, _, _, _, _], _ => rfl)
 | n + 1 => by
  have ih_first_fault := uA T n;exact kG (k := 3 + n + 1) T.f_first_fault T.G_first_fault tS (Runs.plain (n := 11) (np := 5)) (fun _ _ _ _ _ _ us hl => match us, hl with | [_, _, _, _, _], _ => rfl) fun _ _ _ _ _ _ hr tk nd => by
   unfold nH kN fX;exact (aF (kW (t := (.tp [5, 6])) (passes_of rfl) rfl (As (by rfl) T.n_enumerate (fv 0)) (pg_tup rfl (pgs_cons (pg_name (i := 5) nd rfl (.inl rfl)) (pgs_cons (pg_name (i := 6) nd rfl (.inl rfl)) pgs_nil))) (fQ [5, 6, 7, 8, 9, 10] (aF (bG (i := 7) nd rfl (.inl rfl) (cQ cG dP (fv 3) (bP (aA (fv 5) aH))))
  (aF (bE (PW.pt (nV (aW (bA hr.units) s_eq (fv 5) (E6 T.i_MOST_IN_LIST)) (nV (aW (bA hr.units) s_eq (fv 4) (E6 T.i_MOST_IN_PROCEDURE)) (pw_or1 (hJ (eV (bJ (BW T) hr tk (aA (fv 6) (aA (fv 1) (aA (fv 2) aH))) (by omega)))))))) (aI (aU (bP (aA (fv 7) (aA (fv 4) aH))))) aS)
  (aF (D8 (k := 4) nd rfl (.inl rfl) fI)
  (aI (kW (t := (.tp [8, 9])) (passes_of rfl) rfl (As (by rfl) T.n_enumerate (bJ (xM T) hr tk (aA (fv 6) aH) (by omega))) (pg_tup rfl (pgs_cons (pg_name (i := 8) nd rfl (.inl rfl)) (pgs_cons (pg_name (i := 9) nd rfl (.inl rfl)) pgs_nil))) (fQ [8, 9, 10] (aF (qX (t := (.tp [10, 4])) (bJ ih_first_fault hr tk (aA (fv 9) (aA (cQ cG dP (fv 1) fI) (aA (fv 2) (aA (cQ cG dP (fv 7) (bP (aA (fv 8) aH))) (aA (fv 4) aH))))) (by omega)) (pg_tup rfl (pgs_cons (pg_name (i := 10) nd rfl (.inl rfl)) (pgs_cons (pg_name (i := 4) nd rfl (.inl rfl)) pgs_nil))))
  (aI (bE (aW FG Kq (fv 10) fN) (aI (aU (bP (aA (fv 10) (aA (fv 4) aH))))) aS)))))))))))
  (aI (aU (bP (aA fN (aA (fv 4) aH))))))
theorem Dk (T : Txt w K mg) : OkMX P w K mg base 23 "Book" "__init__" ["self", "bodies"] (spF K jF) :=
 vP (k := 22) T.f_Book_init T.M_Book_init DZ (Runs.plain (n := 6) (np := 2)) (fun _ _ _ _ _ _ us hl => match us, hl with | [_, _], _ => rfl) fun _ _ _ _ _ _ hr tk nd => by
  unfold qL dU;exact (aF (bE (PW.pt (nV (hJ (eV (hY (T := "list") T.n_isinstance T.n_list (fv 1)))) (pw_or1 (hJ (Fv tX F3 tX F3 fI (fG T.n_len (fv 1)) (E6 T.i_MOST_PROCEDURES)))))) (aI (zY (xa_NoBook T) hr tk (aA (tE fI) (aA (bP aH) aH)))) aS)
  (aF (kW (t := (.tp [2, 3])) (passes_of rfl) rfl (As (by rfl) T.n_enumerate (fv 1)) (pg_tup rfl (pgs_cons (pg_name (i := 2) nd rfl (.inl rfl)) (pgs_cons (pg_name (i := 3) nd rfl (.inl rfl)) pgs_nil))) (fQ [2, 3, 4, 5] (aF (bE (hJ (eV (hY (T := "list") T.n_isinstance T.n_list (fv 3)))) (aI (zY (xa_NoBook T) hr tk (aA (fv 2) (aA (bP aH) aH)))) aS)
  (aF (qX (t := (.tp [4, 5])) (bJ (uA T 10) hr tk (aA (fv 3) (aA fI (aA (fG T.n_len (fv 1)) (aA (bP aH) (aA fI aH)))))) (pg_tup rfl (pgs_cons (pg_name (i := 4) nd rfl (.inl rfl)) (pgs_cons (pg_name (i := 5) nd rfl (.inl rfl)) pgs_nil))))
  (aI (bE (aW FG Kq (fv 4) fN) (aI (zY (xa_NoBook T) hr tk (aA (fv 2) (aA (fv 4) aH)))) aS))))))
  (aI (oV T.c_Book T.a_Book_own (fv 0) (tL (own := [("body", 3)]) (t := (.nm 3)) rfl nd (iS (fv 1)) (blkOk_by (own := [("body", 3)]) (N := ["self", "bodies", "procedure", "body", "fault", "met"]) (sc := defScope lC) (by decide +kernel)) (fun _ _ _ _ _ => (pg_name (i := 3) nd rfl (.inl rfl))) (fun _ _ _ _ _ => dO) (fun _ _ _ _ _ => (bJ (tA T 20) hr takes0 (aA (fv 3) aH))))))))
theorem FL (T : Txt w K mg) : OkMX P w K mg base 1 "Book" "__len__" ["self"] (spF K pJ) :=
 vP (k := 0) T.f_Book_len T.M_Book_len F2 (Runs.plain (n := 1) (np := 1)) (fun _ _ _ _ _ _ us hl => match us, hl with | [_], _ => rfl) fun _ _ _ _ _ _ hr tk nd => by
  unfold sW;exact (aI (aU (fG T.n_len (eG T.c_Book T.a_Book_own (fv 0)))))
theorem BY (T : Txt w K mg) : OkMX P w K mg base 23 "Book" "bodies" ["self"] (spF K mY) :=
 vP (k := 22) T.f_Book_bodies T.M_Book_bodies BJ (Runs.plain (n := 2) (np := 1)) (fun _ _ _ _ _ _ us hl => match us, hl with | [_], _ => rfl) fun _ _ _ _ _ _ hr tk nd => by
  unfold nI;exact (aI (aU (tL (own := [("body", 1)]) (t := (.nm 1)) rfl nd (iS (eG T.c_Book T.a_Book_own (fv 0))) (blkOk_by (own := [("body", 1)]) (N := ["self", "body"]) (sc := defScope iR) (by decide +kernel)) (fun _ _ _ _ _ => (pg_name (i := 1) nd rfl (.inl rfl))) (fun _ _ _ _ _ => dO) (fun _ _ _ _ _ => (bJ (tA T 20) hr takes0 (aA (fv 1) aH))))))
theorem zK (T : Txt w K mg) : sX P w K mg base 3 "has_procedure" ["book", "procedure"] (spF K kP) :=
 kG (k := 2) T.f_has_procedure T.G_has_procedure zI (Runs.plain (n := 2) (np := 2)) (fun _ _ _ _ _ _ us hl => match us, hl with | [_, _], _ => rfl) fun _ _ _ _ _ _ hr tk nd => by
  unfold kQ;exact (aI (aU (kX (bJ (kF T) hr tk (aA (fv 1) aH)) (pe_one (E8 tX F3 wD Gg fI (fv 1) (SO T.n_len (FL T) hr (fv 0)))))))
theorem tZ (T : Txt w K mg) : sX P w K mg base 1 "identity" [] (spF K mP) :=
 kG (k := 0) T.f_identity T.G_identity Eu (Runs.plain (n := 1) (np := 0)) (fun _ _ _ _ _ _ us hl => match us, hl with | [], _ => rfl) fun _ _ _ _ _ _ hr tk nd => by
  unfold sQ sN;exact (aI (aU (tL (own := [("at", 0)]) (t := (.nm 0)) rfl nd (fU (by rfl) T.n_range fI) (blkOk_by (own := [("at", 0)]) (N := ["at"]) (sc := defScope rY) (by decide +kernel)) (fun _ _ _ _ _ => (pg_name (i := 0) nd rfl (.inl rfl))) (fun _ _ _ _ _ => dO) (fun _ _ _ _ _ => (oF T.n_int (pS (bA hr.units) s_eq (cQ oR xE (fv 0) fI) fI))))))
theorem Dj (T : Txt w K mg) : sX P w K mg base 3 "matrix_of" ["command"] (spF K nQ) :=
 kG (k := 2) T.f_matrix_of T.G_matrix_of DX (Runs.cut (n := 9) (np := 1)) (fun _ _ _ _ _ _ us hl => match us, hl with | [_], _ => rfl) fun _ _ _ _ _ _ hr tk nd => by
  unfold qJ kD nC;exact (aF (bE (hJ (eV (bJ (qT T) hr tk (aA (fv 0) aH)))) (aI (yH T.x_NoCommand tk)) aS)
  (aF (bG (i := 1) nd rfl (.inr rfl) (bJ (uB T) hr tk (aA (bP (aA fI (aA fI (aA fI (aA fI (aA fI (aA fI aH))))))) (aA (fv 0) aH))))
  (aF (bG (i := 2) nd rfl (.inr rfl) (cU (aA (cU (aA fI (P4 (fv 1) aH))) aH)))
  (aF (kW (t := (.nm 3)) (passes_of rfl) rfl (fU (by rfl) T.n_range fI) (pg_name (i := 3) nd rfl (.inr rfl)) (fQ [3, 4, 5] (aF (bG (i := 4) nd rfl (.inl rfl) (Dz T.n_tuple (tL (own := [("k", 6)]) (t := (.nm 6)) rfl nd (fU (by rfl) T.n_range fI) (blkOk_by (own := [("k", 6)]) (N := ["command", "origin", "columns", "at", "unit", "image", "k", "i", "j"]) (sc := defScope lB) (by decide +kernel)) (fun _ _ _ _ _ => (pg_name (i := 6) nd rfl (.inl rfl))) (fun _ _ _ _ _ => dO) (fun _ _ _ _ _ => (oF T.n_int (pS (bA hr.units) s_eq (fv 6) (fv 3)))))))
  (aF (bG (i := 5) nd rfl (.inr rfl) (bJ (uB T) hr tk (aA (fv 4) (aA (fv 0) aH))))
  (aI (cM (gJ (fv 2) (cQ cG dP (cU (aA fI aH)) (tL (own := [("k", 6)]) (t := (.nm 6)) rfl nd (fU (by rfl) T.n_range fI) (blkOk_by (own := [("k", 6)]) (N := ["command", "origin", "columns", "at", "unit", "image", "k", "i", "j"]) (sc := defScope lB) (by decide +kernel)) (fun _ _ _ _ _ => (pg_name (i := 6) nd rfl (.inl rfl))) (fun _ _ _ _ _ => dO) (fun _ _ _ _ _ => (cQ gU oM (bD (fv 5) (fv 6)) (bD (fv 1) (fv 6)))))))))))))
  (aI (aU (f_lc2 (own := [("i", 7), ("j", 8)]) (vs1 := [8]) (t := (.nm 7)) (t1 := (.nm 8)) rfl nd (fU (by rfl) T.n_range fI) (blkOk_by (own := [("i", 7), ("j", 8)]) (N := ["command", "origin", "columns", "at", "unit", "image", "k", "i", "j"]) (sc := defScope lB) (by decide +kernel)) (by decide) (fun _ _ _ _ _ => (pg_name (i := 7) nd rfl (.inl rfl))) (fun _ _ _ _ _ => dO) (fun _ _ _ _ _ => (fU (by rfl) T.n_range fI)) (fun _ _ _ _ _ => (pg_name (i := 8) nd rfl (.inl rfl))) (fun _ _ _ _ _ => dO) (fun _ _ _ _ _ => (bD (bD (fv 2) (fv 8)) (fv 7))))))))))
theorem AB (T : Txt w K mg) : sX P w K mg base 1 "composed" ["one", "other"] (spF K pG) :=
 kG (k := 0) T.f_composed T.G_composed Ex (Runs.plain (n := 9) (np := 2)) (fun _ _ _ _ _ _ us hl => match us, hl with | [_, _], _ => rfl) fun _ _ _ _ _ _ hr tk nd => by
  unfold sS lL jJ;exact (aF (bG (i := 2) nd rfl (.inl rfl) (cU aH))
  (aF (kW (t := (.nm 3)) (passes_of rfl) rfl (fU (by rfl) T.n_range fI) (pg_name (i := 3) nd rfl (.inl rfl)) (fQ [3, 4, 5, 6] (aF (bG (i := 4) nd rfl (.inl rfl) (cU (aA fI (aA fI (aA fI (aA fI (aA fI (aA fI (aA fI aH)))))))))
  (aF (kW (t := (.nm 5)) (passes_of rfl) rfl (fU (by rfl) T.n_range fI) (pg_name (i := 5) nd rfl (.inl rfl)) (fQ [5, 6] (aF (bG (i := 6) nd rfl (.inr rfl) (bD (fv 1) (cQ cG dP (cQ eQ lA fI (fv 3)) (fv 5))))
  (aI (bE (aW (qS hr.units) CM (fv 6) fI) (aI (uK (i := 4) (own := [("a", 7), ("b", 8)]) (t := (.tp [7, 8])) rfl nd rfl rfl (sw_true rfl rfl rfl (by decide +kernel)) (SJ (by rfl) T.n_zip (fv 4) (uN (fv 0) (fD (cQ eQ lA fI (fv 5))) (fD (cQ cG dP (cQ eQ lA fI (fv 5)) fI)))) (blkOk_by (own := [("a", 7), ("b", 8)]) (N := ["one", "other", "result", "i", "row", "k", "factor", "a", "b"]) (sc := defScope rZ) (by decide +kernel)) (fun _ _ _ _ _ => (pg_tup rfl (pgs_cons (pg_name (i := 7) nd rfl (.inl rfl)) (pgs_cons (pg_name (i := 8) nd rfl (.inl rfl)) pgs_nil)))) (fun _ _ _ _ _ => dO) (fun _ _ _ _ _ => (cQ cG dP (fv 7) (cQ eQ lA (fv 6) (fv 8)))))) aS)))))
  (aI (bG (i := 2) nd rfl (.inl rfl) (cQ cG dP (fv 2) (fv 4))))))))
  (aI (aU (fv 2)))))
theorem BX (T : Txt w K mg) : sX P w K mg base 2 "kept_matrix" ["matrix"] (spF K mX) :=
 kG (k := 1) T.f_kept_matrix T.G_kept_matrix BI (Runs.plain (n := 4) (np := 1)) (fun _ _ _ _ _ _ us hl => match us, hl with | [_], _ => rfl) fun _ _ _ _ _ _ hr tk nd => by
  unfold nG;exact (aF (bG (i := 1) nd rfl (.inr rfl) (bD (fv 0) fI))
  (aF (uK (i := 2) (own := [("number", 3)]) (t := (.nm 3)) rfl nd rfl rfl (sw_true rfl rfl rfl (by decide +kernel)) (iS (uN (EA (tZ T) hr tk) (fD fI) (fD fI))) (blkOk_by (own := [("number", 3)]) (N := ["matrix", "first", "middle", "number"]) (sc := defScope mU) (by decide +kernel)) (fun _ _ _ _ _ => (pg_name (i := 3) nd rfl (.inl rfl))) (fun _ _ _ _ _ => dO) (fun _ _ _ _ _ => (cQ eQ lA (fv 1) (fv 3))))
  (aI (aU (cQ cG dP (cQ cG dP (uN (fv 0) iJ (fD fI)) (fv 2)) (uN (fv 0) (fD fI) iJ))))))
theorem xO (T : Txt w K mg) : OkMX P w K mg base 1 "Execution" "__init__" ["self", "bodies", "bits"] (spF K gZ) :=
 vP (k := 0) T.f_Execution_init T.M_Execution_init xD (Runs.plain (n := 4) (np := 3)) (fun _ _ _ _ _ _ us hl => match us, hl with | [_, _, _], _ => rfl) fun _ _ _ _ _ _ hr tk nd => by
  unfold jT;exact (aF (oV T.c_Execution T.a_Execution_own (fv 0) (fv 1))
  (aF (oV T.c_Execution T.a_Execution_bits (fv 0) (fv 2))
  (aF (oV T.c_Execution T.a_Execution_taken (fv 0) fI)
  (aF (oV T.c_Execution T.a_Execution_deeds (fv 0) (cU aH))
  (aF (oV T.c_Execution T.a_Execution_stack (fv 0) (cU aH))
  (aF (oV T.c_Execution T.a_Execution_active (fv 0) (f_lcC (own := [("body", 3)]) (t := (.nm 3)) rfl nd (iS (fv 1)) (blkOk_by (own := [("body", 3)]) (N := ["self", "bodies", "bits", "body"]) (sc := defScope fH) (by decide +kernel)) (fun _ _ _ _ _ => (pg_name (i := 3) nd rfl (.inl rfl)))))
  (aI (oV T.c_Execution T.a_Execution_ended (fv 0) fI))))))))
theorem qA (T : Txt w K mg) : OkMX P w K mg base 3 "Execution" "take" ["self"] (spF K dN) :=
 vP (k := 2) T.f_Execution_take T.M_Execution_take xB (Runs.plain (n := 1) (np := 1)) (fun _ _ _ _ _ _ us hl => match us, hl with | [_], _ => rfl) fun _ _ _ _ _ _ hr tk nd => by
  unfold hR;exact (aF (bE (aW (bA hr.units) s_eq (eG T.c_Execution T.a_Execution_taken (fv 0)) (fG T.n_len (eG T.c_Execution T.a_Execution_bits (fv 0)))) (aI (rN (xa_NoRun T) hr tk (aA (eG T.c_Execution T.a_Execution_taken (fv 0)) aH))) aS)
  (aF (HW T.c_Execution T.a_Execution_taken (fv 0) fI)
  (aI (aU (bD (eG T.c_Execution T.a_Execution_bits (fv 0)) (cQ gU oM (eG T.c_Execution T.a_Execution_taken (fv 0)) fI))))))
theorem pF (T : Txt w K mg) : OkMX P w K mg base 3 "Execution" "enter" ["self", "procedure", "statement"] (spF K dW) :=
 vP (k := 2) T.f_Execution_enter T.M_Execution_enter vZ (Runs.plain (n := 4) (np := 3)) (fun _ _ _ _ _ _ us hl => match us, hl with | [_, _, _], _ => rfl) fun _ _ _ _ _ _ hr tk nd => by
  unfold gL;exact (aF (bG (i := 3) nd rfl (.inl rfl) (bD (eG T.c_Execution T.a_Execution_active (fv 0)) (fv 1)))
  (aF (bE (PW.pt (MY (aW Dh Nn (fG T.n_len (fv 3)) fI) (pw_and1 (aW (bA hr.units) s_eq (bD (fv 3) (tE fI)) (eG T.c_Execution T.a_Execution_taken (fv 0)))))) (aI (rN (xa_NoRun T) hr tk (aA (tE fI) aH))) aS)
  (aF (cM (gJ (bD (eG T.c_Execution T.a_Execution_active (fv 0)) (fv 1)) (eG T.c_Execution T.a_Execution_taken (fv 0))))
  (aF (cM (gJ (eG T.c_Execution T.a_Execution_stack (fv 0)) (bP (aA fS (aA (fv 1) (aA (fv 2) aH))))))
  (aI (cM (gJ (eG T.c_Execution T.a_Execution_stack (fv 0)) (bP (aA fS (aA (bD (eG T.c_Execution T.a_Execution_own (fv 0)) (fv 1)) (aA fI aH)))))))))))
theorem pE (T : Txt w K mg) : OkMX P w K mg base 1 "Execution" "leave" ["self", "procedure", "statement", "way"] (spF K gF) :=
 vP (k := 0) T.f_Execution_leave T.M_Execution_leave vY (Runs.plain (n := 4) (np := 4)) (fun _ _ _ _ _ _ us hl => match us, hl with | [_, _, _, _], _ => rfl) fun _ _ _ _ _ _ hr tk nd => by
  unfold jA;exact (aF (cM (AI (bD (eG T.c_Execution T.a_Execution_active (fv 0)) (fv 1))))
  (aF (bE (aW Dg Ks (fv 2) fN) (aF (oV T.c_Execution T.a_Execution_ended (fv 0) (fv 3))
  (aI Oz)) aS)
  (aF (bE (eV (bD (fv 2) fI)) (aI (cM (gJ (eG T.c_Execution T.a_Execution_deeds (fv 0)) (bP (aA fS aH))))) aS)
  (aI (cM (gJ (eG T.c_Execution T.a_Execution_stack (fv 0)) (bP (aA fS (aA (bD (bD (fv 2) fI) (fv 3)) (aA fI aH))))))))))
theorem vM (T : Txt w K mg) : OkMX P w K mg base 2 "Execution" "unwind" ["self", "way"] (spF K iD) :=
 vP (k := 1) T.f_Execution_unwind T.M_Execution_unwind vL (Runs.plain (n := 3) (np := 2)) (fun _ _ _ _ _ _ us hl => match us, hl with | [_, _], _ => rfl) fun _ _ _ _ _ _ hr tk nd => by
  unfold iL dM;exact (aF (bG (i := 2) nd rfl (.inl rfl) (AI (eG T.c_Execution T.a_Execution_stack (fv 0))))
  (aF (Fw (k := 1000000) (passes_of rfl) (aW (qS hr.units) CM (bD (fv 2) fI) fS) (aF (bE (aW (bA hr.units) s_eq (bD (fv 2) fI) fS) (aI (cM (gJ (eG T.c_Execution T.a_Execution_deeds (fv 0)) (fv 2)))) aS)
  (aI (bG (i := 2) nd rfl (.inl rfl) (AI (eG T.c_Execution T.a_Execution_stack (fv 0)))))))
  (aI (cM (A0 (pE T) hr tk T.c_Execution (fv 0) (aA (bD (fv 2) fI) (aA (bD (fv 2) fI) (aA (fv 1) aH))))))))
theorem wF (T : Txt w K mg) : OkMX P w K mg base 4 "Execution" "begin" ["self", "statement"] (spF K iW) :=
 vP (k := 3) T.f_Execution_begin T.M_Execution_begin wA (Runs.plain (n := 3) (np := 2)) (fun _ _ _ _ _ _ us hl => match us, hl with | [_, _], _ => rfl) fun _ _ _ _ _ _ hr tk nd => by
  unfold jB;exact (aF (bG (i := 2) nd rfl (.inl rfl) (bD (fv 1) fI))
  (aI (bE (eV (bJ (qT T) hr tk (aA (fv 1) aH))) (aI (cM (gJ (eG T.c_Execution T.a_Execution_deeds (fv 0)) (fv 1)))) (aI (bE (aW (bA hr.units) s_eq (fv 2) fS) (aF (cM (gJ (eG T.c_Execution T.a_Execution_deeds (fv 0)) (bP (aA fS aH))))
  (aF (cM (gJ (eG T.c_Execution T.a_Execution_stack (fv 0)) (bP (aA fS aH))))
  (aI (cM (gJ (eG T.c_Execution T.a_Execution_stack (fv 0)) (bP (aA fS (aA (bD (fv 1) fI) (aA fI aH))))))))) (aI (bE (aW (bA hr.units) s_eq (fv 2) fS) (aI (cM (gJ (eG T.c_Execution T.a_Execution_stack (fv 0)) (bP (aA fS (aA (bD (fv 1) (cQ cG dP fI (Au (qA T) hr tk T.c_Execution (fv 0)))) (aA fI aH))))))) (aI (bE (aW (bA hr.units) s_eq (fv 2) fS) (aI (cM (gJ (eG T.c_Execution T.a_Execution_stack (fv 0)) (bP (aA fS (aA (bD (fv 1) fI) aH)))))) (aI (bE (aW (bA hr.units) s_eq (fv 2) fS) (aF (bE (eV (bD (fv 1) fI)) (aI (cM (gJ (eG T.c_Execution T.a_Execution_deeds (fv 0)) (bP (aA fS aH))))) aS)
  (aI (cM (A0 (pF T) hr tk T.c_Execution (fv 0) (aA (bD (fv 1) fI) (aA (fv 1) aH)))))) (aI (cM (A0 (vM T) hr tk T.c_Execution (fv 0) (aA (bD (fv 1) fI) aH)))))))))))))))
theorem xN (T : Txt w K mg) : OkMX P w K mg base 5 "Execution" "step" ["self"] (spF K jK) :=
 vP (k := 4) T.f_Execution_step T.M_Execution_step xC (Runs.plain (n := 2) (np := 1)) (fun _ _ _ _ _ _ us hl => match us, hl with | [_], _ => rfl) fun _ _ _ _ _ _ hr tk nd => by
  unfold jS;exact (aF (bG (i := 1) nd rfl (.inl rfl) (AI (eG T.c_Execution T.a_Execution_stack (fv 0))))
  (aI (bE (aW (bA hr.units) s_eq (bD (fv 1) fI) fS) (aI (bE (aW wD Gg (bD (fv 1) fI) (fG T.n_len (bD (fv 1) fI))) (aF (cM (gJ (eG T.c_Execution T.a_Execution_stack (fv 0)) (bP (aA fS (aA (bD (fv 1) fI) (aA (cQ cG dP (bD (fv 1) fI) fI) aH))))))
  (aI (cM (A0 (wF T) hr tk T.c_Execution (fv 0) (aA (bD (bD (fv 1) fI) (bD (fv 1) fI)) aH))))) aS)) (aI (bE (aW (bA hr.units) s_eq (bD (fv 1) fI) fS) (aI (cM (gJ (eG T.c_Execution T.a_Execution_deeds (fv 0)) (fv 1)))) (aI (bE (aW (bA hr.units) s_eq (bD (fv 1) fI) fS) (aI (bE (aW (bA hr.units) s_eq (Au (qA T) hr tk T.c_Execution (fv 0)) fI) (aF (cM (gJ (eG T.c_Execution T.a_Execution_stack (fv 0)) (fv 1)))
  (aI (cM (gJ (eG T.c_Execution T.a_Execution_stack (fv 0)) (bP (aA fS (aA (bD (fv 1) fI) (aA fI aH)))))))) aS)) (aI (cM (A0 (pE T) hr tk T.c_Execution (fv 0) (aA (bD (fv 1) fI) (aA (bD (fv 1) fI) (aA fI aH)))))))))))))
theorem oB (T : Txt w K mg) : sX P w K mg base 24 "executed_run" ["book", "procedure", "bits"] (spF K cH) :=
 kG (k := 23) T.f_executed_run T.G_executed_run AX (Runs.cut (n := 6) (np := 3)) (fun _ _ _ _ _ _ us hl => match us, hl with | [_, _, _], _ => rfl) fun _ _ _ _ _ _ hr tk nd => by
  unfold mF eJ gW;exact (aF (bE (hJ (eV (bJ (zK T) hr tk (aA (fv 0) (aA (fv 1) aH))))) (aI (yH T.x_NoProcedure tk)) aS)
  (aF (bE (hJ (eV (hY (T := "list") T.n_isinstance T.n_list (fv 2)))) (aI (rN (xa_NoRun T) hr tk (aA (tE fI) aH))) aS)
  (aF (kW (t := (.tp [3, 4])) (passes_of rfl) rfl (As (by rfl) T.n_enumerate (fv 2)) (pg_tup rfl (pgs_cons (pg_name (i := 3) nd rfl (.inl rfl)) (pgs_cons (pg_name (i := 4) nd rfl (.inl rfl)) pgs_nil))) (fQ [3, 4] (aI (bE (hJ (eV (bJ (Co T) hr tk (aA (fv 4) aH)))) (aI (rN (xa_NoRun T) hr tk (aA (fv 3) aH))) aS))))
  (aF (bG (i := 5) nd rfl (.inl rfl) (Mg T.T_Execution (xO T) hr tk (aA (Au (BY T) hr tk T.c_Book (fv 0)) (aA (fv 2) aH))))
  (aF (cM (A0 (pF T) hr tk T.c_Execution (fv 5) (aA (fv 1) (aA fN aH))))
  (aF (Fw (k := 1000000) (passes_of rfl) (aW Dh Nn (fG T.n_len (eG T.c_Execution T.a_Execution_stack (fv 5))) fI) (aI (cM (Au (xN T) hr tk T.c_Execution (fv 5)))))
  (aF (bE (aW wD Gg (eG T.c_Execution T.a_Execution_taken (fv 5)) (fG T.n_len (fv 2))) (aI (rN (xa_NoRun T) hr tk (aA (eG T.c_Execution T.a_Execution_taken (fv 5)) aH))) aS)
  (aI (aU (bP (aA (eG T.c_Execution T.a_Execution_ended (fv 5)) (aA (tF (eG T.c_Execution T.a_Execution_deeds (fv 5))) aH))))))))))))
theorem tY (T : Txt w K mg) : sX P w K mg base 2 "pens_behind" ["deeds", "pen"] (spF K kI) :=
 kG (k := 1) T.f_pens_behind T.G_pens_behind BH (Runs.cut (n := 5) (np := 2)) (fun _ _ _ _ _ _ us hl => match us, hl with | [_, _], _ => rfl) fun _ _ _ _ _ _ hr tk nd => by
  unfold nF eU;exact (aF (bG (i := 2) nd rfl (.inl rfl) (cU aH))
  (aF (bG (i := 3) nd rfl (.inl rfl) (cU aH))
  (aF (kW (t := (.nm 4)) (passes_of rfl) rfl (iS (fv 0)) (pg_name (i := 4) nd rfl (.inl rfl)) (fQ [4] (aI (bE (aW (bA hr.units) s_eq (bD (fv 4) fI) fS) (aI (cM (gJ (fv 3) (uN (fv 1) iJ (fD fI))))) (aI (bE (aW (bA hr.units) s_eq (bD (fv 4) fI) fS) (aI (bG (i := 1) nd rfl (.inl rfl) (cQ cG dP (AI (fv 3)) (uN (fv 1) (fD fI) iJ)))) (aF (bG (i := 1) nd rfl (.inl rfl) (bJ (uB T) hr tk (aA (fv 1) (aA (fv 4) aH))))
  (aI (cM (gJ (fv 2) (fv 1)))))))))))
  (aI (aU (bP (aA (tF (fv 2)) (aA (fv 1) aH))))))))
theorem Qu (T : Txt w K mg) : OkK P w K mg base 25 "ran" ["book", "procedure", "bits", "pen"] 3 "pen" (.ref (He.ga K "HOME")) (spF K FQ) :=
 okK (k := 24) (N := ["book", "procedure", "bits", "pen", "way", "deeds", "pens", "last"]) T.f_ran T.G_ran sc_ran (Runs.plain (n := 8) (np := 4)) rfl (fun _ _ _ _ _ _ us ks l1 l2 => match us, ks, l1, l2 with | [_, _, _], [_], _, _ => ⟨_, _, _, _, _, _, rfl, rfl, rfl⟩) (fun _ _ _ _ _ _ us ws l1 l2 => match us, ws, l1, l2 with | [_, _, _], [_], _, _ => rfl) fun cdv A outer s H E hr => by
  have nd : (["book", "procedure", "bits", "pen", "way", "deeds", "pens", "last"] : List Str).Nodup := sc_ran.nd;have tk := takes_of (X := cxOf (L2.CX P w) P w K mg base ["book", "procedure", "bits", "pen", "way", "deeds", "pens", "last"] "ran" (defScope Cg) (He.ga K "ran") cdv A outer s H E) (E := E) rfl rfl rfl rfl;unfold Iv;exact (aF (qX (t := (.tp [4, 5])) (bJ (oB T) hr tk (aA (fv 0) (aA (fv 1) (aA (fv 2) aH)))) (pg_tup rfl (pgs_cons (pg_name (i := 4) nd rfl (.inl rfl)) (pgs_cons (pg_name (i := 5) nd rfl (.inl rfl)) pgs_nil))))
  (aF (bE (hJ (eV (bJ (Cn T) hr tk (aA (fv 3) aH)))) (aI (yH T.x_NoPen tk)) aS)
  (aF (qX (t := (.tp [6, 7])) (bJ (tY T) hr tk (aA (fv 5) (aA (fv 3) aH))) (pg_tup rfl (pgs_cons (pg_name (i := 6) nd rfl (.inl rfl)) (pgs_cons (pg_name (i := 7) nd rfl (.inl rfl)) pgs_nil))))
  (aI (aU (bP (aA (fv 4) (aA (fv 7) (aA (fG T.n_len (fv 6)) aH)))))))))
theorem L9 (T : Txt w K mg) : Ph P w K mg base 25 "trace" ["book", "procedure", "bits", "pen"] 3 "pen" (spG K xR) :=
 okGn (k := 24) (N := ["book", "procedure", "bits", "pen", "way", "deeds", "pens", "last"]) T.f_trace T.G_trace sc_trace rfl (fun _ _ _ _ _ _ us ws l1 l2 => match us, ws, l1, l2 with | [_, _, _], [_], _, _ => rfl) fun cdv A outer s H E pn hr => by
  have nd : (["book", "procedure", "bits", "pen", "way", "deeds", "pens", "last"] : List Str).Nodup := sc_trace.nd;have tk := takes_gcx (P := P) (w := w) (K := K) (mg := mg) (base := base) (N := ["book", "procedure", "bits", "pen", "way", "deeds", "pens", "last"]) (qual := "trace") (scope := defScope vC) (f := (He.ga K "trace")) (cd := cdv) (A := A) (outer := outer) (s := s) (H := H) (E := E) (pn := pn);unfold Ax;exact (Dy (qX (t := (.tp [4, 5])) (bJ (oB T) hr tk (aA (fv 0) (aA (fv 1) (aA (fv 2) aH)))) (pg_tup rfl (pgs_cons (pg_name (i := 4) nd rfl (.inl rfl)) (pgs_cons (pg_name (i := 5) nd rfl (.inl rfl)) pgs_nil))))
  (Dy (bE (hJ (eV (bJ (Cn T) hr tk (aA (fv 3) aH)))) (aI (yH T.x_NoPen tk)) aS)
  (Dy (qX (t := (.tp [6, 7])) (bJ (tY T) hr tk (aA (fv 5) (aA (fv 3) aH))) (pg_tup rfl (pgs_cons (pg_name (i := 6) nd rfl (.inl rfl)) (pgs_cons (pg_name (i := 7) nd rfl (.inl rfl)) pgs_nil))))
  (fg_yf (fv 6) hr.hd))))
theorem CO (T : Txt w K mg) : sX P w K mg base 25 "run_matrix" ["book", "procedure", "bits"] (spF K lN) :=
 kG (k := 24) T.f_run_matrix T.G_run_matrix CJ (Runs.cut (n := 9) (np := 3)) (fun _ _ _ _ _ _ us hl => match us, hl with | [_, _, _], _ => rfl) fun _ _ _ _ _ _ hr tk nd => by
  unfold oX fM;exact (aF (qX (t := (.tp [3, 4])) (bJ (oB T) hr tk (aA (fv 0) (aA (fv 1) (aA (fv 2) aH)))) (pg_tup rfl (pgs_cons (pg_name (i := 3) nd rfl (.inl rfl)) (pgs_cons (pg_name (i := 4) nd rfl (.inl rfl)) pgs_nil))))
  (aF (bG (i := 5) nd rfl (.inl rfl) (EA (tZ T) hr tk))
  (aF (bG (i := 6) nd rfl (.inl rfl) (cU aH))
  (aF (bG (i := 7) nd rfl (.inl rfl) fI)
  (aF (kW (t := (.nm 8)) (passes_of rfl) rfl (iS (fv 4)) (pg_name (i := 8) nd rfl (.inl rfl)) (fQ [8] (aI (bE (aW (bA hr.units) s_eq (bD (fv 8) fI) fS) (aF (cM (gJ (fv 6) (fv 5)))
  (aI (bG (i := 5) nd rfl (.inl rfl) (EA (tZ T) hr tk)))) (aI (bE (aW (bA hr.units) s_eq (bD (fv 8) fI) fS) (aI (bG (i := 5) nd rfl (.inl rfl) (bJ (AB T) hr tk (aA (AI (fv 6)) (aA (bJ (BX T) hr tk (aA (fv 5) aH)) aH))))) (aF (bG (i := 5) nd rfl (.inl rfl) (bJ (AB T) hr tk (aA (fv 5) (aA (bJ (Dj T) hr tk (aA (fv 8) aH)) aH))))
  (aI (D8 (k := 7) nd rfl (.inl rfl) fI)))))))))
  (aI (aU (bP (aA (fv 3) (aA (fv 5) (aA (fv 7) aH)))))))))))
theorem JX (T : Txt w K mg) : sX P w K mg base 1 "_law_pool" ["_law_script"] (spF K xT) :=
 kG (k := 0) T.f_L_pool T.G_L_pool JL (Runs.plain (n := 2) (np := 1)) (fun _ _ _ _ _ _ us hl => match us, hl with | [_], _ => rfl) fun _ _ _ _ _ _ hr tk nd => by
  unfold yS;exact (aI (aU (cQ cG dP (cU (aA fI aH)) (SK (tL (own := [("_law_cell", 1)]) (t := (.nm 1)) rfl nd (iS (uN (fv 0) iJ (fD fI))) (blkOk_by (own := [("_law_cell", 1)]) (N := ["_law_script", "_law_cell"]) (sc := defScope xH) (by decide +kernel)) (fun _ _ _ _ _ => (pg_name (i := 1) nd rfl (.inl rfl))) (fun _ _ _ _ _ => dO) (fun _ _ _ _ _ => (oF T.n_int (fv 1)))) (pe_one (cU (aA fI aH)))))))
theorem eR (T : Txt w K mg) : sX P w K mg base 1 "_law_draw" ["_law_pool_here", "_law_many"] (spF K dE) :=
 kG (k := 0) T.f_L_draw T.G_L_draw JO (Runs.plain (n := 5) (np := 2)) (fun _ _ _ _ _ _ us hl => match us, hl with | [_, _], _ => rfl) fun _ _ _ _ _ _ hr tk nd => by
  unfold yV;exact (aF (Br (fv 0) fI fI)
  (aF (bG (i := 2) nd rfl (.inl rfl) (cQ cG dP fI (cQ oR xE (oF T.n_int (bD (fv 0) fI)) (cQ gU oM (fG T.n_len (fv 0)) fI))))
  (aF (bG (i := 3) nd rfl (.inl rfl) (oF T.n_int (bD (fv 0) (fv 2))))
  (aF (bE (aW Qt s_ge (fv 3) (cQ IF Pp fI fI)) (aF (Oy (cQ xK Dc (fv 3) (fv 1)) (fv 0) (fv 2))
  (aI (aU (cQ oR xE (fv 3) (fv 1))))) aS)
  (aF (bG (i := 4) nd rfl (.inl rfl) (cQ oR xE (cQ eQ lA (oF T.n_int (cQ cG dP (cQ cG dP (fv 3) (cQ eQ lA fI (bD (fv 0) fI))) fI)) fI) fI))
  (aF (bG (i := 4) nd rfl (.inl rfl) (cQ oR xE (cQ eQ lA (fv 4) (cQ cG dP (cQ xK Dc (fv 4) fI) fI)) fI))
  (aF (bG (i := 4) nd rfl (.inl rfl) (cQ oR xE (cQ eQ lA (fv 4) (cQ cG dP (cQ xK Dc (fv 4) fI) fI)) fI))
  (aI (aU (cQ oR xE (cQ xK Dc (fv 4) fI) (fv 1)))))))))))
theorem FH (T : Txt w K mg) : sX P w K mg base 2 "_law_number" ["_law_pool_here"] (spF K mR) :=
 kG (k := 1) T.f_L_number T.G_L_number Ey (Runs.plain (n := 4) (np := 1)) (fun _ _ _ _ _ _ us hl => match us, hl with | [_], _ => rfl) fun _ _ _ _ _ _ hr tk nd => by
  unfold sT;exact (aF (bG (i := 1) nd rfl (.inl rfl) (bJ (eR T) hr tk (aA (fv 0) (aA fI aH))))
  (aF (bE (aW (bA hr.units) s_eq (fv 1) fI) (aI (aU (cQ gU oM (bJ (eR T) hr tk (aA (fv 0) (aA fI aH))) fI))) aS)
  (aF (Br (fv 0) fI fI)
  (aF (bG (i := 2) nd rfl (.inl rfl) (cQ cG dP fI (cQ oR xE (oF T.n_int (bD (fv 0) fI)) (cQ gU oM (fG T.n_len (fv 0)) fI))))
  (aF (bG (i := 3) nd rfl (.inl rfl) (cQ oR xE (oF T.n_int (cQ cG dP (cQ eQ lA (bD (fv 0) (fv 2)) fI) (cQ eQ lA (bD (fv 0) fI) fI))) (cQ IF Pp fI fI)))
  (aF (bE (aW (bA hr.units) s_eq (bJ (eR T) hr tk (aA (fv 0) (aA fI aH))) fI) (aI (aU (fv 3))) aS)
  (aI (aU (cQ gU oM fI (fv 3))))))))))
theorem LC (T : Txt w K mg) : sX P w K mg base 3 "_law_pen" ["_law_pool_here"] (spF K Am) :=
 kG (k := 2) T.f_L_pen T.G_L_pen Ko (Runs.plain (n := 3) (np := 1)) (fun _ _ _ _ _ _ us hl => match us, hl with | [_], _ => rfl) fun _ _ _ _ _ _ hr tk nd => by
  unfold Az;exact (aF (uK (i := 1) (own := [("_law_k", 2)]) (t := (.nm 2)) rfl nd rfl rfl (sw_true rfl rfl rfl (by decide +kernel)) (fU (by rfl) T.n_range fI) (blkOk_by (own := [("_law_k", 2)]) (N := ["_law_pool_here", "_law_begin", "_law_k"]) (sc := defScope Ag) (by decide +kernel)) (fun _ _ _ _ _ => (pg_name (i := 2) nd rfl (.inl rfl))) (fun _ _ _ _ _ => dO) (fun _ _ _ _ _ => (bJ (FH T) hr takes0 (aA (fv 0) aH))))
  (aI (aU (bP (aA (bD (fv 1) fI) (aA (bD (fv 1) fI) (aA (bD (fv 1) fI) (aA (bD (fv 1) fI) (aA (bD (fv 1) fI) (aA (bD (fv 1) fI) aH))))))))))
theorem JY (T : Txt w K mg) : sX P w K mg base 1 "_law_move" ["_law_begin", "_law_command"] (spF K xU) :=
 kG (k := 0) T.f_L_move T.G_L_move JN (Runs.plain (n := 11) (np := 2)) (fun _ _ _ _ _ _ us hl => match us, hl with | [_, _], _ => rfl) fun _ _ _ _ _ _ hr tk nd => by
  unfold yU;exact (aF (qX (t := (.tp [2, 3, 4, 5, 6, 7])) (fv 0) (pg_tup rfl (pgs_cons (pg_name (i := 2) nd rfl (.inl rfl)) (pgs_cons (pg_name (i := 3) nd rfl (.inl rfl)) (pgs_cons (pg_name (i := 4) nd rfl (.inl rfl)) (pgs_cons (pg_name (i := 5) nd rfl (.inl rfl)) (pgs_cons (pg_name (i := 6) nd rfl (.inl rfl)) (pgs_cons (pg_name (i := 7) nd rfl (.inl rfl)) pgs_nil))))))))
  (aF (bG (i := 8) nd rfl (.inl rfl) (bD (fv 1) fI))
  (aF (bG (i := 9) nd rfl (.inl rfl) (bD (cQ cG dP (fv 1) (bP (aA fI aH))) fI))
  (aF (bE (aW (bA hr.units) s_eq (fv 8) fS) (aI (aU (bP (aA (cQ cG dP (fv 2) (cQ eQ lA (fv 9) (fv 4))) (aA (cQ cG dP (fv 3) (cQ eQ lA (fv 9) (fv 5))) (aA (fv 4) (aA (fv 5) (aA (fv 6) (aA (fv 7) aH))))))))) aS)
  (aF (bE (aW (bA hr.units) s_eq (fv 8) fS) (aF (bG (i := 10) nd rfl (.inl rfl) (bD (cU (aA (bP (aA (tE (fv 5)) (aA (fv 4) aH))) (aA (bP (aA (tE (fv 4)) (aA (tE (fv 5)) aH))) (aA (bP (aA (fv 5) (aA (tE (fv 4)) aH))) aH)))) (cQ gU oM (fv 9) fI)))
  (aI (aU (bP (aA (fv 2) (aA (fv 3) (aA (bD (fv 10) fI) (aA (bD (fv 10) fI) (aA (fv 6) (aA (fv 7) aH)))))))))) aS)
  (aF (bE (aW (bA hr.units) s_eq (fv 8) fS) (aI (aU (bP (aA (fv 2) (aA (fv 3) (aA (fv 4) (aA (tE (fv 5)) (aA (fv 6) (aA (fv 7) aH))))))))) aS)
  (aF (bE (aW (bA hr.units) s_eq (fv 8) fS) (aI (aU (bP (aA (fv 2) (aA (fv 3) (aA (cQ eQ lA (fv 4) (fv 9)) (aA (cQ eQ lA (fv 5) (fv 9)) (aA (fv 6) (aA (fv 7) aH))))))))) aS)
  (aF (bE (aW (bA hr.units) s_eq (fv 8) fS) (aI (aU (bP (aA (fv 2) (aA (fv 3) (aA (fv 9) (aA (bD (fv 1) fI) (aA (fv 6) (aA (fv 7) aH))))))))) aS)
  (aF (bE (aW (bA hr.units) s_eq (fv 8) fS) (aI (aU (bP (aA (fv 9) (aA (bD (fv 1) fI) (aA (fv 4) (aA (fv 5) (aA (fv 6) (aA (fv 7) aH))))))))) aS)
  (aF (bE (aW (bA hr.units) s_eq (fv 8) fS) (aI (aU (bP (aA (fv 2) (aA (fv 3) (aA (fv 4) (aA (fv 5) (aA (fv 2) (aA (fv 3) aH))))))))) aS)
  (aF (bE (aW (bA hr.units) s_eq (fv 8) fS) (aI (aU (bP (aA (fv 6) (aA (fv 7) (aA (fv 4) (aA (fv 5) (aA (fv 6) (aA (fv 7) aH))))))))) aS)
  (aI (aU (bP (aA (fv 6) (aA (fv 7) (aA (fv 4) (aA (fv 5) (aA (fv 2) (aA (fv 3) aH))))))))))))))))))))
theorem LD (T : Txt w K mg) : OkG P w K mg base 1 "_law_bit" ["_law_state", "_law_task_here"] (spF K An) :=
 okG (k := 0) (N := ["_law_state", "_law_task_here", "_law_bits"]) T.f_L_bit T.G_L_bit sc_L_bit (Runs.plain (n := 3) (np := 2)) (fun _ _ _ _ _ _ us hl => match us, hl with | [_, _], _ => rfl) fun cdv A outer s H E hr hgd => by
  have nd : (["_law_state", "_law_task_here", "_law_bits"] : List Str).Nodup := sc_L_bit.nd;have tk := takes_of (X := cxOf (L2.CX P w) P w K mg base ["_law_state", "_law_task_here", "_law_bits"] "_law_bit" (defScope Ah) (He.ga K "_law_bit") cdv A outer s H E) (E := E) rfl rfl rfl rfl;unfold B0;exact (aF (bG (i := 2) nd rfl (.inl rfl) (dJ hr.units (fv 0) fS))
  (aF (bE (aW (bA hr.units) s_eq (dJ hr.units (fv 0) fS) (fG T.n_len (fv 2))) (aF (bE (aW (bA hr.units) s_eq (dJ hr.units (fv 0) fS) fI) (aI (aU fI)) aS)
  (aF (uL in_sub Qd hr.units (fv 0) fS fI)
  (aI (cM (gJ (fv 2) (oF T.n_int (kX (pS (bA hr.units) s_eq (bD (fv 1) fI) fS) (pe_one (pS op_in_str s_inT fS (SM T.n_str (st_hu hr) hgd (bD (fv 1) fI))))))))))) aS)
  (aF (uL in_add Qk hr.units (fv 0) fS fI)
  (aI (aU (bD (fv 2) (cQ gU oM (dJ hr.units (fv 0) fS) fI)))))))
theorem JW (T : Txt w K mg) : OkG P w K mg base 2 "_law_task" ["_law_state", "_law_task_here"] (spF K jE) :=
 okG (k := 1) (N := ["_law_state", "_law_task_here", "_law_word", "_law_bit_here", "_law_todo", "_law_at", "_law_waits"]) T.f_L_task T.G_L_task sc_L_task (Runs.plain (n := 7) (np := 2)) (fun _ _ _ _ _ _ us hl => match us, hl with | [_, _], _ => rfl) fun cdv A outer s H E hr hgd => by
  have nd : (["_law_state", "_law_task_here", "_law_word", "_law_bit_here", "_law_todo", "_law_at", "_law_waits"] : List Str).Nodup := sc_L_task.nd;have tk := takes_of (X := cxOf (L2.CX P w) P w K mg base ["_law_state", "_law_task_here", "_law_word", "_law_bit_here", "_law_todo", "_law_at", "_law_waits"] "_law_task" (defScope rH) (He.ga K "_law_task") cdv A outer s H E) (E := E) rfl rfl rfl rfl;unfold gK;exact (aF (bG (i := 2) nd rfl (.inl rfl) (bD (fv 1) fI))
  (aF (bE (PW.pt (nV (aW (bA hr.units) s_eq (fv 2) fS) (pw_or1 (aW (bA hr.units) s_eq (fv 2) fS)))) (aF (bG (i := 3) nd rfl (.inl rfl) (E9 (LD T) hr hgd tk (aA (fv 0) (aA (fv 1) aH))))
  (aF (bE (aW (bA hr.units) s_eq (fv 3) fI) (aI (aU fN)) aS)
  (aF (bE (aW (bA hr.units) s_eq (fv 2) fS) (aI (aU (bD (fv 1) (cQ cG dP fI (fv 3))))) aS)
  (aI (aU (bD (cU (aA (cU aH) (aA (cQ cG dP (bD (fv 1) fI) (cU (aA (fv 1) aH))) aH))) (fv 3))))))) aS)
  (aF (bE (aW (bA hr.units) s_eq (fv 2) fS) (aF (cM (gJ (dJ hr.units (fv 0) fS) (bP (aA fS aH))))
  (aI (aU (cQ cG dP (bD (fv 1) fI) (cU (aA (bP (aA fS aH)) aH)))))) aS)
  (aF (bE (aW (bA hr.units) s_eq (fv 2) fS) (aF (bE (aW (op_inD (QB hr)) s_in (bP (aA (bD (fv 1) fI) (aA (dJ hr.units (fv 0) fS) aH))) (dJ hr.units (fv 0) fS)) (aI (aU fN)) aS)
  (aF (cM (gJ (dJ hr.units (fv 0) fS) (bP (aA (bD (fv 1) fI) (aA (dJ hr.units (fv 0) fS) aH)))))
  (aF (uL HI Kt hr.units (fv 0) fS (uN (cU (aA (bP (aA fS aH)) aH)) iJ (fD (oF T.n_int (bD (fv 1) fI)))))
  (aI (aU (cQ cG dP (bD (dJ hr.units (fv 0) fS) (bD (fv 1) fI)) (cU (aA (bP (aA fS (aA (fv 1) (aA fI aH)))) aH)))))))) aS)
  (aF (bE (aW (bA hr.units) s_eq (fv 2) fS) (aF (bG (i := 4) nd rfl (.inl rfl) (dJ hr.units (fv 0) fS))
  (aF (bG (i := 5) nd rfl (.inl rfl) (P6 (QB hr) (tL (own := [("_law_waits", 6)]) (t := (.nm 6)) rfl nd (iS (fv 4)) (blkOk_by (own := [("_law_waits", 6)]) (N := ["_law_state", "_law_task_here", "_law_word", "_law_bit_here", "_law_todo", "_law_at", "_law_waits"]) (sc := defScope rH) (by decide +kernel)) (fun _ _ _ _ _ => (pg_name (i := 6) nd rfl (.inl rfl))) (fun _ _ _ _ _ => dO) (fun _ _ _ _ _ => (bD (fv 6) fI))) fS))
  (aF (uL HI Kt hr.units (fv 0) fS (tL (own := [("_law_waits", 6)]) (t := (.nm 6)) rfl nd (iS (uN (fv 4) iJ (fD (fv 5)))) (blkOk_by (own := [("_law_waits", 6)]) (N := ["_law_state", "_law_task_here", "_law_word", "_law_bit_here", "_law_todo", "_law_at", "_law_waits"]) (sc := defScope rH) (by decide +kernel)) (fun _ _ _ _ _ => (pg_name (i := 6) nd rfl (.inl rfl))) (fun _ _ _ _ _ => (Ic (aW (bA hr.units) s_eq (bD (fv 6) fI) fS))) (fun _ _ _ _ _ => (fv 6))))
  (aF (yI hr.units (fv 0) fS (uN (fv 4) (fD (cQ cG dP (fv 5) fI)) iJ))
  (aI (aU (cU (aA (bP (aA fS (aA (bD (bD (fv 4) (fv 5)) fI) (aA (bD (fv 1) fI) aH)))) aH)))))))) aS)
  (aF (bE (aW (bA hr.units) s_eq (fv 2) fS) (aF (cM (AI (dJ hr.units (fv 0) fS)))
  (aF (yI hr.units (fv 0) fS (bD (fv 1) fI))
  (aF (uL HI Kt hr.units (fv 0) fS (uN (cU (aA (bP (aA fS aH)) aH)) iJ (fD (oF T.n_int (bD (bD (fv 1) fI) fI)))))
  (aI (aU (bD (bD (bD (fv 1) fI) fI) (bD (fv 1) fI))))))) aS)
  (aF (cM (gJ (dJ hr.units (fv 0) fS) (fv 1)))
  (aI (aU (cU aH))))))))))
theorem LB (T : Txt w K mg) : OkG P w K mg base 3 "_law_run" ["_law_bodies", "_law_procedure", "_law_bits", "_law_extra"] (spF K sD) :=
 okG (k := 2) (N := ["_law_bodies", "_law_procedure", "_law_bits", "_law_extra", "_law_state", "_law_turn", "_law_task_here", "_law_block"]) T.f_L_run T.G_L_run sc_L_run (Runs.cut (n := 8) (np := 4)) (fun _ _ _ _ _ _ us hl => match us, hl with | [_, _, _, _], _ => rfl) fun cdv A outer s H E hr hgd => by
  have nd : (["_law_bodies", "_law_procedure", "_law_bits", "_law_extra", "_law_state", "_law_turn", "_law_task_here", "_law_block"] : List Str).Nodup := sc_L_run.nd;have tk := takes_of (X := cxOf (L2.CX P w) P w K mg base ["_law_bodies", "_law_procedure", "_law_bits", "_law_extra", "_law_state", "_law_turn", "_law_task_here", "_law_block"] "_law_run" (defScope Af) (He.ga K "_law_run") cdv A outer s H E) (E := E) rfl rfl rfl rfl;unfold Ay eK;exact (aF (bG (i := 4) nd rfl (.inl rfl) (SQ (pQ fS (fv 0) (pQ fS (Bt T.n_list (fv 2)) (pQ fS (fv 3) (pQ fS fI (pQ fS fI (pQ fS (cU aH) (pQ fS (cU aH) P3)))))))))
  (aF (yI hr.units (fv 4) fS (cU (aA (bP (aA fS (aA (fv 1) (aA fB (aA (cU (aA (cU aH) (aA (cU aH) aH))) aH))))) aH)))
  (aF (kW (t := (.nm 5)) (passes_of rfl) rfl (fU (by rfl) T.n_range fI) (pg_name (i := 5) nd rfl (.inl rfl)) (fQ [5, 6, 7] (aI (bE (aW Dh Nn (fG T.n_len (dJ hr.units (fv 4) fS)) fI) (aF (bG (i := 6) nd rfl (.inl rfl) (bD (dJ hr.units (fv 4) fS) fI))
  (aF (yI hr.units (fv 4) fS (uN (dJ hr.units (fv 4) fS) (fD fI) iJ))
  (aF (bG (i := 7) nd rfl (.inl rfl) (E9 (JW T) hr hgd tk (aA (fv 4) (aA (fv 6) aH))))
  (aF (bE (PW.pt (MY (aW Dg Ks (fv 7) fN) (pw_and1 (aW (bA hr.units) s_eq (bD (fv 6) fI) fS)))) (aI (aU (bP (aA fS (aA (tE fI) (aA (tF (dJ hr.units (fv 4) fS)) (aA (tF (dJ hr.units (fv 4) fS)) aH))))))) aS)
  (aF (bE (aW Dg Ks (fv 7) fN) (aI (aU (bP (aA fS (aA (fG T.n_len (dJ hr.units (fv 4) fS)) (aA (tF (dJ hr.units (fv 4) fS)) (aA (tF (dJ hr.units (fv 4) fS)) aH))))))) aS)
  (aI (yI hr.units (fv 4) fS (cQ cG dP (fv 7) (dJ hr.units (fv 4) fS))))))))) aS))))
  (aF (bE (aW Dh Nn (fG T.n_len (dJ hr.units (fv 4) fS)) fI) (aI (aU (bP (aA fS (aA fI (aA (cU aH) (aA (cU aH) aH))))))) aS)
  (aF (bE (aW wD Gg (dJ hr.units (fv 4) fS) (fG T.n_len (dJ hr.units (fv 4) fS))) (aI (aU (bP (aA fS (aA (dJ hr.units (fv 4) fS) (aA (tF (dJ hr.units (fv 4) fS)) (aA (tF (dJ hr.units (fv 4) fS)) aH))))))) aS)
  (aI (aU (bP (aA fS (aA (dJ hr.units (fv 4) fS) (aA (tF (dJ hr.units (fv 4) fS)) (aA (tF (dJ hr.units (fv 4) fS)) aH))))))))))))
theorem zL (T : Txt w K mg) : sX P w K mg base 2 "_law_pens" ["_law_deeds", "_law_begin"] (spF K pH) :=
 kG (k := 1) T.f_L_pens T.G_L_pens JM (Runs.cut (n := 5) (np := 2)) (fun _ _ _ _ _ _ us hl => match us, hl with | [_, _], _ => rfl) fun _ _ _ _ _ _ hr tk nd => by
  unfold yT kS;exact (aF (bG (i := 2) nd rfl (.inl rfl) (cU aH))
  (aF (bG (i := 3) nd rfl (.inl rfl) (cU aH))
  (aF (kW (t := (.nm 4)) (passes_of rfl) rfl (iS (fv 0)) (pg_name (i := 4) nd rfl (.inl rfl)) (fQ [4] (aI (bE (aW (bA hr.units) s_eq (bD (fv 4) fI) fS) (aI (cM (gJ (fv 3) (fv 1)))) (aI (bE (aW (bA hr.units) s_eq (bD (fv 4) fI) fS) (aI (bG (i := 1) nd rfl (.inl rfl) (cQ cG dP (uN (AI (fv 3)) iJ (fD fI)) (uN (fv 1) (fD fI) iJ)))) (aF (bG (i := 1) nd rfl (.inl rfl) (bJ (JY T) hr tk (aA (fv 1) (aA (fv 4) aH))))
  (aI (cM (gJ (fv 2) (fv 1)))))))))))
  (aI (aU (cU (aA (tF (fv 2)) (aA (fv 1) aH))))))))
theorem Gp (T : Txt w K mg) : sX P w K mg base 3 "_law_probe" ["_law_deeds"] (spF K rL) :=
 kG (k := 2) T.f_L_probe T.G_L_probe Gf (Runs.cut (n := 7) (np := 1)) (fun _ _ _ _ _ _ us hl => match us, hl with | [_], _ => rfl) fun _ _ _ _ _ _ hr tk nd => by
  unfold vJ nJ nK qE;exact (aF (bG (i := 1) nd rfl (.inl rfl) (bD (bJ (zL T) hr tk (aA (fv 0) (aA (bP (aA fI (aA fI (aA fI (aA fI (aA fI (aA fI aH))))))) aH))) fI))
  (aF (uK (i := 2) (own := [("_law_j", 5)]) (t := (.nm 5)) rfl nd rfl rfl (sw_true rfl rfl rfl (by decide +kernel)) (fU (by rfl) T.n_range fI) (blkOk_by (own := [("_law_j", 5)]) (N := ["_law_deeds", "_law_origin", "_law_images", "_law_matrix", "_law_i", "_law_j", "_law_k"]) (sc := defScope vD) (by decide +kernel)) (fun _ _ _ _ _ => (pg_name (i := 5) nd rfl (.inr rfl))) (fun _ _ _ _ _ => dO) (fun _ _ _ _ _ => (bD (bJ (zL T) hr takes0 (aA (fv 0) (aA (Dz T.n_tuple (tL (own := [("_law_k", 6)]) (t := (.nm 6)) rfl nd (fU (by rfl) T.n_range fI) (blkOk_by (own := [("_law_k", 6)]) (N := ["_law_deeds", "_law_origin", "_law_images", "_law_matrix", "_law_i", "_law_j", "_law_k"]) (by kernel_rfl)) (fun _ _ _ _ _ => (pg_name (i := 6) nd rfl (.inl rfl))) (fun _ _ _ _ _ => dO) (fun _ _ _ _ _ => (oF T.n_int (pS (bA hr.units) s_eq (fv 6) (fv 5)))))) aH))) fI)))
  (aF (bG (i := 3) nd rfl (.inl rfl) (cU (aA fI (aA fI (aA fI (aA fI (aA fI (aA fI (aA fI aH)))))))))
  (aF (kW (t := (.nm 4)) (passes_of rfl) rfl (fU (by rfl) T.n_range fI) (pg_name (i := 4) nd rfl (.inl rfl)) (fQ [4, 5] (aF (cM (gJ (fv 3) (bD (fv 1) (fv 4))))
  (aI (kW (t := (.nm 5)) (passes_of rfl) rfl (fU (by rfl) T.n_range fI) (pg_name (i := 5) nd rfl (.inl rfl)) (fQ [5] (aI (cM (gJ (fv 3) (cQ gU oM (bD (bD (fv 2) (fv 5)) (fv 4)) (bD (fv 1) (fv 4))))))))))))
  (aI (aU (tF (fv 3))))))))
theorem zM (T : Txt w K mg) : sX P w K mg base 2 "_law_any_command" ["_law_pool_here"] (spF K fY) :=
 kG (k := 1) T.f_L_any_command T.G_L_any_command zJ (Runs.plain (n := 2) (np := 1)) (fun _ _ _ _ _ _ us hl => match us, hl with | [_], _ => rfl) fun _ _ _ _ _ _ hr tk nd => by
  unfold kR;exact (aF (bG (i := 1) nd rfl (.inl rfl) (bJ (eR T) hr tk (aA (fv 0) (aA fI aH))))
  (aF (bE (aW (bA hr.units) s_eq (fv 1) fI) (aI (aU (bP (aA fS (aA (cQ gU oM (bJ (eR T) hr tk (aA (fv 0) (aA fI aH))) fI) aH))))) aS)
  (aF (bE (aW (bA hr.units) s_eq (fv 1) fI) (aI (aU (bP (aA fS (aA (cQ cG dP fI (bJ (eR T) hr tk (aA (fv 0) (aA fI aH)))) aH))))) aS)
  (aF (bE (aW (bA hr.units) s_eq (fv 1) fI) (aI (aU (bP (aA fS (aA (cQ gU oM (bJ (eR T) hr tk (aA (fv 0) (aA fI aH))) fI) aH))))) aS)
  (aF (bE (aW wD Gg (fv 1) fI) (aI (aU (bP (aA (bD (bP (aA fS (aA fS aH))) (cQ gU oM (fv 1) fI)) (aA (cQ gU oM (bJ (eR T) hr tk (aA (fv 0) (aA fI aH))) fI) (aA (cQ gU oM (bJ (eR T) hr tk (aA (fv 0) (aA fI aH))) fI) aH)))))) aS)
  (aI (aU (bP (aA (bD (bP (aA fS (aA fS (aA fS (aA fS aH))))) (cQ gU oM (fv 1) fI)) aH)))))))))
theorem FK (T : Txt w K mg) : sX P w K mg base 1 "_law_blocks" ["_law_statement"] (spF K sE) :=
 kG (k := 0) T.f_L_blocks T.G_L_blocks F0 (Runs.plain (n := 2) (np := 1)) (fun _ _ _ _ _ _ us hl => match us, hl with | [_], _ => rfl) fun _ _ _ _ _ _ hr tk nd => by
  unfold sV;exact (aF (bE (aW (bA hr.units) s_eq (bD (fv 0) fI) fS) (aI (aU (Bt T.n_list (bD (fv 0) fI)))) aS)
  (aI (aU (tL (own := [("_law_item", 1)]) (t := (.nm 1)) rfl nd (iS (uN (fv 0) (fD fI) iJ)) (blkOk_by (own := [("_law_item", 1)]) (N := ["_law_statement", "_law_item"]) (sc := defScope sC) (by decide +kernel)) (fun _ _ _ _ _ => (pg_name (i := 1) nd rfl (.inl rfl))) (fun _ _ _ _ _ => (Ic (eV (hY (T := "list") T.n_isinstance T.n_list (fv 1))))) (fun _ _ _ _ _ => (fv 1))))))
theorem JV (T : Txt w K mg) : sX P w K mg base 1 "_law_with" ["_law_statement", "_law_blocks_here"] (spF K xS) :=
 kG (k := 0) T.f_L_with T.G_L_with JK (Runs.plain (n := 2) (np := 2)) (fun _ _ _ _ _ _ us hl => match us, hl with | [_, _], _ => rfl) fun _ _ _ _ _ _ hr tk nd => by
  unfold yQ;exact (aF (bE (aW (bA hr.units) s_eq (bD (fv 0) fI) fS) (aI (aU (cQ cG dP (uN (fv 0) iJ (fD fI)) (bP (aA (fv 1) aH))))) aS)
  (aF (bE (aW (bA hr.units) s_eq (fG T.n_len (fv 1)) fI) (aI (aU (fv 0))) aS)
  (aI (aU (cQ cG dP (bP (aA (bD (fv 0) fI) aH)) (Dz T.n_tuple (fv 1)))))))
theorem Cp (T : Txt w K mg) : ∀ n, sX P w K mg base (1 + n + 1) "_law_copy" ["_law_block"] (spF K (rM n))
 | 0 => xP T.f_L_copy T.G_L_copy Cf (fun _ _ _ _ _ _ us hl => match us, hl with | [_], _ => rfl)
 | n + 1 => by
  have ih_L_copy := Cp T n;exact kG (k := 1 + n + 1) T.f_L_copy T.G_L_copy Cf (Runs.plain (n := 3) (np := 1)) (fun _ _ _ _ _ _ us hl => match us, hl with | [_], _ => rfl) fun _ _ _ _ _ _ hr tk nd => by
   unfold yW wL;exact (aI (aU (tL (own := [("_law_row", 1)]) (t := (.nm 1)) rfl nd (iS (fv 0)) (blkOk_by (own := [("_law_row", 1)]) (N := ["_law_block", "_law_row", "_law_inner"]) (sc := defScope xI) (by decide +kernel)) (fun _ _ _ _ _ => (pg_name (i := 1) nd rfl (.inl rfl))) (fun _ _ _ _ _ => dO) (fun _ _ _ _ _ => (bJ (JV T) hr takes0 (aA (fv 1) (aA (tL (own := [("_law_inner", 2)]) (t := (.nm 2)) rfl nd (iS (bJ (FK T) hr takes0 (aA (fv 1) aH) (by omega))) (blkOk_by (own := [("_law_inner", 2)]) (N := ["_law_block", "_law_row", "_law_inner"]) (by kernel_rfl)) (fun _ _ _ _ _ => (pg_name (i := 2) nd rfl (.inl rfl))) (fun _ _ _ _ _ => dO) (fun _ _ _ _ _ => (bJ ih_L_copy hr takes0 (aA (fv 2) aH) (by omega)))) aH)) (by omega))))))
theorem FJ (T : Txt w K mg) : sX P w K mg base 13 "_law_copies" ["_law_bodies"] (spF K pI) :=
 kG (k := 12) T.f_L_copies T.G_L_copies Ez (Runs.plain (n := 2) (np := 1)) (fun _ _ _ _ _ _ us hl => match us, hl with | [_], _ => rfl) fun _ _ _ _ _ _ hr tk nd => by
  unfold sU;exact (aI (aU (tL (own := [("_law_body", 1)]) (t := (.nm 1)) rfl nd (iS (fv 0)) (blkOk_by (own := [("_law_body", 1)]) (N := ["_law_bodies", "_law_body"]) (sc := defScope sA) (by decide +kernel)) (fun _ _ _ _ _ => (pg_name (i := 1) nd rfl (.inl rfl))) (fun _ _ _ _ _ => dO) (fun _ _ _ _ _ => (bJ (Cp T 10) hr takes0 (aA (fv 1) aH))))))
theorem vG (T : Txt w K mg) : ∀ n, sX P w K mg base (0 + n + 1) "_law_same" ["_law_one", "_law_other"] (spF K (lO n))
 | 0 => xP T.f_L_same T.G_L_same Ce (fun _ _ _ _ _ _ us hl => match us, hl with | [_, _], _ => rfl)
 | n + 1 => by
  have ih_L_same := vG T n;exact kG (k := 0 + n + 1) T.f_L_same T.G_L_same Ce (Runs.plain (n := 3) (np := 2)) (fun _ _ _ _ _ _ us hl => match us, hl with | [_, _], _ => rfl) fun _ _ _ _ _ _ hr tk nd => by
   unfold yR sO;exact (aF (bE (eV (Mh (T := "list") (U := "tuple") T.n_isinstance T.n_list T.n_tuple (fv 0))) (aF (bE (PW.pt (nV (aW (qS hr.units) CM (hY (T := "list") T.n_isinstance T.n_list (fv 0)) (hY (T := "list") T.n_isinstance T.n_list (fv 1))) (pw_or1 (aW (qS hr.units) CM (hY (T := "tuple") T.n_isinstance T.n_tuple (fv 0)) (hY (T := "tuple") T.n_isinstance T.n_tuple (fv 1)))))) (aI (aU fB)) aS)
  (aI (aU (kX (pS (bA hr.units) s_eq (fG T.n_len (fv 0)) (fG T.n_len (fv 1))) (pe_one (Mi T.n_all (tL (own := [("_law_k", 2)]) (t := (.nm 2)) rfl nd (fU (by rfl) T.n_range (fG T.n_len (fv 0))) (blkOk_by (own := [("_law_k", 2)]) (N := ["_law_one", "_law_other", "_law_k"]) (sc := defScope xG) (by decide +kernel)) (fun _ _ _ _ _ => (pg_name (i := 2) nd rfl (.inl rfl))) (fun _ _ _ _ _ => dO) (fun _ _ _ _ _ => (bJ ih_L_same hr takes0 (aA (bD (fv 0) (fv 2)) (aA (bD (fv 1) (fv 2)) aH)) (by omega)))))))))) aS)
  (aF (bE (PW.pt (nV (eV (Mh (T := "list") (U := "tuple") T.n_isinstance T.n_list T.n_tuple (fv 1))) (pw_or1 (aW (qS hr.units) CM (hY (T := "bool") T.n_isinstance T.n_bool (fv 0)) (hY (T := "bool") T.n_isinstance T.n_bool (fv 1)))))) (aI (aU fB)) aS)
  (aI (aU (kX (pS (bA hr.units) s_eq (hY (T := "int") T.n_isinstance T.n_int (fv 0)) (hY (T := "int") T.n_isinstance T.n_int (fv 1))) (pe_one (pS (bA hr.units) s_eq (fv 0) (fv 1))))))))
theorem law_fn (T : Txt w K mg) : ∃ fd, (∀ (s : Shared) (us : List Value), us.length = (["_law_script"] : List Str).length -> BindsTo s fd ⟨us, []⟩ ((["_law_script"] : List Str).zip us)) /\ ∀ base, FnG P w K mg base (L2.CX P w) 29 (He.ga K "law") fd ["_law_script"] (spF K m_law_k23) :=
 La (N := ["_law_script", "_law_pool_here", "_law_factor", "_law_saved", "_law_begin", "_law_things", "_law_ended", "_law_one", "_law_other", "_law_bodies", "_law_depth", "_law_bits", "_law_step", "_law_found", "_law_book", "_law_pens_here", "_law_passed", "_law_traced", "_law_k"]) T.f_law_k23 sc_law_k23 (Runs.cut (n := 19) (np := 1) (mb := rS)) (fun _ _ _ _ _ _ us hl => match us, hl with | [_], _ => rfl) fun base cdv A outer s H E hr hgd => by
  have nd : (["_law_script", "_law_pool_here", "_law_factor", "_law_saved", "_law_begin", "_law_things", "_law_ended", "_law_one", "_law_other", "_law_bodies", "_law_depth", "_law_bits", "_law_step", "_law_found", "_law_book", "_law_pens_here", "_law_passed", "_law_traced", "_law_k"] : List Str).Nodup := sc_law_k23.nd;have tk := takes_of (X := cxOf (L2.CX P w) P w K mg base ["_law_script", "_law_pool_here", "_law_factor", "_law_saved", "_law_begin", "_law_things", "_law_ended", "_law_one", "_law_other", "_law_bodies", "_law_depth", "_law_bits", "_law_step", "_law_found", "_law_book", "_law_pens_here", "_law_passed", "_law_traced", "_law_k"] "law" (defScope rG) (He.ga K "law") cdv A outer s H E) (E := E) rfl rfl rfl rfl;unfold rS lD tU tV tW kZ;exact (aF (bG (i := 1) nd rfl (.inr rfl) (bJ (JX T) hr tk (aA (fv 0) aH)))
  (aF (bG (i := 2) nd rfl (.inl rfl) (cQ cG dP fI (bJ (eR T) hr tk (aA (fv 1) (aA fI aH)))))
  (aF (bG (i := 3) nd rfl (.inl rfl) (cU (aA (pS (bA hr.units) s_eq (bJ (eR T) hr tk (aA (fv 1) (aA fI aH))) fI) (aA (pS (bA hr.units) s_eq (bJ (eR T) hr tk (aA (fv 1) (aA fI aH))) fI) aH))))
  (aF (bG (i := 4) nd rfl (.inl rfl) (bJ (LC T) hr tk (aA (fv 1) aH)))
  (aF (uK (i := 5) (own := [("_law_k", 18)]) (t := (.nm 18)) rfl nd rfl rfl (sw_true rfl rfl rfl (by decide +kernel)) (fU (by rfl) T.n_range fI) (blkOk_by (own := [("_law_k", 18)]) (N := ["_law_script", "_law_pool_here", "_law_factor", "_law_saved", "_law_begin", "_law_things", "_law_ended", "_law_one", "_law_other", "_law_bodies", "_law_depth", "_law_bits", "_law_step", "_law_found", "_law_book", "_law_pens_here", "_law_passed", "_law_traced", "_law_k"]) (sc := defScope rG) (by decide +kernel)) (fun _ _ _ _ _ => (pg_name (i := 18) nd rfl (.inl rfl))) (fun _ _ _ _ _ => dO) (fun _ _ _ _ _ => (bJ (zM T) hr takes0 (aA (fv 1) aH))))
  (aF (bG (i := 6) nd rfl (.inl rfl) (bJ (eR T) hr tk (aA (fv 1) (aA fI aH))))
  (aF (bG (i := 7) nd rfl (.inl rfl) (cU (aA (bD (fv 5) fI) (aA (bP (aA fS (aA fI (aA (bD (fv 3) fI) (aA (cU (aA (cU (aA (bD (fv 5) fI) aH)) (aA (cU (aA (bD (fv 5) fI) aH)) aH))) aH))))) (aA (bP (aA fS (aA (fv 6) aH))) aH)))))
  (aF (bG (i := 8) nd rfl (.inl rfl) (cU (aA (bD (fv 5) fI) (aA (bP (aA fS (aA fI (aA (bD (fv 3) fI) (aA (cU (aA (cU aH) (aA (cU (aA (bD (fv 5) fI) aH)) aH))) aH))))) (aA (bD (fv 5) fI) aH)))))
  (aF (bG (i := 9) nd rfl (.inl rfl) (cU (aA (cU (aA (bP (aA fS (aA (cU aH) (aA (cU (aA (bP (aA fS (aA (fv 7) (aA (fv 8) aH)))) aH)) aH)))) aH)) aH)))
  (aF (bG (i := 10) nd rfl (.inl rfl) (SN T.n_min fI (cQ eQ lA (fv 2) (cQ gU oM (fG T.n_len (fv 1)) fI))))
  (aF (bG (i := 11) nd rfl (.inl rfl) (cU aH))
  (aF (kW (t := (.nm 12)) (passes_of rfl) rfl (fU (by rfl) T.n_range (fv 10)) (pg_name (i := 12) nd rfl (.inl rfl)) (fQ [12] (aI (bG (i := 11) nd rfl (.inl rfl) (cQ cG dP (fv 11) (cU (aA fI (aA (bJ (eR T) hr tk (aA (fv 1) (aA fI aH))) aH))))))))
  (aF (bG (i := 11) nd rfl (.inl rfl) (cQ cG dP (fv 11) (cU (aA fI aH))))
  (aF (bG (i := 13) nd rfl (.inl rfl) (E9 (LB T) hr hgd tk (aA (fv 9) (aA fI (aA (fv 11) (aA fI aH))))))
  (aF (bE (aW (qS hr.units) CM (bD (fv 13) fI) fS) (aI (aU fB)) aS)
  (aF (bG (i := 14) nd rfl (.inl rfl) (Mg T.T_Book (Dk T) hr tk (aA (bJ (FJ T) hr tk (aA (fv 9) aH)) aH)))
  (aF (bG (i := 15) nd rfl (.inl rfl) (bJ (zL T) hr tk (aA (bD (fv 13) fI) (aA (fv 4) aH))))
  (aF (bE (hJ (eV (bJ (vG T 20) hr tk (aA (P7 (Qu T) hr tk (aA (fv 14) (aA fI (aA (Bt T.n_list (fv 11)) aH))) (fv 4)) (aA (bP (aA (bD (fv 13) fI) (aA (bD (fv 15) fI) (aA (fG T.n_len (bD (fv 15) fI)) aH)))) aH))))) (aI (aU fB)) aS)
  (aF (bE (hJ (eV (bJ (vG T 20) hr tk (aA (bJ (CO T) hr tk (aA (fv 14) (aA fI (aA (Bt T.n_list (fv 11)) aH)))) (aA (bP (aA (bD (fv 13) fI) (aA (bJ (Gp T) hr tk (aA (bD (fv 13) fI) aH)) (aA (fG T.n_len (bD (fv 15) fI)) aH)))) aH))))) (aI (aU fB)) aS)
  (aF (bG (i := 16) nd rfl (.inl rfl) (Bt T.n_list (fv 11)))
  (aF (bG (i := 17) nd rfl (.inl rfl) (P5 T.n_list (L9 T) hr (aA (fv 14) (aA fI (aA (fv 16) aH))) (fv 4)))
  (aI (aU (kX (bJ (vG T 20) hr tk (aA (fv 17) (aA (bD (fv 15) fI) aH))) (pe_one (pS (bA hr.units) s_eq (fv 16) (fv 11)))))))))))))))))))))))))))
end
theorem Jz {K : aD} (h : ex K = true) (i : Nat) {b : Bool} (e : (exs K)[i]? = some b := by rfl) : b = true := cF.mp h b (bI e)
theorem ob_eq (s : B4) : ob s = hk.obs s.abs := O2 (HandSHeadRun.getT_eq s)
theorem txt {w : World} {K : aD} {h : Heap} {mg : Str -> Option Value} (X : K.In h) (G : h.Ns mainGlobals mg) (c : He.SaysT fa fn ts w K /\ ex K = true) : Txt w K mg where
  n_isinstance := He.free_ok X G (c.1.d.fact 0 (f := .free "isinstance") rfl)
  n_int := He.free_ok X G (c.1.d.fact 1 (f := .free "int") rfl)
  n_bool := He.free_ok X G (c.1.d.fact 2 (f := .free "bool") rfl)
  n_tuple := He.free_ok X G (c.1.d.fact 3 (f := .free "tuple") rfl)
  n_len := He.free_ok X G (c.1.d.fact 4 (f := .free "len") rfl)
  n_all := He.free_ok X G (c.1.d.fact 5 (f := .free "all") rfl)
  n_str := He.free_ok X G (c.1.d.fact 6 (f := .free "str") rfl)
  lim := RD (Jz c.2 0) (KD c.1 0 (t := Gz) rfl)
  k_LIMITS := c.1.tab 0 (t := Gz) rfl
  g_LIMITS := He.glo_ok X G (c.1.d.fact 7 (f := .glo "LIMITS") rfl)
  n_range := He.free_ok X G (c.1.d.fact 8 (f := .free "range") rfl)
  i_DEEPEST := He.int_ok X G (c.1.d.fact 9 (f := .int "DEEPEST" 3) rfl)
  n_list := He.free_ok X G (c.1.d.fact 10 (f := .free "list") rfl)
  n_enumerate := He.free_ok X G (c.1.d.fact 11 (f := .free "enumerate") rfl)
  i_MOST_IN_LIST := He.int_ok X G (c.1.d.fact 12 (f := .int "MOST_IN_LIST" 8) rfl)
  i_MOST_IN_PROCEDURE := He.int_ok X G (c.1.d.fact 13 (f := .int "MOST_IN_PROCEDURE" 12) rfl)
  i_MOST_PROCEDURES := He.int_ok X G (c.1.d.fact 14 (f := .int "MOST_PROCEDURES" 3) rfl)
  xa_NoBook := KO (Jz c.2 1) (He.glo_ok X G (c.1.d.fact 15 (f := .glo "NoBook") rfl))
  fx_NoBook := c.1.d.def_ 0 (d := C0) rfl
  c_Book := He.cls_ok (c.1.d.fact 16 (f := .cls "Book") rfl)
  a_Book_own := He.noat_ok (c.1.d.fact 17 (f := .noat "Book" "own") rfl)
  x_NoCommand := GX (Jz c.2 2) (He.glo_ok X G (c.1.d.fact 18 (f := .glo "NoCommand") rfl))
  n_zip := He.free_ok X G (c.1.d.fact 19 (f := .free "zip") rfl)
  c_Execution := He.cls_ok (c.1.d.fact 20 (f := .cls "Execution") rfl)
  a_Execution_own := He.noat_ok (c.1.d.fact 21 (f := .noat "Execution" "own") rfl)
  a_Execution_bits := He.noat_ok (c.1.d.fact 22 (f := .noat "Execution" "bits") rfl)
  a_Execution_taken := He.noat_ok (c.1.d.fact 23 (f := .noat "Execution" "taken") rfl)
  a_Execution_deeds := He.noat_ok (c.1.d.fact 24 (f := .noat "Execution" "deeds") rfl)
  a_Execution_stack := He.noat_ok (c.1.d.fact 25 (f := .noat "Execution" "stack") rfl)
  a_Execution_active := He.noat_ok (c.1.d.fact 26 (f := .noat "Execution" "active") rfl)
  a_Execution_ended := He.noat_ok (c.1.d.fact 27 (f := .noat "Execution" "ended") rfl)
  xa_NoRun := KO (Jz c.2 3) (He.glo_ok X G (c.1.d.fact 28 (f := .glo "NoRun") rfl))
  fx_NoRun := c.1.d.def_ 1 (d := DE) rfl
  x_NoProcedure := GX (Jz c.2 4) (He.glo_ok X G (c.1.d.fact 29 (f := .glo "NoProcedure") rfl))
  T_Execution := ⟨He.cls_ok (c.1.d.fact 30 (f := .cls "Execution") rfl), He.mkr_ok (c.1.d.fact 31 (f := .mkr "Execution") rfl), He.glo_ok X G (c.1.d.fact 32 (f := .glo "Execution") rfl)⟩
  x_NoPen := GX (Jz c.2 5) (He.glo_ok X G (c.1.d.fact 33 (f := .glo "NoPen") rfl))
  n_min := He.free_ok X G (c.1.d.fact 34 (f := .free "min") rfl)
  T_Book := ⟨He.cls_ok (c.1.d.fact 35 (f := .cls "Book") rfl), He.mkr_ok (c.1.d.fact 36 (f := .mkr "Book") rfl), He.glo_ok X G (c.1.d.fact 37 (f := .glo "Book") rfl)⟩
  G_is_integer := He.glo_ok X G (c.1.d.fact 38 (f := .glo "is_integer") rfl)
  f_is_integer := c.1.d.def_ 2 (d := vS) rfl
  G_is_bit := He.glo_ok X G (c.1.d.fact 39 (f := .glo "is_bit") rfl)
  f_is_bit := c.1.d.def_ 3 (d := DG) rfl
  G_is_pen := He.glo_ok X G (c.1.d.fact 40 (f := .glo "is_pen") rfl)
  f_is_pen := c.1.d.def_ 4 (d := DF) rfl
  G_is_command := He.glo_ok X G (c.1.d.fact 41 (f := .glo "is_command") rfl)
  f_is_command := c.1.d.def_ 5 (d := vT) rfl
  G_executed := He.glo_ok X G (c.1.d.fact 42 (f := .glo "executed") rfl)
  f_executed := c.1.d.def_ 6 (d := AM) rfl
  G_blocks_of := He.glo_ok X G (c.1.d.fact 43 (f := .glo "blocks_of") rfl)
  f_blocks_of := c.1.d.def_ 7 (d := yK) rfl
  G_with_blocks := He.glo_ok X G (c.1.d.fact 44 (f := .glo "with_blocks") rfl)
  f_with_blocks := c.1.d.def_ 8 (d := uR) rfl
  G_copied_block := He.glo_ok X G (c.1.d.fact 45 (f := .glo "copied_block") rfl)
  f_copied_block := c.1.d.def_ 9 (d := tH) rfl
  G_copied_statement := He.glo_ok X G (c.1.d.fact 46 (f := .glo "copied_statement") rfl)
  f_copied_statement := c.1.d.def_ 10 (d := oN) rfl
  G_well_formed := He.glo_ok X G (c.1.d.fact 47 (f := .glo "well_formed") rfl)
  f_well_formed := c.1.d.def_ 11 (d := uS) rfl
  G_first_fault := He.glo_ok X G (c.1.d.fact 48 (f := .glo "first_fault") rfl)
  f_first_fault := c.1.d.def_ 12 (d := uV) rfl
  M_Book_init := He.meth_ok (c.1.d.fact 49 (f := .meth "Book" "__init__") rfl)
  f_Book_init := c.1.d.def_ 13 (d := yL) rfl
  M_Book_len := He.meth_ok (c.1.d.fact 50 (f := .meth "Book" "__len__") rfl)
  f_Book_len := c.1.d.def_ 14 (d := AS) rfl
  M_Book_bodies := He.meth_ok (c.1.d.fact 51 (f := .meth "Book" "bodies") rfl)
  f_Book_bodies := c.1.d.def_ 15 (d := uW) rfl
  G_has_procedure := He.glo_ok X G (c.1.d.fact 52 (f := .glo "has_procedure") rfl)
  f_has_procedure := c.1.d.def_ 16 (d := rP) rfl
  G_identity := He.glo_ok X G (c.1.d.fact 53 (f := .glo "identity") rfl)
  f_identity := c.1.d.def_ 17 (d := AL) rfl
  G_matrix_of := He.glo_ok X G (c.1.d.fact 54 (f := .glo "matrix_of") rfl)
  f_matrix_of := c.1.d.def_ 18 (d := yJ) rfl
  G_composed := He.glo_ok X G (c.1.d.fact 55 (f := .glo "composed") rfl)
  f_composed := c.1.d.def_ 19 (d := AN) rfl
  G_kept_matrix := He.glo_ok X G (c.1.d.fact 56 (f := .glo "kept_matrix") rfl)
  f_kept_matrix := c.1.d.def_ 20 (d := uU) rfl
  M_Execution_init := He.meth_ok (c.1.d.fact 57 (f := .meth "Execution" "__init__") rfl)
  f_Execution_init := c.1.d.def_ 21 (d := qH) rfl
  M_Execution_take := He.meth_ok (c.1.d.fact 58 (f := .meth "Execution" "take") rfl)
  f_Execution_take := c.1.d.def_ 22 (d := qF) rfl
  M_Execution_enter := He.meth_ok (c.1.d.fact 59 (f := .meth "Execution" "enter") rfl)
  f_Execution_enter := c.1.d.def_ 23 (d := pV) rfl
  M_Execution_leave := He.meth_ok (c.1.d.fact 60 (f := .meth "Execution" "leave") rfl)
  f_Execution_leave := c.1.d.def_ 24 (d := pU) rfl
  M_Execution_unwind := He.meth_ok (c.1.d.fact 61 (f := .meth "Execution" "unwind") rfl)
  f_Execution_unwind := c.1.d.def_ 25 (d := oO) rfl
  M_Execution_begin := He.meth_ok (c.1.d.fact 62 (f := .meth "Execution" "begin") rfl)
  f_Execution_begin := c.1.d.def_ 26 (d := pW) rfl
  M_Execution_step := He.meth_ok (c.1.d.fact 63 (f := .meth "Execution" "step") rfl)
  f_Execution_step := c.1.d.def_ 27 (d := qG) rfl
  G_executed_run := He.glo_ok X G (c.1.d.fact 64 (f := .glo "executed_run") rfl)
  f_executed_run := c.1.d.def_ 28 (d := tG) rfl
  G_pens_behind := He.glo_ok X G (c.1.d.fact 65 (f := .glo "pens_behind") rfl)
  f_pens_behind := c.1.d.def_ 29 (d := uT) rfl
  G_ran := He.glo_ok X G (c.1.d.fact 66 (f := .glo "ran") rfl)
  f_ran := c.1.d.def_ 30 (d := Mu) rfl
  G_trace := He.glo_ok X G (c.1.d.fact 67 (f := .glo "trace") rfl)
  f_trace := c.1.d.def_ 31 (d := G7) rfl
  G_run_matrix := He.glo_ok X G (c.1.d.fact 68 (f := .glo "run_matrix") rfl)
  f_run_matrix := c.1.d.def_ 32 (d := vR) rfl
  G_L_pool := He.glo_ok X G (c.1.d.fact 69 (f := .glo "_law_pool") rfl)
  f_L_pool := c.1.d.def_ 33 (d := DK) rfl
  G_L_draw := He.glo_ok X G (c.1.d.fact 70 (f := .glo "_law_draw") rfl)
  f_L_draw := c.1.d.def_ 34 (d := DN) rfl
  G_L_number := He.glo_ok X G (c.1.d.fact 71 (f := .glo "_law_number") rfl)
  f_L_number := c.1.d.def_ 35 (d := AO) rfl
  G_L_pen := He.glo_ok X G (c.1.d.fact 72 (f := .glo "_law_pen") rfl)
  f_L_pen := c.1.d.def_ 36 (d := G9) rfl
  G_L_move := He.glo_ok X G (c.1.d.fact 73 (f := .glo "_law_move") rfl)
  f_L_move := c.1.d.def_ 37 (d := DM) rfl
  G_L_bit := He.glo_ok X G (c.1.d.fact 74 (f := .glo "_law_bit") rfl)
  f_L_bit := c.1.d.def_ 38 (d := GA) rfl
  G_L_task := He.glo_ok X G (c.1.d.fact 75 (f := .glo "_law_task") rfl)
  f_L_task := c.1.d.def_ 39 (d := DI) rfl
  G_L_run := He.glo_ok X G (c.1.d.fact 76 (f := .glo "_law_run") rfl)
  f_L_run := c.1.d.def_ 40 (d := G8) rfl
  G_L_pens := He.glo_ok X G (c.1.d.fact 77 (f := .glo "_law_pens") rfl)
  f_L_pens := c.1.d.def_ 41 (d := DL) rfl
  G_L_probe := He.glo_ok X G (c.1.d.fact 78 (f := .glo "_law_probe") rfl)
  f_L_probe := c.1.d.def_ 42 (d := C3) rfl
  G_L_any_command := He.glo_ok X G (c.1.d.fact 79 (f := .glo "_law_any_command") rfl)
  f_L_any_command := c.1.d.def_ 43 (d := rQ) rfl
  G_L_blocks := He.glo_ok X G (c.1.d.fact 80 (f := .glo "_law_blocks") rfl)
  f_L_blocks := c.1.d.def_ 44 (d := AR) rfl
  G_L_with := He.glo_ok X G (c.1.d.fact 81 (f := .glo "_law_with") rfl)
  f_L_with := c.1.d.def_ 45 (d := DH) rfl
  G_L_copy := He.glo_ok X G (c.1.d.fact 82 (f := .glo "_law_copy") rfl)
  f_L_copy := c.1.d.def_ 46 (d := DO) rfl
  G_L_copies := He.glo_ok X G (c.1.d.fact 83 (f := .glo "_law_copies") rfl)
  f_L_copies := c.1.d.def_ 47 (d := AQ) rfl
  G_L_same := He.glo_ok X G (c.1.d.fact 84 (f := .glo "_law_same") rfl)
  f_L_same := c.1.d.def_ 48 (d := DJ) rfl
  G_law_k23 := He.glo_ok X G (c.1.d.fact 85 (f := .glo "law") rfl)
  f_law_k23 := c.1.d.def_ 49 (d := C1) rfl
end PHZ
namespace PH
open PySem PySem.Spec PyProof.Rows L2
theorem atI0 {α : Type} {x : α} {r : List α} : atI (x :: r) 0 = some x := gM (n := 0) rfl
theorem atI1 {α : Type} {x y : α} {r : List α} : atI (x :: y :: r) 1 = some y := gM (n := 1) rfl
theorem atI2 {α : Type} {x y z : α} {r : List α} : atI (x :: y :: z :: r) 2 = some z := gM (n := 2) rfl
theorem atI3 {α : Type} {x y z w : α} {r : List α} : atI (x :: y :: z :: w :: r) 3 = some w := gM (n := 3) rfl
theorem cK {x : D} {r : List D} {S : aQ} : bR (.dat (.tup (x :: r))) (.dat (.int 0)) S = .ok (.dat x) S := D7 atI0
theorem eM {x y : D} {r : List D} {S : aQ} : bR (.dat (.tup (x :: y :: r))) (.dat (.int 1)) S = .ok (.dat y) S := D7 atI1
theorem kL {x y z : D} {r : List D} {S : aQ} : bR (.dat (.tup (x :: y :: z :: r))) (.dat (.int 2)) S = .ok (.dat z) S := D7 atI2
theorem Ji {x y z w : D} {r : List D} {S : aQ} : bR (.dat (.tup (x :: y :: z :: w :: r))) (.dat (.int 3)) S = .ok (.dat w) S := D7 atI3
theorem zU {x : D} {r : List D} {S : aQ} : bR (.dat (.lst (x :: r))) (.dat (.int 0)) S = .ok (.dat x) S := tD atI0
theorem AZ {x y : D} {r : List D} {S : aQ} : bR (.dat (.lst (x :: y :: r))) (.dat (.int 1)) S = .ok (.dat y) S := tD atI1
def PoolAt (S : aQ) (p : Nat) (ks : List Int) : Prop := S[p]? = some (.lst (ks.map D.int)) /\ 2 <= ks.length
theorem M0 {S : aQ} {p : Nat} {ks : List Int} {k : Int} {n : Nat} {u : Int} (h : S[p]? = some (.lst (ks.map D.int))) (hk : k = (n : Int)) (hu : ks[n]? = some u) : M3 (.cel p) k S = some (.int u) := by
 subst hk;simp only [M3, h];rw [if_pos (by omega)]
 simp [hu]
theorem Et {S : aQ} {p : Nat} {ks : List Int} {k : Int} {n : Nat} {u : Int} (h : S[p]? = some (.lst (ks.map D.int))) (hk : k = (n : Int)) (hu : n < ks.length) : setC (.cel p) k (.int u) S = some (S.set p (.lst ((ks.set n u).map D.int))) := by
 subst hk;simp only [setC, h];rw [if_pos ⟨by omega, by simpa using hu⟩]
 simp [List.map_set]
theorem GG {g : Int -> Int -> Int} {o i e : FE} {ρ : Ev} {S : aQ} {p n : Nat} {k u w : Int} {ks : List Int} (ho : o ρ S = .ok (.cel p) S) (hi : i ρ S = .ok (.dat (.int k)) S) (he : e ρ S = .ok (.dat (.int w)) S) (h : S[p]? = some (.lst (ks.map D.int))) (hk : k = (n : Int)) (hu : ks[n]? = some u) :
  AD g o i e ρ S = .next ρ (S.set p (.lst ((ks.set n (g u w)).map D.int))) := by
 simp only [AD, ho, hi, he, lW, M0 h hk hu, Et h hk (aG.mp hu).1]
theorem sI {S : aQ} {p : Nat} {ks : List Int} {k : Int} {n : Nat} {u : Int} (h : S[p]? = some (.lst (ks.map D.int))) (hk : k = (n : Int)) (hu : ks[n]? = some u) : bR (.cel p) (.dat (.int k)) S = .ok (.dat (.int u)) S :=
 MR h (by rw [gM hk]; simp [hu])
theorem Gb {S : aQ} {p : Nat} {c d : Cell} (h : S[p]? = some c) : (S.set p d)[p]? = some d := by
 rw [aV, if_pos rfl, if_pos (aG.mp h).1]
theorem pw18 {S : aQ} : Jy (.dat (.int 10)) (.dat (.int 18)) S = .ok (.dat (.int 1000000000000000000)) S := rfl
theorem dw1 (a : Int) : IntMulOk 7919 a := mulL (by decide) (by decide)
theorem dw2 (a : Int) : IntMulOk a 48271 := mulR (by decide) (by decide)
theorem dw3 (a : Int) : CDiv a 1009 := ⟨by decide, by decide⟩
theorem dw4 (a : Int) : CDiv a 2003 := ⟨by decide, by decide⟩
theorem dw5 (a : Int) : CDiv a 11 := ⟨by decide, by decide⟩
theorem dw6 (a b : Int) : IntMulOk (a % 2147483647) b := by
 have h1 : 0 <= a % 2147483647 := gT _ (by decide)
 have h2 : a % 2147483647 < 2147483647 := jC _ (by decide)
 generalize a % 2147483647 = x at h1 h2;exact mulL (by omega) (by omega)
theorem dw7 : (0 : Int) < 2147483647 := by decide
theorem dw8 : (0 : Int) < 2147483399 := by decide
theorem dw9 {a k : Int} {ks : List Int} {S S1 : aQ} {p : Nat} {u : Int} (h0 : 0 < k) (hS1 : S.set p (.lst ((ks.set 0 (u + 1)).map D.int)) = S1) : ∃ (d : Int) (ks' : List Int), cL (Out.ret (.dat (.int (a % k))) S1) = .ok (.dat (.int d)) (S.set p (.lst (ks'.map D.int))) /\ 0 <= d /\ d < k /\ ks'.length = ks.length :=
 ⟨a % k, ks.set 0 (u + 1), by rw [hS1]; rfl, gT _ (by omega), jC _ h0, by simp⟩
theorem jP {S : aQ} {p : Nat} {ks : List Int} {k : Int} (hP : PoolAt S p ks) (h0 : 0 < k) (h1 : k < 1073741824) :
  ∃ (d : Int) (ks' : List Int), dE [.cel p, .dat (.int k)] S = .ok (.dat (.int d)) (S.set p (.lst (ks'.map D.int))) /\ 0 <= d /\ d < k /\ ks'.length = ks.length := by
 obtain ⟨hp, hl⟩ := hP;obtain ⟨u, hu⟩ : ∃ u, ks[0]? = some u := ⟨ks[0], by simp [show 0 < ks.length by omega]⟩
 have hp1 := Gb (d := .lst ((ks.set 0 (u + 1)).map D.int)) hp;have hn : (1 : Int) + (u + 1) % ((ks.length : Int) - 1) = ((1 + ((u + 1) % ((ks.length : Int) - 1)).toNat : Nat) : Int) := by
  have := gT (u + 1) (show ((ks.length : Int) - 1) ≠ 0 by omega)
  omega
 have hlt : 1 + ((u + 1) % ((ks.length : Int) - 1)).toNat < ks.length := by
  have := jC (u + 1) (show 0 < ((ks.length : Int) - 1) by omega)
  have := gT (u + 1) (show ((ks.length : Int) - 1) ≠ 0 by omega)
  omega
 generalize hj : 1 + ((u + 1) % ((ks.length : Int) - 1)).toNat = j at hn hlt;obtain ⟨c, hc⟩ : ∃ c, (ks.set 0 (u + 1))[j]? = some c := ⟨(ks.set 0 (u + 1))[j]'(by simpa using hlt), by simp [hlt]⟩
 have h00 : (ks.set 0 (u + 1))[0]? = some (u + 1) := by
  rw [aV, if_pos rfl, if_pos (by omega)]
 have e1 : (AD (fun x y => x + y) (aC 0) (mC (.int 0)) (mC (.int 1))) [some (.cel p), some (.dat (.int k)), none, none, none] S = .next [some (.cel p), some (.dat (.int k)), none, none, none] (S.set p (.lst ((ks.set 0 (u + 1)).map D.int))) := GG rfl rfl rfl hp rfl hu
 have eE : dE [.cel p, .dat (.int k)] S = cL (yV [some (.cel p), some (.dat (.int k)), none, none, none] S) := rfl;rw [eE];unfold yV;generalize hS1 : S.set p (.lst ((ks.set 0 (u + 1)).map D.int)) = S1 at e1 hp1;simp! [e1, sI (k := 0) (n := 0) hp1 rfl h00, pO hp1, aN, List.length_set, pN (show (0 : Int) < (ks.length : Int) - 1 by omega), hn, sI hp1 rfl hc, pw18]
 by_cases hbig : (1000000000000000000 : Int) <= c
 ·rw [decide_eq_true hbig]
  simp! [if_true];have e2 : II (aR AJ (aC 3) (aC 1)) (aC 0) (aC 2) [some (.cel p), some (.dat (.int k)), some (.dat (.int (j : Int))), some (.dat (.int c)), none] S1 = .next [some (.cel p), some (.dat (.int k)), some (.dat (.int (j : Int))), some (.dat (.int c)), none] (S1.set p (.lst (((ks.set 0 (u + 1)).set j (c / k)).map D.int))) := by
   unfold II;simp! [Ar (show CDiv c k from ⟨h0, h1⟩), Et (u := c / k) hp1 (rfl : (j : Int) = (j : Int)) (by simpa using hlt)]
  simp! [e2, pN h0];refine ⟨c % k, (ks.set 0 (u + 1)).set j (c / k), ?_, gT c (by omega), jC c h0, by simp⟩
  rw [<- hS1, iT];rfl
 ·rw [decide_eq_false hbig]
  simp! [sI (k := 0) (n := 0) hp1 rfl h00, lX (dw1 _), lX (dw2 _), pN dw7, pN dw8, Ar (dw3 _), Ar (dw4 _), Ar (dw5 _), lX (dw6 _ _), pN h0];exact dw9 h0 hS1
inductive Cmd where
 | go (k : Int) | turn (n : Int) | mirror | scale (k : Int) | aim (a b : Int) | place (a b : Int) | mark | ret | exch
def Cmd.d : Cmd -> D
 | .go k => .tup [.str "go", .int k]
 | .turn k => .tup [.str "turn", .int k]
 | .mirror => .tup [.str "mirror"]
 | .scale k => .tup [.str "scale", .int k]
 | .aim a b => .tup [.str "aim", .int a, .int b]
 | .place a b => .tup [.str "place", .int a, .int b]
 | .mark => .tup [.str "mark"]
 | .ret => .tup [.str "return"]
 | .exch => .tup [.str "exchange"]
def Cmd.Ok : Cmd -> Prop
 | .go k => -9 <= k /\ k <= 9
 | .turn k => 1 <= k /\ k <= 3
 | .scale k => -3 <= k /\ k <= 3
 | .aim a b => (-9 <= a /\ a <= 9) /\ -9 <= b /\ b <= 9
 | .place a b => (-9 <= a /\ a <= 9) /\ -9 <= b /\ b <= 9
 | _ => True
abbrev PL (ks : List Int) : Cell := .lst (ks.map D.int)
theorem PoolAt.next {S : aQ} {p : Nat} {ks ks' : List Int} (h : PoolAt S p ks) (l : ks'.length = ks.length) : PoolAt (S.set p (PL ks')) p ks' := ⟨Gb h.1, by rw [l]; exact h.2⟩
theorem Hb {S : aQ} {p : Nat} {ks : List Int} (hP : PoolAt S p ks) : ∃ (c : Cmd) (ks' : List Int), fY [.cel p] S = .ok (.dat c.d) (S.set p (PL ks')) /\ c.Ok /\ ks'.length = ks.length := by
 obtain ⟨d, k1, e1, h0, h1, l1⟩ := jP hP (k := 9) (by decide) (by decide)
 have P1 := hP.next l1;have eE : fY [.cel p] S = cL (kR [some (.cel p), none] S) := rfl;rw [eE];unfold kR;simp! [e1];obtain ⟨d2, k2, e2, h2, h3, l2⟩ := jP P1 (k := 19) (by decide) (by decide)
 obtain ⟨d3, k3, e3, h4, h5, l3⟩ := jP P1 (k := 3) (by decide) (by decide)
 obtain ⟨d4, k4, e4, h6, h7, l4⟩ := jP P1 (k := 7) (by decide) (by decide)
 obtain ⟨d5, k5, e5, h8, h9, l5⟩ := jP (P1.next l2) (k := 19) (by decide) (by decide)
 simp only [iT] at e2 e3 e4 e5;rcases (by omega : d = 0 \/ d = 1 \/ d = 2 \/ d = 3 \/ d = 4 \/ d = 5 \/ d = 6 \/ d = 7 \/ d = 8) with rfl | rfl | rfl | rfl | rfl | rfl | rfl | rfl | rfl
 ·simp! [e2]
  exact ⟨.go (d2 - 9), k2, rfl, ⟨by omega, by omega⟩, by omega⟩
 ·simp! [e3]
  exact ⟨.turn (1 + d3), k3, rfl, ⟨by omega, by omega⟩, by omega⟩
 ·simp! [e4]
  exact ⟨.scale (d4 - 3), k4, rfl, ⟨by omega, by omega⟩, by omega⟩
 ·simp! [cK, e2, e5]
  exact ⟨.aim (d2 - 9) (d5 - 9), k5, rfl, ⟨⟨by omega, by omega⟩, by omega, by omega⟩, by omega⟩
 ·simp! [eM, e2, e5]
  exact ⟨.place (d2 - 9) (d5 - 9), k5, rfl, ⟨⟨by omega, by omega⟩, by omega, by omega⟩, by omega⟩
 ·simp! [cK]
  exact ⟨.mirror, k1, rfl, trivial, l1⟩
 ·simp! [eM]
  exact ⟨.mark, k1, rfl, trivial, l1⟩
 ·simp! [kL]
  exact ⟨.ret, k1, rfl, trivial, l1⟩
 ·simp! [Ji]
  exact ⟨.exch, k1, rfl, trivial, l1⟩
inductive Stt where
 | cmd (c : Cmd) | fin (w : Int) | keep (b : List Stt) | again (b : List Stt) | either (a b : List Stt) | call (g : Int) (s : Bool) (a b : List Stt) | bad | odd (x : D)
mutual
def Stt.d : Stt -> D
 | .cmd c => c.d
 | .fin w => .tup [.str "end", .int w]
 | .keep b => .tup [.str "keep", .lst (cD b)]
 | .again b => .tup [.str "again", .lst (cD b)]
 | .either a b => .tup [.str "either", .lst (cD a), .lst (cD b)]
 | .call g s a b => .tup [.str "call", .int g, .bl s, .lst [.lst (cD a), .lst (cD b)]]
 | .bad => .tup [.str "bad"]
 | .odd x => x
def cD : List Stt -> List D
 | [] => []
 | s :: r => s.d :: cD r
end
mutual
/-- of a depth of n at most; calls of the first many -/
def Stt.Ok (many : Int) : Stt -> Nat -> Prop
 | .cmd c, _ => c.Ok
 | .fin w, _ => 0 <= w /\ w <= 1
 | .keep b, n => 0 < n /\ OkL many b (n - 1)
 | .again b, n => 0 < n /\ OkL many b (n - 1)
 | .either a b, n => 0 < n /\ OkL many a (n - 1) /\ OkL many b (n - 1)
 | .call g _ a b, n => (0 < n /\ 0 <= g /\ g < many) /\ OkL many a (n - 1) /\ OkL many b (n - 1)
 | .bad, _ => True
 | .odd _, _ => False
def OkL (many : Int) : List Stt -> Nat -> Prop
 | [], _ => True
 | s :: r, n => (s.Ok many n /\ r.length < 10) /\ OkL many r n
end
def WfNo (many : Int) (x : D) : Prop := ∀ (lv : Int) (S : aQ), kH [.dat x, .dat (.int lv), .dat (.int many)] S = .ok (.dat (.bl false)) S
mutual
/-- the same; values that are no statements may stand in it -/
def Stt.Okx (many : Int) : Stt -> Nat -> Prop
 | .cmd c, _ => c.Ok
 | .fin w, _ => 0 <= w /\ w <= 1
 | .keep b, n => 0 < n /\ Aa many b (n - 1)
 | .again b, n => 0 < n /\ Aa many b (n - 1)
 | .either a b, n => 0 < n /\ Aa many a (n - 1) /\ Aa many b (n - 1)
 | .call g _ a b, n => (0 < n /\ 0 <= g /\ g < many) /\ Aa many a (n - 1) /\ Aa many b (n - 1)
 | .bad, _ => True
 | .odd x, _ => WfNo many x
def Aa (many : Int) : List Stt -> Nat -> Prop
 | [], _ => True
 | s :: r, n => s.Okx many n /\ Aa many r n
end
mutual
theorem Stt.Ok.x {many : Int} : ∀ {s : Stt} {n : Nat}, s.Ok many n -> s.Okx many n
 | .cmd c, _, h => h
 | .fin w, _, h => h
 | .keep b, n, h => ⟨h.1, OkL.x h.2⟩
 | .again b, n, h => ⟨h.1, OkL.x h.2⟩
 | .either a b, n, h => ⟨h.1, OkL.x h.2.1, OkL.x h.2.2⟩
 | .call g _ a b, n, h => ⟨h.1, OkL.x h.2.1, OkL.x h.2.2⟩
 | .bad, _, _ => trivial
 | .odd x, _, h => h.elim
theorem OkL.x {many : Int} : ∀ {l : List Stt} {n : Nat}, OkL many l n -> Aa many l n
 | [], _, _ => trivial
 | s :: r, n, h => ⟨h.1.1.x, OkL.x h.2⟩
end
def Stt.isOdd : Stt -> Bool
 | .odd _ => true
 | _ => false
theorem Stt.Ok.no {many : Int} {s : Stt} {n : Nat} (h : s.Ok many n) : s.isOdd = false := by
 cases s <;> first | rfl | exact h.elim
theorem fR : ∀ l : List Stt, (cD l).length = l.length
 | [] => rfl
 | s :: r => by simp [cD, fR r]
theorem OkL.len {many : Int} : ∀ {l : List Stt} {n : Nat}, OkL many l n -> l.length <= 10
 | [], _, _ => by simp
 | s :: r, n, h => by have := h.1.2; simp; omega
def LS (S : aQ) : Prop := ∀ c ∈ S, ∀ n, c.below n = true
theorem LS.app {S : aQ} {ds : List D} (h : LS S) : LS (S ++ [.lst ds]) := fun c hc n => by
 rcases dD.mp hc with hc | hc
 ·exact h c hc n
 ·rw [bU.mp hc]; rfl
theorem LS.take {S : aQ} {n m : Nat} (h : LS S) : ((S.take n).all fun c => c.below m) = true := cF.mpr fun c hc => h c (KI hc) m
theorem Ek {T : aQ} {n : Nat} {c : Cell} {d : D} (h : LS T) (hn : n = T.length) : trunc n (.ok (.dat d) (T ++ [c])) = .ok (.dat d) T := by
 have e : (T ++ [c]).take n = T := by rw [hn]; simp
 dsimp only [trunc];rw [e];have := h.take (n := T.length) (m := n);rw [List.take_length] at this;simp [Vl.below, this]
theorem dZ {i : Int} {S : aQ} : eY [.dat (.int i)] S = .ok (.dat (.bl true)) S := by
 rw [show eY [.dat (.int i)] S = cL (oY [some (.dat (.int i))] S) from rfl]
 unfold oY;simp! [if_true];rfl
theorem D0 {i : Int} {S : aQ} : uE [.dat (.int i)] S = .ok (.dat (.bl (decide (0 <= i) && decide (i <= 1)))) S := by
 rw [show uE [.dat (.int i)] S = cL (yP [some (.dat (.int i))] S) from rfl]
 unfold yP;simp! [dZ]
 by_cases h : 0 <= i
 ·simp! [decide_eq_true h]; rfl
 ·simp! [decide_eq_false h]; rfl
theorem sF {S : aQ} : A2 (.dat (.str "go")) S = .ok (.dat (.tup [.int 1, .int (-9), .int 9])) S := rfl
theorem sJ {S : aQ} : gO true (.dat (.str "go")) S = .ok (.dat (.bl false)) S := rfl
theorem lR {S : aQ} : A2 (.dat (.str "turn")) S = .ok (.dat (.tup [.int 1, .int 1, .int 3])) S := rfl
theorem lU {S : aQ} : gO true (.dat (.str "turn")) S = .ok (.dat (.bl false)) S := rfl
theorem iF {S : aQ} : A2 (.dat (.str "mirror")) S = .ok (.dat (.tup [.int 0, .int 0, .int 0])) S := rfl
theorem iH {S : aQ} : gO true (.dat (.str "mirror")) S = .ok (.dat (.bl false)) S := rfl
theorem jL {S : aQ} : A2 (.dat (.str "scale")) S = .ok (.dat (.tup [.int 1, .int (-3), .int 3])) S := rfl
theorem jN {S : aQ} : gO true (.dat (.str "scale")) S = .ok (.dat (.bl false)) S := rfl
theorem oT {S : aQ} : A2 (.dat (.str "aim")) S = .ok (.dat (.tup [.int 2, .int (-9), .int 9])) S := rfl
theorem oU {S : aQ} : gO true (.dat (.str "aim")) S = .ok (.dat (.bl false)) S := rfl
theorem jM {S : aQ} : A2 (.dat (.str "place")) S = .ok (.dat (.tup [.int 2, .int (-9), .int 9])) S := rfl
theorem jO {S : aQ} : gO true (.dat (.str "place")) S = .ok (.dat (.bl false)) S := rfl
theorem lS {S : aQ} : A2 (.dat (.str "mark")) S = .ok (.dat (.tup [.int 0, .int 0, .int 0])) S := rfl
theorem lV {S : aQ} : gO true (.dat (.str "mark")) S = .ok (.dat (.bl false)) S := rfl
theorem iE {S : aQ} : A2 (.dat (.str "return")) S = .ok (.dat (.tup [.int 0, .int 0, .int 0])) S := rfl
theorem iG {S : aQ} : gO true (.dat (.str "return")) S = .ok (.dat (.bl false)) S := rfl
theorem eZ {S : aQ} : A2 (.dat (.str "exchange")) S = .ok (.dat (.tup [.int 0, .int 0, .int 0])) S := rfl
theorem fC {S : aQ} : gO true (.dat (.str "exchange")) S = .ok (.dat (.bl false)) S := rfl
theorem IW {S : aQ} : gO true (.dat (.str "end")) S = .ok (.dat (.bl true)) S := rfl
theorem Bo {S : aQ} : gO true (.dat (.str "keep")) S = .ok (.dat (.bl true)) S := rfl
theorem zV {S : aQ} : gO true (.dat (.str "again")) S = .ok (.dat (.bl true)) S := rfl
theorem sL {S : aQ} : gO true (.dat (.str "either")) S = .ok (.dat (.bl true)) S := rfl
theorem yF {S : aQ} : gO true (.dat (.str "call")) S = .ok (.dat (.bl true)) S := rfl
theorem OL {S : aQ} : gO true (.dat (.str "bad")) S = .ok (.dat (.bl true)) S := rfl
theorem wM {x : D} {r : List D} : cutD (x :: r) (some 1) none = r := by
 unfold cutD;rw [HT.sIx_none, show ((1 : Int)) = ((1 : Nat) : Int) from rfl, HT.sIx_nat]
 simp
theorem all_nil {S : aQ} : Bu (.dat (.lst [])) S = .ok (.dat (.bl true)) S := rfl
theorem GJ {a : Bool} {S : aQ} : Bu (.dat (.lst [.bl a])) S = .ok (.dat (.bl a)) S := by cases a <;> rfl
theorem GH {a b : Bool} {S : aQ} : Bu (.dat (.lst [.bl a, .bl b])) S = .ok (.dat (.bl (a && b))) S := by cases a <;> cases b <;> rfl
theorem sz {n : Nat} (h : n <= 1000) : n <= sizeLine := by show n <= 16777216; omega
theorem HF {c : Cmd} {S : aQ} (h : c.Ok) : gE [.dat c.d] S = .ok (.dat (.bl true)) S := by
 rw [show gE [.dat c.d] S = cL (jR [some (.dat c.d), none, none, none, none] S) from rfl]
 unfold jR mE;cases c with
 | go k =>
  obtain ⟨h1, h2⟩ := h;simp! [Cmd.d, cK, sF, sJ, lR, lU, iF, iH, jL, jN, oT, oU, jM, jO, lS, lV, iE, iG, eZ, fC, wM, wH, iP, oK, dZ, all_nil, GJ, GH, decide_eq_true h1, decide_eq_true h2, sz];rfl
 | turn k =>
  obtain ⟨h1, h2⟩ := h;simp! [Cmd.d, cK, sF, sJ, lR, lU, iF, iH, jL, jN, oT, oU, jM, jO, lS, lV, iE, iG, eZ, fC, wM, wH, iP, oK, dZ, all_nil, GJ, GH, decide_eq_true h1, decide_eq_true h2, sz];rfl
 | mirror => simp! [Cmd.d, cK, sF, sJ, lR, lU, iF, iH, jL, jN, oT, oU, jM, jO, lS, lV, iE, iG, eZ, fC, wM, wH, iP, oK, dZ, all_nil, sz]; rfl
 | scale k =>
  obtain ⟨h1, h2⟩ := h;simp! [Cmd.d, cK, sF, sJ, lR, lU, iF, iH, jL, jN, oT, oU, jM, jO, lS, lV, iE, iG, eZ, fC, wM, wH, iP, oK, dZ, all_nil, GJ, GH, decide_eq_true h1, decide_eq_true h2, sz];rfl
 | aim a b =>
  obtain ⟨⟨h1, h2⟩, h3, h4⟩ := h;simp! [Cmd.d, cK, sF, sJ, lR, lU, iF, iH, jL, jN, oT, oU, jM, jO, lS, lV, iE, iG, eZ, fC, wM, wH, iP, oK, dZ, all_nil, GJ, GH, decide_eq_true h1, decide_eq_true h2, decide_eq_true h3, decide_eq_true h4, sz];rfl
 | place a b =>
  obtain ⟨⟨h1, h2⟩, h3, h4⟩ := h;simp! [Cmd.d, cK, sF, sJ, lR, lU, iF, iH, jL, jN, oT, oU, jM, jO, lS, lV, iE, iG, eZ, fC, wM, wH, iP, oK, dZ, all_nil, GJ, GH, decide_eq_true h1, decide_eq_true h2, decide_eq_true h3, decide_eq_true h4, sz];rfl
 | mark => simp! [Cmd.d, cK, sF, sJ, lR, lU, iF, iH, jL, jN, oT, oU, jM, jO, lS, lV, iE, iG, eZ, fC, wM, wH, iP, oK, dZ, all_nil, sz]; rfl
 | ret => simp! [Cmd.d, cK, sF, sJ, lR, lU, iF, iH, jL, jN, oT, oU, jM, jO, lS, lV, iE, iG, eZ, fC, wM, wH, iP, oK, dZ, all_nil, sz]; rfl
 | exch => simp! [Cmd.d, cK, sF, sJ, lR, lU, iF, iH, jL, jN, oT, oU, jM, jO, lS, lV, iE, iG, eZ, fC, wM, wH, iP, oK, dZ, all_nil, sz]; rfl
theorem jD {z : Str} {r : List D} {S : aQ} (h : gO true (.dat (.str z)) S = .ok (.dat (.bl true)) S) : gE [.dat (.tup (.str z :: r))] S = .ok (.dat (.bl false)) S := by
 rw [show gE [.dat (.tup (.str z :: r))] S = cL (jR [some (.dat (.tup (.str z :: r))), none, none, none, none] S) from rfl]
 unfold jR mE;simp! [cK, h];rw [decide_eq_false (by simp; omega)]
 simp! [cK, h];rfl
def Stt.blocks : Stt -> List (List Stt)
 | .keep b => [b]
 | .again b => [b]
 | .either a b => [a, b]
 | .call _ _ a b => [a, b]
 | _ => []
def bls (bs : List (List Stt)) : List D := bs.map fun b => .lst (cD b)
theorem vH {s : Stt} {S : aQ} (ho : s.isOdd = false) : lE [.dat s.d] S = .ok (.dat (.lst (bls s.blocks))) S := by
 rw [show lE [.dat s.d] S = cL (qK [some (.dat s.d), none] S) from rfl]
 unfold qK;cases s with
 | cmd c => cases c <;> (simp! [Stt.d, Cmd.d, cK]; rfl)
 | fin w => simp! [Stt.d, cK]; rfl
 | keep b => simp! [Stt.d, cK, eM]; rfl
 | again b => simp! [Stt.d, cK, eM]; rfl
 | either a b => simp! [Stt.d, cK, eM, kL]; rfl
 | call g s a b => simp! [Stt.d, cK, eM, kL, Ji]; rfl
 | bad => simp! [Stt.d, cK]; rfl
 | odd x => cases ho
theorem EZ {s : Stt} {S : aQ} (ho : s.isOdd = false) : mW [.dat s.d, .dat (.lst (bls s.blocks))] S = .ok (.dat s.d) S := by
 rw [show mW [.dat s.d, .dat (.lst (bls s.blocks))] S = cL (nD [some (.dat s.d), some (.dat (.lst (bls s.blocks))), none] S) from rfl]
 unfold nD;cases s with
 | cmd c => cases c <;> (simp! [Stt.d, Cmd.d, cK]; rfl)
 | fin w => simp! [Stt.d, cK]; rfl
 | keep b => simp! [Stt.d, Stt.blocks, bls, aK, bC, cK, zU]; rfl
 | again b => simp! [Stt.d, Stt.blocks, bls, aK, bC, cK, zU]; rfl
 | either a b => simp! [Stt.d, Stt.blocks, bls, aK, bC, cK, zU, AZ]; rfl
 | call g s a b => simp! [Stt.d, Stt.blocks, bls, aK, bC, cK, eM, kL]; rfl
 | bad => simp! [Stt.d, cK]; rfl
 | odd x => cases ho
def Stt.wf (lv : Int) : Stt -> Bool
 | .cmd _ => true
 | .fin _ => true
 | .bad => false
 | .odd _ => false
 | _ => !decide (lv = 3)
theorem isb {i : Int} (h : 0 <= i /\ i <= 1) : (decide (0 <= i) && decide (i <= 1)) = true := by simp [h.1, h.2]
theorem Ea {s : Stt} {lv many : Int} {n : Nat} {S : aQ} (h : s.Okx many n) : kH [.dat s.d, .dat (.int lv), .dat (.int many)] S = .ok (.dat (.bl (s.wf lv))) S := by
 by_cases ho : s.isOdd = true
 ·cases s <;> first | (cases ho; done) | exact h lv S
 rw [show kH [.dat s.d, .dat (.int lv), .dat (.int many)] S = cL (nE [some (.dat s.d), some (.dat (.int lv)), some (.dat (.int many)), none] S) from rfl]
 unfold nE;cases s with
 | cmd c => simp! [Stt.d, HF h]; rfl
 | fin w => simp! [Stt.d, jD IW, cK, eM, D0, isb h]; rfl
 | bad => simp! [Stt.d, jD OL]; rfl
 | odd x => exact absurd rfl ho
 | keep b =>
  by_cases hl : lv = 3
  ·simp! [Stt.d, jD Bo, cK, eM, decide_eq_true hl]; simp [Stt.wf, hl]; rfl
  ·simp! [Stt.d, jD Bo, cK, eM, decide_eq_false hl]; simp [Stt.wf, hl]; rfl
 | again b =>
  by_cases hl : lv = 3
  ·simp! [Stt.d, jD zV, cK, eM, decide_eq_true hl]; simp [Stt.wf, hl]; rfl
  ·simp! [Stt.d, jD zV, cK, eM, decide_eq_false hl]; simp [Stt.wf, hl]; rfl
 | either a b =>
  by_cases hl : lv = 3
  ·simp! [Stt.d, jD sL, cK, eM, kL, decide_eq_true hl]; simp [Stt.wf, hl]; rfl
  ·simp! [Stt.d, jD sL, cK, eM, kL, decide_eq_false hl]; simp [Stt.wf, hl]; rfl
 | call g b a c =>
  obtain ⟨⟨_, h1, h2⟩, _⟩ := h
  by_cases hl : lv = 3
  ·simp! [Stt.d, jD yF, cK, eM, kL, Ji, decide_eq_true hl]; simp [Stt.wf, hl]; rfl
  ·simp! [Stt.d, jD yF, cK, eM, kL, Ji, decide_eq_false hl, dZ, decide_eq_true h1, decide_eq_true h2, zU, AZ]; simp [Stt.wf, hl]; rfl
inductive FR where
 | fault (p : List Int) (m : Int) | okk (m : Int)
abbrev tupI (p : List Int) : D := .tup (p.map D.int)
def FR.d : FR -> D
 | .fault p m => .tup [tupI p, .int m]
 | .okk m => .tup [.non, .int m]
def FR.then (r : FR) (k : Int -> FR) : FR := match r with
 | .fault p m => .fault p m
 | .okk m => k m
mutual
/-- what stands in the blocks of s, at the path here -/
def Jx (lv : Int) (here : List Int) : Stt -> Int -> FR
 | .keep b, met => zA (lv + 1) (here ++ [0]) 0 b met
 | .again b, met => zA (lv + 1) (here ++ [0]) 0 b met
 | .either a b, met => (zA (lv + 1) (here ++ [0]) 0 a met).then (zA (lv + 1) (here ++ [1]) 0 b)
 | .call _ _ a b, met => (zA (lv + 1) (here ++ [0]) 0 a met).then (zA (lv + 1) (here ++ [1]) 0 b)
 | _, met => .okk met
def zA (lv : Int) (path : List Int) (at_ : Int) : List Stt -> Int -> FR
 | [], met => .okk met
 | s :: r, met => if at_ = 8 \/ met = 12 \/ s.wf lv = false then .fault (path ++ [at_]) met else
  (Jx lv (path ++ [at_]) s (met + 1)).then (zA lv path (at_ + 1) r)
end
def EO (n : Nat) : Prop := ∀ {S : aQ} {l : List Stt} {lv many met : Int} {path : List Int} {k : Nat}, Aa many l k -> 0 <= lv -> lv <= 3 -> path.length <= 2 * lv.toNat -> 4 - lv.toNat <= n ->
 dA n [.dat (.lst (cD l)), .dat (.int lv), .dat (.int many), .dat (tupI path), .dat (.int met)] S = .ok (.dat (zA lv path 0 l met).d) S
theorem GO {cl : Bool} {p : List Int} {i : Int} {S : aQ} (h : p.length <= 100) : dR cl (.dat (tupI p)) (.dat (.tup [.int i])) S = .ok (.dat (tupI (p ++ [i]))) S := by
 rw [lZ (sz (by simp; omega))]
 simp [tupI]
theorem FR.then_okk {m : Int} {k : Int -> FR} : (FR.okk m).then k = k m := rfl
theorem FR.then_fault {p : List Int} {m : Int} {k : Int -> FR} : (FR.fault p m).then k = .fault p m := rfl
theorem ff_in {n : Nat} (ih : EO n) {S : aQ} {s : Stt} {lv many met : Int} {path : List Int} {k : Nat} {a b c : Option Vl} (h : s.Okx many k) (h0 : 0 <= lv) (h3 : lv < 3) (hp : path.length <= 2 * lv.toNat + 1) (hn : 4 - (lv + 1).toNat <= n) :
  loop (.tp [8, 9]) (fX (dA n)) (dX 0 (bls s.blocks)) [a, some (.dat (.int lv)), some (.dat (.int many)), b, some (.dat (.int met)), c, some (.dat s.d), some (.dat (tupI path)), none, none, none] S =
   match Jx lv path s met with
   | .fault p m => .ret (.dat (.tup [tupI p, .int m])) S
   | .okk m => .next [a, some (.dat (.int lv)), some (.dat (.int many)), b, some (.dat (.int m)), c, some (.dat s.d), some (.dat (tupI path)), none, none, none] S := by
 have turn : ∀ {l : List Stt} {met : Int} {i : Int}, Aa many l (k - 1) -> dA n [.dat (.lst (cD l)), .dat (.int (lv + 1)), .dat (.int many), .dat (tupI (path ++ [i])), .dat (.int met)] S = .ok (.dat (zA (lv + 1) (path ++ [i]) 0 l met).d) S := fun hl => ih hl (by omega) (by omega) (by simp; omega) hn
 have one : ∀ {l : List Stt} {r : List D} {met : Int} {i : Int}, Aa many l (k - 1) -> loop (.tp [8, 9]) (fX (dA n)) (.tup [.int i, .lst (cD l)] :: r) [a, some (.dat (.int lv)), some (.dat (.int many)), b, some (.dat (.int met)), c, some (.dat s.d), some (.dat (tupI path)), none, none, none] S =
   match zA (lv + 1) (path ++ [i]) 0 l met with
   | .fault p m => .ret (.dat (.tup [tupI p, .int m])) S
   | .okk m => loop (.tp [8, 9]) (fX (dA n)) r [a, some (.dat (.int lv)), some (.dat (.int many)), b, some (.dat (.int m)), c, some (.dat s.d), some (.dat (tupI path)), none, none, none] S := fun {l r met i} hl => by
  have e := turn (met := met) (i := i) hl;rw [loop];simp only [oK, iV, aJ, aZ, if_true, cO, bO];rw [fX];simp! [GO (show path.length <= 100 by omega), e]
  cases q : zA (lv + 1) (path ++ [i]) 0 l met with
  | fault p m => simp! [FR.d, Ft]
  | okk m => simp! [FR.d, Ft]
 cases s with
 | cmd c => simp only [Stt.blocks, bls, bC, dX, loop, Jx]
 | fin w => simp only [Stt.blocks, bls, bC, dX, loop, Jx]
 | bad => simp only [Stt.blocks, bls, bC, dX, loop, Jx]
 | odd w => simp only [Stt.blocks, bls, bC, dX, loop, Jx]
 | keep x =>
  simp only [Stt.blocks, bls, bC, aK, dX, Jx, fV, iY, yG];rw [one h.2];cases zA (lv + 1) (path ++ [0]) 0 x met <;> rfl
 | again x =>
  simp only [Stt.blocks, bls, bC, aK, dX, Jx, fV, iY, yG];rw [one h.2];cases zA (lv + 1) (path ++ [0]) 0 x met <;> rfl
 | either x y =>
  simp only [Stt.blocks, bls, bC, aK, dX, Jx, fV, iY, yG];rw [one h.2.1];cases zA (lv + 1) (path ++ [0]) 0 x met with
  | fault p m => rfl
  | okk m =>
   simp only [FR.then_okk];rw [one h.2.2];cases zA (lv + 1) (path ++ [1]) 0 y m <;> rfl
 | call g f x y =>
  simp only [Stt.blocks, bls, bC, aK, dX, Jx, fV, iY, yG];rw [one h.2.1];cases zA (lv + 1) (path ++ [0]) 0 x met with
  | fault p m => rfl
  | okk m =>
   simp only [FR.then_okk];rw [one h.2.2];cases zA (lv + 1) (path ++ [1]) 0 y m <;> rfl
theorem Md {n : Nat} (ih : EO n) {S : aQ} {lv many : Int} {path : List Int} {k : Nat} {a : Option Vl} (h0 : 0 <= lv) (h3 : lv <= 3) (hp : path.length <= 2 * lv.toNat) (hn : 4 - (lv + 1).toNat <= n) :
  ∀ (l : List Stt) (at_ : Nat) (met : Int), Aa many l k -> loop (.tp [5, 6]) (kN (dA n)) (dX at_ (cD l)) [a, some (.dat (.int lv)), some (.dat (.int many)), some (.dat (tupI path)), some (.dat (.int met)), none, none, none, none, none, none] S =
   match zA lv path (at_ : Nat) l met with
   | .fault p m => .ret (.dat (.tup [tupI p, .int m])) S
   | .okk m => .next [a, some (.dat (.int lv)), some (.dat (.int many)), some (.dat (tupI path)), some (.dat (.int m)), none, none, none, none, none, none] S
 | [], at_, met, _ => rfl
 | s :: r, at_, met, h => by
  have rest := Md ih (S := S) (many := many) (k := k) (a := a) h0 h3 hp hn r (at_ + 1);simp only [cD, dX];rw [loop];simp only [oK, iV, aJ, aZ, if_true, cO, bO];rw [kN];simp! [GO (show path.length <= 100 by omega)]
  by_cases h8 : ((at_ : Nat) : Int) = 8
  ·simp! [decide_eq_true h8]
   unfold zA;rw [if_pos (.inl h8)]
  ·simp! [decide_eq_false h8]
   by_cases hm : met = 12
   ·simp! [decide_eq_true hm]
    unfold zA;rw [if_pos (.inr (.inl hm))]
   ·simp! [decide_eq_false hm, Ea h.1]
    cases hw : s.wf lv with
    | false =>
     simp! [if_true];unfold zA;rw [if_pos (.inr (.inr hw))]
    | true =>
     have hlv : Jx lv (path ++ [((at_ : Nat) : Int)]) s (met + 1) = .okk (met + 1) /\ s.blocks = [] \/ lv < 3 := by
      cases s with
      | cmd c => exact .inl ⟨rfl, rfl⟩
      | fin w => exact .inl ⟨rfl, rfl⟩
      | bad => cases hw
      | odd x => cases hw
      | keep b => refine .inr ?_; simp [Stt.wf] at hw; omega
      | again b => refine .inr ?_; simp [Stt.wf] at hw; omega
      | either a b => refine .inr ?_; simp [Stt.wf] at hw; omega
      | call g f a b => refine .inr ?_; simp [Stt.wf] at hw; omega
     have ea : ∀ x y z : Option Vl, Jd (fun x y => x + y) 4 (mC (.int 1)) [a, some (.dat (.int lv)), some (.dat (.int many)), some (.dat (tupI path)), some (.dat (.int met)), x, y, z, none, none, none] S = .next [a, some (.dat (.int lv)), some (.dat (.int many)), some (.dat (tupI path)), some (.dat (.int (met + 1))), x, y, z, none, none, none] S := fun _ _ _ => rfl
     have e2 : zA lv path ((at_ : Nat) : Int) (s :: r) met = (Jx lv (path ++ [((at_ : Nat) : Int)]) s (met + 1)).then (zA lv path (((at_ + 1 : Nat) : Int)) r) := by
      rw [zA, if_neg (by rintro (h | h | h) <;> first | exact h8 h | exact hm h | (rw [hw] at h; cases h))]
      rfl
     rw [e2];have ho : s.isOdd = false := by cases s <;> first | rfl | (cases hw; done)
     simp! [ea, vH ho];rcases hlv with ⟨q1, q2⟩ | hlv
     ·rw [q1, q2]
      simp! [bls, bC, dX, loop, FR.then_okk];exact rest (met + 1) h.2
     ·rw [ff_in ih h.1 h0 hlv (by simp; omega) hn]
      cases q : Jx lv (path ++ [((at_ : Nat) : Int)]) s (met + 1) with
      | fault p m => simp! [FR.then_fault]
      | okk m =>
       simp! [FR.then_okk];exact rest m h.2
theorem Mf (n : Nat) : EO n := by
 induction n with
 | zero =>
  intro S l lv many met path k hl h0 h3 hp hn;omega
 | succ n ih =>
  intro S l lv many met path k hl h0 h3 hp hn;rw [show dA (n + 1) [.dat (.lst (cD l)), .dat (.int lv), .dat (.int many), .dat (tupI path), .dat (.int met)] S = cL (nH (dA n) [some (.dat (.lst (cD l))), some (.dat (.int lv)), some (.dat (.int many)), some (.dat (tupI path)), some (.dat (.int met)), none, none, none, none, none, none] S) from rfl]
  unfold nH;have e := Md ih (S := S) (a := some (.dat (.lst (cD l)))) h0 h3 hp (by omega) l 0 met hl
  rw [iY] at e;simp! [e];cases q : zA lv path 0 l met with
  | fault p m => simp! [if_true]; rfl
  | okk m => simp! [if_true]; rfl
theorem yC {α : Type} {t : Tg} {e : FE} {ρ : Ev} {S : aQ} {f g : α -> D} : ∀ {xs : List α}, (∀ x ∈ xs, ∃ ρ1, oK t (.dat (f x)) ρ = some ρ1 /\ e ρ1 S = .ok (.dat (g x)) S) -> iP t fP e ρ (xs.map f) S = .ok (xs.map g) S
 | [], _ => rfl
 | x :: xs, h => by
  obtain ⟨ρ1, h1, h2⟩ := h x (aY ..);have ih := yC (xs := xs) fun y hy => h y (aL _ hy)
  rw [aK, iP];simp only [h1, M5, h2, if_true, ih, aK]
theorem gV {α : Type} {cl : Bool} {t : Tg} {e : FE} {ρ : Ev} {S : aQ} {f g : α -> D} {xs : List α} {vs : List Nat} (hl : xs.length <= sizeLine) (h : ∀ x ∈ xs, ∃ ρ1, oK t (.dat (f x)) (wipeE ρ vs) = some ρ1 /\ e ρ1 S = .ok (.dat (g x)) S) : wH cl t fP e ρ vs (xs.map f) S = newL cl (xs.map g) S := by
 unfold wH;rw [aN, if_pos hl, yC h]
theorem pT : ∀ l : List Stt, cD l = l.map Stt.d
 | [] => rfl
 | s :: r => by rw [cD, pT r]; rfl
theorem A6 {many : Int} {s : Stt} {k : Nat} (h : s.Ok many k) : ∀ b ∈ s.blocks, 0 < k /\ OkL many b (k - 1) := by
 intro b hb;cases s with
 | cmd c => cases hb
 | fin w => cases hb
 | bad => cases hb
 | odd x => cases hb
 | keep x => simp [Stt.blocks] at hb; subst hb; exact h
 | again x => simp [Stt.blocks] at hb; subst hb; exact h
 | either x y => simp [Stt.blocks] at hb; rcases hb with rfl | rfl; exact ⟨h.1, h.2.1⟩; exact ⟨h.1, h.2.2⟩
 | call g f x y => simp [Stt.blocks] at hb; rcases hb with rfl | rfl; exact ⟨h.1.1, h.2.1⟩; exact ⟨h.1.1, h.2.2⟩
theorem OkL.mem {many : Int} : ∀ {l : List Stt} {k : Nat}, OkL many l k -> ∀ s ∈ l, s.Ok many k
 | [], _, _, s, hs => by cases hs
 | x :: r, k, h, s, hs => by
  rcases bH.mp hs with rfl | hs
  ·exact h.1.1
  ·exact OkL.mem h.2 s hs
theorem C6 {s : Stt} : s.blocks.length <= 2 := by cases s <;> simp [Stt.blocks]
def Sh (n : Nat) : Prop := (∀ {S : aQ} {many : Int} {s : Stt} {k : Nat}, s.Ok many k -> 2 * k + 1 <= n -> iC n [.dat s.d] S = .ok (.dat s.d) S) /\ ∀ {S : aQ} {many : Int} {l : List Stt} {k : Nat}, OkL many l k -> 2 * k + 2 <= n -> eN n [.dat (.lst (cD l))] S = .ok (.dat (.lst (cD l))) S
theorem PV (n : Nat) : Sh n := by
 induction n with
 | zero => exact ⟨fun _ h => by omega, fun _ h => by omega⟩
 | succ n ih =>
  constructor
  ·intro S many s k h hn
   rw [show iC (n + 1) [.dat s.d] S = cL (iK (eN n) [some (.dat s.d), none] S) from rfl]
   unfold iK;simp! [vH h.no];rw [show bls s.blocks = s.blocks.map (fun b => .lst (cD b)) from rfl, gV (g := fun b => .lst (cD b)) (sz (by have := C6 (s := s); omega)) fun b hb => ⟨_, rfl, ?_⟩]
   ·simp! [show s.blocks.map (fun b => D.lst (cD b)) = bls s.blocks from rfl, EZ h.no]
    rfl
   ·obtain ⟨h1, h2⟩ := A6 h b hb
    simp! [ih.2 h2 (by omega)]
  ·intro S many l k h hn
   rw [show eN (n + 1) [.dat (.lst (cD l))] S = cL (mG (iC n) [some (.dat (.lst (cD l))), none] S) from rfl]
   unfold mG;simp! [pT];rw [gV (g := Stt.d) (sz (by have := h.len; omega)) fun s hs => ⟨_, rfl, ?_⟩]
   ·rfl
   ·simp! [ih.1 (h.mem s hs) (by omega)]
theorem NJ {s : Stt} {S : aQ} (ho : s.isOdd = false) : sE [.dat s.d] S = .ok (.dat (.lst (bls s.blocks))) S := by
 rw [show sE [.dat s.d] S = cL (sV [some (.dat s.d), none] S) from rfl]
 unfold sV;cases s with
 | cmd c => cases c <;> (simp! [Stt.d, Cmd.d, cK, wM, wH, iP, oK, sz]; rfl)
 | fin w => simp! [Stt.d, cK, wM, wH, iP, oK, sz]; rfl
 | keep b => simp! [Stt.d, cK, wM, wH, iP, oK, sz]; rfl
 | again b => simp! [Stt.d, cK, wM, wH, iP, oK, sz]; rfl
 | either a b => simp! [Stt.d, cK, wM, wH, iP, oK, sz]; rfl
 | call g s a b => simp! [Stt.d, cK, Ji]; rfl
 | bad => simp! [Stt.d, cK, wM, wH, iP, oK, sz]; rfl
 | odd x => cases ho
theorem cut_3 {a b c d : D} : cutD [a, b, c, d] none (some 3) = [a, b, c] := rfl
theorem Sd {s : Stt} {S : aQ} (ho : s.isOdd = false) : xS [.dat s.d, .dat (.lst (bls s.blocks))] S = .ok (.dat s.d) S := by
 rw [show xS [.dat s.d, .dat (.lst (bls s.blocks))] S = cL (yQ [some (.dat s.d), some (.dat (.lst (bls s.blocks)))] S) from rfl]
 unfold yQ;cases s with
 | cmd c => cases c <;> (simp! [Stt.d, Cmd.d, Stt.blocks, bls, bC, cK]; rfl)
 | fin w => simp! [Stt.d, Stt.blocks, bls, bC, cK]; rfl
 | keep b => simp! [Stt.d, Stt.blocks, bls, aK, bC, cK]; rfl
 | again b => simp! [Stt.d, Stt.blocks, bls, aK, bC, cK]; rfl
 | either a b => simp! [Stt.d, Stt.blocks, bls, aK, bC, cK]; rfl
 | call g s a b => simp! [Stt.d, Stt.blocks, bls, aK, bC, cK, cut_3]; rfl
 | bad => simp! [Stt.d, Stt.blocks, bls, bC, cK]; rfl
 | odd x => cases ho
theorem Se {many : Int} (n : Nat) : ∀ {S : aQ} {l : List Stt} {k : Nat}, OkL many l k -> k + 1 <= n -> rM n [.dat (.lst (cD l))] S = .ok (.dat (.lst (cD l))) S := by
 induction n with
 | zero => intro S l k h hn; omega
 | succ n ih =>
  intro S l k h hn;rw [show rM (n + 1) [.dat (.lst (cD l))] S = cL (yW (rM n) [some (.dat (.lst (cD l))), none, none] S) from rfl]
  unfold yW;simp! [pT];rw [gV (g := Stt.d) (sz (by have := h.len; omega)) fun s hs => ⟨_, rfl, ?_⟩]
  ·rfl
  ·unfold wL
   simp! [NJ (h.mem s hs).no];rw [show bls s.blocks = s.blocks.map (fun b => .lst (cD b)) from rfl, gV (g := fun b => .lst (cD b)) (sz (by have := C6 (s := s); omega)) fun b hb => ⟨_, rfl, ?_⟩]
   ·simp! [show s.blocks.map (fun b => D.lst (cD b)) = bls s.blocks from rfl, Sd (h.mem s hs).no]
   ·obtain ⟨h1, h2⟩ := A6 (h.mem s hs) b hb
    simp! [ih h2 (by omega)]
theorem NI {many : Int} {bs : List (List Stt)} {S : aQ} {k : Nat} (hb : ∀ b ∈ bs, OkL many b k) (hk : k <= 9) (hl : bs.length <= 10) : pI [.dat (.lst (bls bs))] S = .ok (.dat (.lst (bls bs))) S := by
 rw [show pI [.dat (.lst (bls bs))] S = cL (sU [some (.dat (.lst (bls bs))), none] S) from rfl]
 unfold sU;simp! [if_true];rw [show bls bs = bs.map (fun b => .lst (cD b)) from rfl, gV (g := fun b => .lst (cD b)) (sz (by omega)) fun b hb' => ⟨_, rfl, ?_⟩]
 ·rfl
 ·simp! [Se 10 (hb b hb') (by omega)]
def AV (p : Int) : List (List Stt) -> Option (Int × List Int)
 | [] => none
 | b :: r => match zA 0 [] 0 b 0 with
  | .fault q _ => some (p, q)
  | .okk _ => AV (p + 1) r
def Gq (i : Int) (q : List Int) : Er := ⟨"NoBook", ["path", "procedure"], [tupI q, .int i]⟩
theorem D1 {S : aQ} {many : Int} {k : Nat} {a : Option Vl} {bs0 : List D} (hm : many = (bs0.length : Int)) : ∀ (bs : List (List Stt)) (p : Nat), (∀ b ∈ bs, OkL many b k) ->
  match AV (p : Nat) bs with
  | none => loop (.tp [2, 3]) dU (dX p (bls bs)) [a, some (.dat (.lst bs0)), none, none, none, none] S = .next [a, some (.dat (.lst bs0)), none, none, none, none] S
  | some (i, q) => ∃ ρ', loop (.tp [2, 3]) dU (dX p (bls bs)) [a, some (.dat (.lst bs0)), none, none, none, none] S = .err (Gq i q) ρ' S
 | [], p, _ => rfl
 | b :: r, p, h => by
  have ih := D1 (S := S) (k := k) (a := a) hm r (p + 1) fun b hb => h b (aL _ hb)
  have hb := h b (aY ..);have e1 : dA 10 [.dat (.lst (cD b)), .dat (.int 0), .dat (.int (bs0.length : Int)), .dat (.tup []), .dat (.int 0)] S = .ok (.dat (zA 0 [] 0 b 0).d) S := by
   rw [<- hm];exact Mf 10 (path := []) hb.x (by omega) (by omega) (by simp) (by simp)
  have el : loop (.tp [2, 3]) dU (dX p (bls (b :: r))) [a, some (.dat (.lst bs0)), none, none, none, none] S = (match dU [a, some (.dat (.lst bs0)), some (.dat (.int (p : Nat))), some (.dat (.lst (cD b))), none, none] S with
   | .next ρ2 S2 => loop (.tp [2, 3]) dU (dX (p + 1) (bls r)) ρ2 S2
   | .cnt ρ2 S2 => loop (.tp [2, 3]) dU (dX (p + 1) (bls r)) ρ2 S2
   | .brk ρ2 S2 => .next ρ2 S2
   | .ret d S2 => .ret d S2
   | .err e ρ2 S2 => .err e ρ2 S2
   | .stuck => .stuck) := rfl
  rw [el, dU];simp! [e1];rw [AV];cases q : zA 0 [] 0 b 0 with
  | fault pp mm =>
   simp! [FR.d, Ft];exact ⟨_, rfl⟩
  | okk mm =>
   simp! [FR.d, Ft];rw [<- dU];exact ih
def iZ (bs : List (List Stt)) : D := .ins "Book" ["own"] [.lst (bls bs)]
theorem LW {d : Vl} : ∀ {ρ : Ev} {i : Nat}, i < ρ.length -> lk (ρ.set i (some d)) i = some d
 | [], i, h => by simp at h
 | x :: r, 0, h => rfl
 | x :: r, i + 1, h => LW (ρ := r) (by simpa using h)
theorem J3 {ρ : Ev} {i : Nat} : (wipeE ρ [i]).length = ρ.length := by simp [wipeE]
theorem vU {cl : Bool} {S : aQ} {many : Int} {k i : Nat} {bs : List (List Stt)} {ρ : Ev} (hb : ∀ b ∈ bs, OkL many b k) (hk : k <= 9) (hl : bs.length <= 10) (h : i < ρ.length) : wH cl (.nm i) fP (bM (eN 20) (aB (aC i) aO)) ρ [i] (bls bs) S = newL cl (bls bs) S := by
 rw [show bls bs = bs.map (fun b => .lst (cD b)) from rfl, gV (g := fun b => .lst (cD b)) (sz (by omega)) fun b hb' => ?_]
 have e2 := LW (d := .dat (.lst (cD b))) (ρ := wipeE ρ [i]) (i := i) (by rw [J3]; exact h)
 refine ⟨(wipeE ρ [i]).set i (some (.dat (.lst (cD b)))), rfl, ?_⟩
 simp (config := { implicitDefEqProofs := false }) only [HU, HS, QD, e2, eA, Du, MA, Dt];exact (PV 20).2 (hb b hb') (by omega)
theorem OM {S : aQ} {many : Int} {k n : Nat} {bs : List (List Stt)} (hb : ∀ b ∈ bs, OkL many b k) (hk : k <= 9) (hm : many = (bs.length : Int)) (h1 : 1 <= bs.length) (h3 : bs.length <= 3) (hn : S[n]? = some (.ins "Book" [])) :
  jF [.cel n, .dat (.lst (bls bs))] S = match AV 0 bs with
   | none => .ok (.dat .non) (S.set n (.ins "Book" [("own", .dat (.lst (bls bs)))]))
   | some (i, q) => .err (Gq i q) S := by
 rw [show jF [.cel n, .dat (.lst (bls bs))] S = cL (qL [some (.cel n), some (.dat (.lst (bls bs))), none, none, none, none] S) from rfl]
 unfold qL;have hl : (bls bs).length = bs.length := by simp [bls]
 have e := D1 (S := S) (a := some (.cel n)) (bs0 := bls bs) (by rw [hl]; exact hm) bs 0 hb
 rw [iY] at e;simp! [hl, decide_eq_true (show (1 : Int) <= (bs.length : Int) by omega), decide_eq_true (show (bs.length : Int) <= 3 by omega)]
 cases q : AV 0 bs with
 | none =>
  rw [q] at e;simp! [e, vU hb hk (show bs.length <= 10 by omega), Bp hn (by simp)]
  rfl
 | some x =>
  obtain ⟨i, p⟩ := x;rw [q] at e;obtain ⟨ρ', e⟩ := e;simp! [e];rfl
theorem LY {S : aQ} {bs : List (List Stt)} (hl : bs.length <= 10) : DA "Book" pJ (.dat (iZ bs)) S = .ok (.dat (.int (bs.length : Int))) S := by
 have e : pJ [.dat (iZ bs)] S = .ok (.dat (.int (bs.length : Int))) S := by
  rw [show pJ [.dat (iZ bs)] S = cL (sW [some (.dat (iZ bs))] S) from rfl]
  unfold sW iZ;simp! [rA, eP];simp [bls];rfl
 rw [DA, if_pos (by simp [pM, iZ, DW]), e, RF, if_pos (by omega)]
theorem KA {S : aQ} {many : Int} {k : Nat} {bs : List (List Stt)} (hb : ∀ b ∈ bs, OkL many b k) (hk : k <= 9) (hl : bs.length <= 10) : mY [.dat (iZ bs)] S = .ok (.dat (.lst (bls bs))) S := by
 rw [show mY [.dat (iZ bs)] S = cL (nI [some (.dat (iZ bs)), none] S) from rfl]
 unfold nI iZ;simp! [rA, eP, vU hb hk hl];rfl
theorem O6 {S : aQ} {many : Int} {k : Nat} {bs : List (List Stt)} (ls : LS S) (hb : ∀ b ∈ bs, OkL many b k) (hk : k <= 9) (hm : many = (bs.length : Int)) (h1 : 1 <= bs.length) (h3 : bs.length <= 3) :
  Bi false "Book" jF [.dat (.lst (bls bs))] S = match AV 0 bs with
   | none => .ok (.dat (iZ bs)) S
   | some (i, q) => .err (Gq i q) S := by
 have t : ((S ++ [Cell.ins "Book" []]).take S.length) = S := by simp
 have ls' := ls.take (n := S.length) (m := S.length);rw [List.take_length] at ls';unfold Bi;rw [OM hb hk hm h1 h3 (by simp)]
 cases q : AV 0 bs with
 | none =>
  dsimp only [made];rw [cY _ _ (bS _), Nat.sub_self];simp [DQ, iZ, ls']
 | some x =>
  obtain ⟨i, p⟩ := x;dsimp only [made];rw [t, if_pos ls']
end PH
namespace PH
open PySem PySem.Spec PyProof PyProof.Rows L2
mutual
/-- the height -/
def D.ht : D -> Nat
 | .lst xs => D.hts xs + 1
 | .tup xs => D.hts xs + 1
 | _ => 0
def D.hts : List D -> Nat
 | [] => 0
 | x :: r => max (D.ht x) (D.hts r)
end
mutual
/-- no instances, no dicts; texts that may be compared -/
def D.Pl : D -> Prop
 | .lst xs => xs.length <= 1000 /\ D.Pls xs
 | .tup xs => xs.length <= 1000 /\ D.Pls xs
 | .str x => PyData.strOk x = true
 | .ins _ _ _ => False
 | .dct => False
 | .opq _ => False
 | _ => True
def D.Pls : List D -> Prop
 | [] => True
 | x :: r => D.Pl x /\ D.Pls r
end
mutual
theorem L6 : ∀ d : D, d.Pl -> ∃ p, d.py = some p /\ p.canLay0 = true /\ p.depth = d.ht
 | .non, _ => ⟨_, rfl, rfl, rfl⟩
 | .bl b, _ => ⟨_, rfl, rfl, rfl⟩
 | .int i, _ => ⟨_, rfl, rfl, rfl⟩
 | .str x, h => ⟨_, rfl, h, rfl⟩
 | .lst xs, h => by
  obtain ⟨ps, e1, e2, e3⟩ := Gk xs h.2;refine ⟨.list ps, ?_, e2, ?_⟩
  ·simp only [D.py, e1]
  ·simp only [PyData.depth, D.ht, e3]
 | .tup xs, h => by
  obtain ⟨ps, e1, e2, e3⟩ := Gk xs h.2;refine ⟨.tuple ps, ?_, e2, ?_⟩
  ·simp only [D.py, e1]
  ·simp only [PyData.depth, D.ht, e3]
 | .ins _ _ _, h => h.elim
 | .dct, h => h.elim
 | .opq _, h => h.elim
theorem Gk : ∀ ds : List D, D.Pls ds -> ∃ ps, D.pys ds = some ps /\ PyData.canLayAll0 ps = true /\ PyData.depthAll ps = D.hts ds
 | [], _ => ⟨_, rfl, rfl, rfl⟩
 | d :: r, h => by
  obtain ⟨p, e1, e2, e3⟩ := L6 d h.1;obtain ⟨ps, f1, f2, f3⟩ := Gk r h.2;refine ⟨p :: ps, ?_, ?_, ?_⟩
  ·simp only [D.pys, e1, f1]
  ·simp only [PyData.canLayAll0, e2, f2, Bool.and_self]
  ·simp only [PyData.depthAll, D.hts, e3, f3]
end
theorem Cm {d : D} {p : PyData} (h : d.Pl) (hd : d.ht <= 64) (e : d.py = some p) : SeqAt.shaped p = true := by
 obtain ⟨p', e1, e2, e3⟩ := L6 d h;rw [e] at e1;cases e1;unfold SeqAt.shaped;rw [e2, e3, decide_eq_true hd];rfl
mutual
theorem Stt.plain {many : Int} : ∀ (s : Stt) (k : Nat), s.Ok many k -> s.d.Pl /\ s.d.ht <= 3 * k + 1
 | .cmd c, k, h => by cases c <;> exact ⟨⟨by simp, by simp only [D.Pl, D.Pls, and_true]; decide +kernel⟩, by simp [Stt.d, Cmd.d, D.ht, D.hts]⟩
 | .fin w, k, h => ⟨⟨by simp, by simp only [D.Pl, D.Pls, and_true]; decide +kernel⟩, by simp [Stt.d, D.ht, D.hts]⟩
 | .bad, k, h => ⟨⟨by simp, by simp only [D.Pl, D.Pls, and_true]; decide +kernel⟩, by simp [Stt.d, D.ht, D.hts]⟩
 | .odd x, k, h => h.elim
 | .keep b, k, h => by
  obtain ⟨h1, h2⟩ := jG b (k - 1) h.2;have l1 := h.2.len;have := h.1;exact ⟨⟨by simp, by show PyData.strOk _ = true; decide +kernel, ⟨by rw [fR]; omega, h1⟩, trivial⟩, by simp [Stt.d, D.ht, D.hts]; omega⟩
 | .again b, k, h => by
  obtain ⟨h1, h2⟩ := jG b (k - 1) h.2;have l1 := h.2.len;have := h.1;exact ⟨⟨by simp, by show PyData.strOk _ = true; decide +kernel, ⟨by rw [fR]; omega, h1⟩, trivial⟩, by simp [Stt.d, D.ht, D.hts]; omega⟩
 | .either a b, k, h => by
  obtain ⟨h1, h2⟩ := jG a (k - 1) h.2.1;obtain ⟨h3, h4⟩ := jG b (k - 1) h.2.2;have l1 := h.2.1.len;have l2 := h.2.2.len;have := h.1;exact ⟨⟨by simp, by show PyData.strOk _ = true; decide +kernel, ⟨by rw [fR]; omega, h1⟩, ⟨by rw [fR]; omega, h3⟩, trivial⟩, by simp [Stt.d, D.ht, D.hts]; omega⟩
 | .call g f a b, k, h => by
  obtain ⟨h1, h2⟩ := jG a (k - 1) h.2.1;obtain ⟨h3, h4⟩ := jG b (k - 1) h.2.2;have l1 := h.2.1.len;have l2 := h.2.2.len;have := h.1.1;exact ⟨⟨by simp, by show PyData.strOk _ = true; decide +kernel, trivial, trivial, ⟨by simp, ⟨by rw [fR]; omega, h1⟩, ⟨by rw [fR]; omega, h3⟩, trivial⟩, trivial⟩, by simp [Stt.d, D.ht, D.hts]; omega⟩
theorem jG {many : Int} : ∀ (l : List Stt) (k : Nat), OkL many l k -> D.Pls (cD l) /\ D.hts (cD l) <= 3 * k + 1
 | [], k, _ => ⟨trivial, by simp [cD, D.hts]⟩
 | s :: r, k, h => by
  obtain ⟨h1, h2⟩ := Stt.plain s k h.1.1;obtain ⟨h3, h4⟩ := jG r k h.2;exact ⟨⟨h1, h3⟩, by simp [cD, D.hts]; omega⟩
end
theorem OK : ∀ p : List Int, D.pys (p.map D.int) = some (p.map PyData.int)
 | [] => rfl
 | i :: r => by simp only [aK, D.pys, D.py, OK r]
theorem Aq : ∀ p : List Int, D.Pls (p.map D.int) /\ D.hts (p.map D.int) = 0
 | [] => ⟨trivial, rfl⟩
 | i :: r => ⟨⟨trivial, (Aq r).1⟩, by simp [D.hts, D.ht, (Aq r).2]⟩
theorem HL : ∀ {xs : List D} {x : D}, x ∈ xs -> x.ht <= D.hts xs
 | y :: r, x, h => by
  rcases bH.mp h with rfl | h
  ·simp [D.hts]; omega
  ·have := HL h; simp [D.hts]; omega
theorem Gm : ∀ {xs : List D} {x : D}, D.Pls xs -> x ∈ xs -> x.Pl
 | y :: r, x, hp, h => by
  rcases bH.mp h with rfl | h
  ·exact hp.1
  ·exact Gm hp.2 h
theorem all_true {α : Type} {S : aQ} (xs : List α) : Bu (.dat (.lst (xs.map fun _ => D.bl true))) S = .ok (.dat (.bl true)) S := by
 have : ∀ xs : List α, C9 (xs.map fun _ => D.bl true) = some (xs.map fun _ => true) := fun xs => by
  induction xs with
  | nil => rfl
  | cons x r ih => simp only [aK, C9, ih]
 simp only [Bu, nL, this]
 congr 3
 simp
theorem P8 {S : aQ} : fK (.dat .non) (.dat .non) S = .ok (.dat (.bl true)) S := by
 show (if Nl .none .none = true then Res.ok (Vl.dat (D.bl (PyData.eqv .none .none))) S else .stuck) = _
 rw [if_pos (by decide +kernel)]
 rfl
theorem Hx {n : Nat} {xs : List D} {S : aQ} {f : FD} {i : Nat} {x y : D} (hx : xs[i]? = some x) (ex : bR (.dat y) (.dat (.int (0 + (i : Int)))) S = .ok (.dat x) S) (h : f [.dat x, .dat x] S = .ok (.dat (.bl true)) S) : sO f [some (.dat y), some (.dat y), some (.dat (.int (0 + (i : Int))))] S = .ok (.dat (.bl true)) S := by
 unfold sO;simp! [ex, h]
theorem Da (n : Nat) : ∀ {S : aQ} {d : D}, d.Pl -> d.ht < n -> lO n [.dat d, .dat d] S = .ok (.dat (.bl true)) S := by
 induction n with
 | zero => intro S d _ h; omega
 | succ n ih =>
  intro S d hp hd;rw [show lO (n + 1) [.dat d, .dat d] S = cL (yR (lO n) [some (.dat d), some (.dat d), none] S) from rfl]
  unfold yR;cases d with
  | non => simp! [P8]; rfl
  | bl b => simp! [if_true]; rfl
  | int i => simp! [if_true]; rfl
  | str x => simp! [if_true]; rfl
  | ins _ _ _ => exact hp.elim
  | dct => exact hp.elim
  | opq _ => exact hp.elim
  | lst xs =>
   have hl := hp.1;simp! [nA (show -(2 ^ 62) <= (xs.length : Int) by omega) (show (xs.length : Int) < 2 ^ 62 by omega), fJ, jV]
   rw [gV (g := fun _ => D.bl true) (sz (by simp; omega)) fun i hi => ⟨_, rfl, ?_⟩]
   ·simp! [if_true]
    rw [all_true];rfl
   ·have hi' : i < xs.length := eD.mp hi
    have hx : xs[i]? = some xs[i] := bY hi';have hm : xs[i] ∈ xs := oI hi';have := HL hm;have hd' : D.hts xs + 1 < n + 1 := hd;exact Hx (n := n) hx (tD (by rw [gM (n := i) (by omega), hx])) (ih (Gm hp.2 hm) (by omega))
  | tup xs =>
   have hl := hp.1;simp! [nA (show -(2 ^ 62) <= (xs.length : Int) by omega) (show (xs.length : Int) < 2 ^ 62 by omega), fJ, jV]
   rw [gV (g := fun _ => D.bl true) (sz (by simp; omega)) fun i hi => ⟨_, rfl, ?_⟩]
   ·simp! [if_true]
    rw [all_true];rfl
   ·have hi' : i < xs.length := eD.mp hi
    have hx : xs[i]? = some xs[i] := bY hi';have hm : xs[i] ∈ xs := oI hi';have := HL hm;have hd' : D.hts xs + 1 < n + 1 := hd;exact Hx (n := n) hx (D7 (by rw [gM (n := i) (by omega), hx])) (ih (Gm hp.2 hm) (by omega))
theorem nM {lo : Int} {n : Nat} : fJ lo (n + 1) = .int lo :: fJ (lo + 1) n := by
 unfold fJ;rw [List.range_succ_eq_map, aK, iU]
 congr 1
 ·simp
 ·apply hZ
  intro k _;simp only [Function.comp]
  congr 1
  omega
abbrev rm (S : aQ) (q : Nat) (m : Int) : aQ := S.set q (.lst [.int m])
theorem EG {bs : List (List Stt)} : (bls bs).length = bs.length := by simp [bls]
theorem Mx {ns : List Int} {lo hi : Option Int} : ∃ ms : List Int, cutD (ns.map D.int) lo hi = ms.map D.int /\ ms.length <= ns.length := by
 refine ⟨(ns.drop (HT.sIx (ns.map D.int).length 0 lo)).take (HT.sIx (ns.map D.int).length (ns.map D.int).length hi - HT.sIx (ns.map D.int).length 0 lo), ?_, ?_⟩
 ·simp only [cutD, List.map_take, List.map_drop]
 ·simp; omega
theorem Nv {ns : List Int} {S : aQ} (hn : ns.length <= 63) : ∃ ks : List Int, xT [.scr ns] S = .ok (.cel S.length) (S ++ [PL ks]) /\ 2 <= ks.length := by
 obtain ⟨ms, e, hl⟩ := Mx (ns := ns) (lo := none) (hi := some 63);rw [show xT [.scr ns] S = cL (yS [some (.scr ns), none] S) from rfl]
 unfold yS;simp! [e];rw [gV (g := D.int) (sz (by omega)) fun i hi => ⟨_, rfl, ?_⟩]
 ·cases ms with
  | nil =>
   refine ⟨[0, 0], ?_, by simp⟩
   simp! [bC, List.isEmpty_nil, oE (show [D.int 0].length + [D.int 0].length <= sizeLine from sz (by simp))]
   rfl
  | cons i r =>
   refine ⟨0 :: i :: r, ?_, by simp⟩
   simp! [aK, List.isEmpty_cons, oE (show [D.int 0].length + (D.int i :: r.map D.int).length <= sizeLine from sz (by simp at *; omega))]
   rfl
 ·simp! [if_true]
theorem QS {T : aQ} {d : D} : trunc 0 (.ok (.dat d) T) = .ok (.dat d) [] := by simp [trunc, Vl.below]
section
variable {p q c N : Nat} {many r l : Int} {S : aQ}
theorem Qc {S : aQ} {i j : Nat} {x : Cell} (h : i ≠ j) : (S.set i x)[j]? = S[j]? := by rw [aV, if_neg h]
end
mutual
def Stt.Gd (many : Int) : Stt -> Nat -> Prop
 | .cmd c, _ => c.Ok
 | .fin w, _ => 0 <= w /\ w <= 1
 | .keep b, n => 0 < n /\ GdL many b (n - 1)
 | .again b, n => 0 < n /\ GdL many b (n - 1)
 | .either a b, n => 0 < n /\ GdL many a (n - 1) /\ GdL many b (n - 1)
 | .call g _ a b, n => (0 < n /\ 0 <= g /\ g < many) /\ GdL many a (n - 1) /\ GdL many b (n - 1)
 | .bad, _ => False
 | .odd _, _ => False
def GdL (many : Int) : List Stt -> Nat -> Prop
 | [], _ => True
 | s :: r, n => s.Gd many n /\ GdL many r n
end
mutual
def Stt.size : Stt -> Nat
 | .keep b => kE b + 1
 | .again b => kE b + 1
 | .either a b => kE a + kE b + 1
 | .call _ _ a b => kE a + kE b + 1
 | _ => 1
def kE : List Stt -> Nat
 | [] => 0
 | s :: r => s.size + kE r
end
theorem size_pos (s : Stt) : 1 <= s.size := by cases s <;> simp [Stt.size]
theorem CZ : ∀ l : List Stt, l.length <= kE l
 | [] => bS _
 | s :: r => by have := CZ r; have := size_pos s; simp [kE]; omega
theorem ds1 {s : Stt} : [s.d] = cD [s] := rfl
structure Bk (p n N : Nat) (S0 : aQ) (many l : Int) (bs : List (List Stt)) (T : aQ) : Prop where
 ls : LS T
 n2 : 2 <= N
 hp : p < n
 len : n + 2 <= T.length
 pool : ∃ ks, T[p]? = some (PL ks) /\ ks.length = N
 call : T[n]? = some (PL [l, many])
 bod : T[n + 1]? = some (.lst (bls bs))
 old : ∀ i, i < n -> i ≠ p -> T[i]? = S0[i]?
inductive Bd where
 | blk (b : List Stt) | no (x : D)
def pre (i : Int) (p : List Int × Stt) : List Int × Stt := (i :: p.1, p.2)
theorem take_set {T : aQ} {n c : Nat} {x : Cell} (h : n <= c) : (T.set c x).take n = T.take n := by
 apply gS
 intro i;rw [eO, eO]
 by_cases hi : i < n
 ·rw [if_pos hi, if_pos hi, Qc (by omega)]
 ·rw [if_neg hi, if_neg hi]
theorem Ep : ∀ {l : List Stt} {s : Stt}, s ∈ l -> s.size <= kE l
 | x :: r, s, h => by
  rcases bH.mp h with rfl | h
  ·simp [kE]
  ·have := Ep h; simp [kE]; omega
def Cmd.word : Cmd -> Str
 | .go _ => "go"
 | .turn _ => "turn"
 | .mirror => "mirror"
 | .scale _ => "scale"
 | .aim _ _ => "aim"
 | .place _ _ => "place"
 | .mark => "mark"
 | .ret => "return"
 | .exch => "exchange"
def Stt.word : Stt -> Str
 | .cmd c => c.word
 | .fin _ => "end"
 | .keep _ => "keep"
 | .again _ => "again"
 | .either _ _ => "either"
 | .call _ _ _ _ => "call"
 | _ => "bad"
theorem Dr {s : Stt} {S : aQ} (h : s.isOdd = false) : bR (.dat s.d) (.dat (.int 0)) S = .ok (.dat (.str s.word)) S := by
 cases s with
 | cmd c => cases c <;> rfl
 | odd x => cases h
 | _ => rfl
def stZ : List Int -> List Stt -> Option Stt
 | [], _ => none
 | [i], l => if 0 <= i then l[i.toNat]? else none
 | i :: j :: r, l => if 0 <= i /\ 0 <= j then (match l[i.toNat]? with
  | some s => (match s.blocks[j.toNat]? with
   | some b => stZ r b
   | none => none)
  | none => none) else none
theorem Pc {S : aQ} {a0 a1 : Option Vl} {many : Int} : ∀ (m : Nat) (π : List Int) (l : List Stt) (k n : Nat) (x : Vl) (s : Stt), π.length <= m -> OkL many l k -> n % 2 = 0 -> stZ π l = some s ->
  ∃ (b : Vl), loop (.tp [4, 5]) jI (dX n (π.map D.int)) [a0, a1, some x, some (.dat (.lst (cD l))), none, none] S = .next [a0, a1, some (.dat s.d), some b, none, none] S /\ ∃ j, j <= k /\ s.Ok many j
 | m, [], l, k, n, x, s, _, _, _, h => by cases h
 | m, [i], l, k, n, x, s, hm, ho, hn, h => by
  simp only [stZ] at h;split at h
  ·rename_i hi
   have hlt : i.toNat < l.length := (aG.mp h).1;have hs := ho.mem s (bI h);have hix : atI (cD l) i = some s.d := by
    rw [gM (n := i.toNat) (by omega), pT, bT, h]
    rfl
   rw [aK, dX, loop];simp only [oK, iV, aJ, aZ, if_true, cO, bO];rw [jI];simp! [dZ, decide_eq_true hi, fR, decide_eq_true (show i < (l.length : Int) by omega), pN (show (0 : Int) < 2 by decide), decide_eq_true (show ((n : Nat) : Int) % 2 = 0 by omega), tD hix, vH hs.no, bC, dX, loop]
   exact ⟨_, rfl, k, bS _, hs⟩
  ·cases h
 | 0, i :: j :: r, l, k, n, x, s, hm, _, _, _ => by simp at hm
 | m + 1, i :: j :: r, l, k, n, x, s, hm, ho, hn, h => by
  simp only [stZ] at h;split at h
  ·rename_i hij
   cases q : l[i.toNat]? with
   | none => rw [q] at h; cases h
   | some t =>
    rw [q] at h;dsimp only at h;cases q2 : t.blocks[j.toNat]? with
    | none => rw [q2] at h; cases h
    | some b =>
     rw [q2] at h;dsimp only at h;have hlt : i.toNat < l.length := (aG.mp q).1;have hlt2 : j.toNat < t.blocks.length := (aG.mp q2).1;have ht := ho.mem t (bI q);obtain ⟨hk, hb⟩ := A6 ht b (bI q2);have hix : atI (cD l) i = some t.d := by
      rw [gM (n := i.toNat) (by omega), pT, bT, q]
      rfl
     have hix2 : atI (bls t.blocks) j = some (.lst (cD b)) := by
      rw [gM (n := j.toNat) (by omega)]
      simp [bls, q2]
     simp only [aJ] at hm;obtain ⟨c, e, j', h1, h2⟩ := Pc (S := S) (a0 := a0) (a1 := a1) m r b (k - 1) (n + 1 + 1) (.dat t.d) s (by omega) hb (by omega) h
     refine ⟨c, ?_, j', by omega, h2⟩
     rw [aK, aK, dX, loop];simp only [oK, iV, aJ, aZ, if_true, cO, bO];rw [jI];simp! [dZ, decide_eq_true hij.1, fR, decide_eq_true (show i < (l.length : Int) by omega), pN (show (0 : Int) < 2 by decide), decide_eq_true (show ((n : Nat) : Int) % 2 = 0 by omega), tD hix, vH ht.no]
     rw [dX, loop];simp only [oK, iV, aJ, aZ, if_true, cO, bO];simp! [dZ, decide_eq_true hij.2, EG, decide_eq_true (show j < (t.blocks.length : Int) by omega), pN (show (0 : Int) < 2 by decide), decide_eq_false (show ¬ ((n + 1 : Nat) : Int) % 2 = 0 by omega), tD hix2]
     rw [<- jI];exact e
  ·cases h
theorem Lx {S : aQ} {bs : List (List Stt)} {p : Int} (hl : bs.length <= 10) : kP [.dat (iZ bs), .dat (.int p)] S = .ok (.dat (.bl (decide (0 <= p) && decide (p < (bs.length : Int))))) S := by
 rw [Ab];unfold kQ;simp! [dZ, LY hl]
 by_cases h : 0 <= p
 ·simp! [decide_eq_true h, LY hl]; rfl
 ·simp! [decide_eq_false h]; rfl
mutual
def repS (x : D) (k : Nat) : Stt -> Stt
 | .keep b => .keep (repL x k b)
 | .again b => .again (repL x k b)
 | .either a b => if k < kE a then .either (repL x k a) b else .either a (repL x (k - kE a) b)
 | .call g f a b => if k < kE a then .call g f (repL x k a) b else .call g f a (repL x (k - kE a) b)
 | s => s
def repL (x : D) (k : Nat) : List Stt -> List Stt
 | [] => []
 | s :: r => if k = 0 then .odd x :: r else if k < s.size then repS x (k - 1) s :: r else s :: repL x (k - s.size) r
end
inductive Deed where
 | cmd (c : Cmd) | op | cl
def Deed.d : Deed -> D
 | .cmd c => c.d
 | .op => .tup [.str "open"]
 | .cl => .tup [.str "close"]
abbrev fT := Int × Bool × List Stt × List Stt
def QL (c : fT) : D := (Stt.call c.1 c.2.1 c.2.2.1 c.2.2.2).d
inductive Task where
 | lst (l : List Stt) (i : Nat) | close | again (b : List Stt) | call (p : Nat) (st : Option fT)
def Task.d : Task -> D
 | .lst l i => .tup [.str "list", .lst (cD l), .int (i : Int)]
 | .close => .tup [.str "close"]
 | .again b => .tup [.str "again", .lst (cD b)]
 | .call p none => .tup [.str "call", .int (p : Int), .non]
 | .call p (some c) => .tup [.str "call", .int (p : Int), QL c]
structure Mc where
 bs : List (List Stt)
 bits : List Int
 taken : Nat
 deeds : List Deed
 stk : List Task
 act : List (List Nat)
 ended : Int
def rK {α : Type} (f : α -> D) (l : List α) : List D := l.reverse.map f
theorem rvD_cons {α : Type} {f : α -> D} {x : α} {l : List α} : rK f (x :: l) = rK f l ++ [f x] := by simp [rK]
theorem mV {α : Type} {f : α -> D} {l : List α} : (rK f l).length = l.length := by simp [rK]
abbrev BZ (n : Nat) : D := .int (n : Int)
def HH (n : Nat) (m : Mc) : Cell := .ins "Execution" [("own", .dat (.lst (bls m.bs))), ("bits", .dat (.lst (m.bits.map D.int))), ("taken", .dat (.int (m.taken : Int))), ("deeds", .cel (n + 1)), ("stack", .cel (n + 2)), ("active", .cels (eI (n + 3) m.act.length)), ("ended", .dat (.int m.ended))]
def eB (S0 : aQ) (m : Mc) : aQ := S0 ++ (HH S0.length m :: .lst (m.deeds.map Deed.d) :: .lst (rK Task.d m.stk) :: m.act.map fun a => .lst (rK BZ a))
section
variable {S0 : aQ} {m : Mc}
theorem qZ : (eB S0 m)[S0.length]? = some (HH S0.length m) := by simp [eB]
theorem Bv : (eB S0 m)[S0.length + 1]? = some (.lst (m.deeds.map Deed.d)) := by
 rw [eB, aX (by omega), show S0.length + 1 - S0.length = 1 by omega]; rfl
theorem uP : (eB S0 m)[S0.length + 2]? = some (.lst (rK Task.d m.stk)) := by
 rw [eB, aX (by omega), show S0.length + 2 - S0.length = 2 by omega]; rfl
theorem Bw {p : Nat} {a : List Nat} (h : m.act[p]? = some a) : (eB S0 m)[S0.length + 3 + p]? = some (.lst (rK BZ a)) := by
 rw [eB, aX (by omega), show S0.length + 3 + p - S0.length = p + 1 + 1 + 1 by omega, iN, iN, iN, bT, h]
 rfl
theorem Ig {c : Cell} : (eB S0 m).set S0.length c = S0 ++ (c :: .lst (m.deeds.map Deed.d) :: .lst (rK Task.d m.stk) :: m.act.map fun a => .lst (rK BZ a)) := by simp [eB]
theorem P9 {t : Nat} : (eB S0 m).set S0.length (HH S0.length { m with taken := t }) = eB S0 { m with taken := t } := by rw [Ig]; rfl
theorem PB {w : Int} : (eB S0 m).set S0.length (HH S0.length { m with ended := w }) = eB S0 { m with ended := w } := by rw [Ig]; rfl
theorem PD {ds : List Deed} : (eB S0 m).set (S0.length + 1) (.lst (ds.map Deed.d)) = eB S0 { m with deeds := ds } := by
 rw [eB, cY _ _ (by omega), show S0.length + 1 - S0.length = 1 by omega]; rfl
theorem EC {ks : List Task} : (eB S0 m).set (S0.length + 2) (.lst (rK Task.d ks)) = eB S0 { m with stk := ks } := by
 rw [eB, cY _ _ (by omega), show S0.length + 2 - S0.length = 2 by omega]; rfl
theorem Ie {p : Nat} {a : List Nat} : (eB S0 m).set (S0.length + 3 + p) (.lst (rK BZ a)) = eB S0 { m with act := m.act.set p a } := by
 rw [eB, cY _ _ (by omega), show S0.length + 3 + p - S0.length = p + 1 + 1 + 1 by omega, cO, cO, cO]
 simp [eB, HH, List.map_set]
theorem SI : AY "Execution" "own" (.cel S0.length) (eB S0 m) = .ok (.dat (.lst (bls m.bs))) (eB S0 m) := sM qZ rfl
theorem Dx : AY "Execution" "bits" (.cel S0.length) (eB S0 m) = .ok (.dat (.lst (m.bits.map D.int))) (eB S0 m) := sM qZ rfl
theorem nW : AY "Execution" "taken" (.cel S0.length) (eB S0 m) = .ok (.dat (.int (m.taken : Int))) (eB S0 m) := sM qZ rfl
theorem pR : AY "Execution" "deeds" (.cel S0.length) (eB S0 m) = .ok (.cel (S0.length + 1)) (eB S0 m) := sM qZ rfl
theorem fE : AY "Execution" "stack" (.cel S0.length) (eB S0 m) = .ok (.cel (S0.length + 2)) (eB S0 m) := sM qZ rfl
theorem zZ : AY "Execution" "active" (.cel S0.length) (eB S0 m) = .ok (.cels (eI (S0.length + 3) m.act.length)) (eB S0 m) := sM qZ rfl
theorem Ma : AY "Execution" "ended" (.cel S0.length) (eB S0 m) = .ok (.dat (.int m.ended)) (eB S0 m) := sM qZ rfl
theorem zT {p : Nat} (h : p < m.act.length) : bR (.cels (eI (S0.length + 3) m.act.length)) (.dat (.int (p : Int))) (eB S0 m) = .ok (.cel (S0.length + 3 + p)) (eB S0 m) := by
 have : atI (eI (S0.length + 3) m.act.length) (p : Int) = some (S0.length + 3 + p) := by
  rw [gM (n := p) rfl];simp [h]
 simp only [bR, this]
theorem yE {f : Str} (h : ∀ x ∈ (["own", "bits", "taken", "deeds", "stack", "active", "ended"] : List Str), x ≠ f) : pM (eB S0 m) "Execution" f (.cel S0.length) = true := by
 have e := qZ (S0 := S0) (m := m);simp only [pM, e, HH];simp [h]
theorem JG {ρ : Ev} {w : Int} : wG "Execution" "ended" ρ (.dat (.int w)) (.cel S0.length) (eB S0 m) = .next ρ (eB S0 { m with ended := w }) := by
 rw [Bp (fs := [("own", .dat (.lst (bls m.bs))), ("bits", .dat (.lst (m.bits.map D.int))), ("taken", .dat (.int (m.taken : Int))), ("deeds", .cel (S0.length + 1)), ("stack", .cel (S0.length + 2)), ("active", .cels (eI (S0.length + 3) m.act.length)), ("ended", .dat (.int m.ended))]) qZ (by simp)]
 congr 1
 simp only [nN, DW, String.reduceEq, if_false, if_true];exact PB (S0 := S0) (m := m) (w := w)
theorem KB {ρ : Ev} {o e : FE} (ho : o ρ (eB S0 m) = .ok (.cel S0.length) (eB S0 m)) (he : e ρ (eB S0 m) = .ok (.dat (.int 1)) (eB S0 m)) : Cs (fun x y => x + y) "Execution" "taken" o e ρ (eB S0 m) = .next ρ (eB S0 { m with taken := m.taken + 1 }) := by
 rw [Pb (w := 1) (u := (m.taken : Int)) ho he qZ rfl (by simp)]
 congr 1
 simp only [nN, DW, String.reduceEq, if_false, if_true];exact P9 (S0 := S0) (m := m) (t := m.taken + 1)
end
theorem Ga {n : Nat} (h : n < 10000000) : n < sizeLine := Nat.lt_trans h (by decide)
structure Mc.Fit (m : Mc) : Prop where
 d : m.deeds.length < 4000000
 k : m.stk.length < 4000000
 a : ∀ a ∈ m.act, a.length < 4000000
section
variable {S0 : aQ} {m : Mc}
theorem oZ {ρ : Ev} {b : FE} {t : Task} (F : m.stk.length < 5000000) (hb : b ρ (eB S0 m) = .ok (.dat t.d) (eB S0 m)) : vO b ρ (.cel (S0.length + 2)) (eB S0 m) = .ok (.dat .non) (eB S0 { m with stk := t :: m.stk }) := by
 rw [oD uP, hb, eA, pP uP (by rw [mV]; exact Ga (by omega)), <- rvD_cons, EC]
theorem pA {ρ : Ev} {b : FE} {t : Deed} (F : m.deeds.length < 5000000) (hb : b ρ (eB S0 m) = .ok (.dat t.d) (eB S0 m)) : vO b ρ (.cel (S0.length + 1)) (eB S0 m) = .ok (.dat .non) (eB S0 { m with deeds := m.deeds ++ [t] }) := by
 rw [oD Bv, hb, eA, pP Bv (by rw [aN]; exact Ga (by omega)), show m.deeds.map Deed.d ++ [t.d] = (m.deeds ++ [t]).map Deed.d by simp, PD]
theorem Pd {ρ : Ev} {b : FE} {p k : Nat} {a : List Nat} (h : m.act[p]? = some a) (F : a.length < 5000000) (hb : b ρ (eB S0 m) = .ok (.dat (.int (k : Int))) (eB S0 m)) : vO b ρ (.cel (S0.length + 3 + p)) (eB S0 m) = .ok (.dat .non) (eB S0 { m with act := m.act.set p (k :: a) }) := by
 rw [oD (Bw h), hb, eA, pP (Bw h) (by rw [mV]; exact Ga (by omega)), show rK BZ a ++ [.int (k : Int)] = rK BZ (k :: a) from rvD_cons.symm, Ie]
theorem xJ {t : Task} {r : List Task} (h : m.stk = t :: r) : qY (.cel (S0.length + 2)) (eB S0 m) = .ok (.dat t.d) (eB S0 { m with stk := r }) := by
 have e := uP (S0 := S0) (m := m);rw [h, rvD_cons] at e;simp only [qY, e];rw [show (rK Task.d r ++ [t.d])[(rK Task.d r ++ [t.d]).length - 1]? = some t.d by simp]
 dsimp only;rw [kB, EC]
theorem IE {p k : Nat} {a : List Nat} (h : m.act[p]? = some (k :: a)) : qY (.cel (S0.length + 3 + p)) (eB S0 m) = .ok (.dat (.int (k : Int))) (eB S0 { m with act := m.act.set p a }) := by
 have e := Bw (S0 := S0) h;rw [rvD_cons] at e;simp only [qY, e];rw [show (rK BZ a ++ [BZ k])[(rK BZ a ++ [BZ k]).length - 1]? = some (BZ k) by simp]
 dsimp only;rw [kB, Ie]
end
def uC (i : Int) : Er := ⟨"NoRun", ["index"], [.int i]⟩
theorem Hs {S0 : aQ} {m : Mc} (h : m.taken = m.bits.length) : dN [.cel S0.length] (eB S0 m) = .err (uC (m.taken : Int)) (eB S0 m) := by
 rw [rT];unfold hR;simp! [nW, Dx, aN, decide_eq_true (show ((m.taken : Nat) : Int) = (m.bits.length : Int) by omega)]
 rfl
theorem Hr {S0 : aQ} {m : Mc} {b : Int} (h : m.bits[m.taken]? = some b) : dN [.cel S0.length] (eB S0 m) = .ok (.dat (.int b)) (eB S0 { m with taken := m.taken + 1 }) := by
 have hl := (aG.mp h).1;have hix : atI (m.bits.map D.int) (((m.taken + 1 : Nat) : Int) - 1) = some (.int b) := by
  rw [gM (n := m.taken) (by omega), bT, h]; rfl
 have ea := KB (S0 := S0) (m := m) (ρ := [some (.cel S0.length)]) (o := aC 0) (e := mC (.int 1)) rfl rfl;have hf := nW (S0 := S0) (m := { m with taken := m.taken + 1 })
 have hb := Dx (S0 := S0) (m := { m with taken := m.taken + 1 })
 rw [rT];unfold hR;simp! [nW, Dx, aN, decide_eq_false (show ¬ ((m.taken : Nat) : Int) = (m.bits.length : Int) by omega), ea, hf, hb, tD hix]
 rfl
def Ht : Option fT -> D
 | none => .non
 | some c => QL c
theorem HY {p : Nat} {st : Option fT} : (Task.call p st).d = .tup [.str "call", .int (p : Int), Ht st] := by cases st <;> rfl
def Mc.free (m : Mc) (p : Nat) : Prop := ∀ a k, m.act[p]? = some (k :: a) -> k ≠ m.taken
def Mc.enter (m : Mc) (p : Nat) (a : List Nat) (b : List Stt) (st : Option fT) : Mc := { m with act := m.act.set p (m.taken :: a), stk := .lst b 0 :: .call p st :: m.stk }
theorem IP {S0 : aQ} {m : Mc} {p : Nat} {a : List Nat} (h : m.act[p]? = some a) : fF (.cel (S0.length + 3 + p)) (eB S0 m) = .ok (.dat (.int (a.length : Int))) (eB S0 m) := by rw [pO (Bw h), mV]
theorem atI_last {α : Type} {xs : List α} {x : α} : atI (xs ++ [x]) (-1) = some x := by
 have e : ixN (xs ++ [x]).length (-1) = some xs.length := by
  unfold ixN;rw [if_neg (by omega), if_pos (by simp; omega)]
  congr 1
  simp;omega
 unfold atI;rw [e];simp
theorem Fe {S0 : aQ} {m : Mc} {p k : Nat} {a : List Nat} (h : m.act[p]? = some (k :: a)) : bR (.cel (S0.length + 3 + p)) (.dat (.int (-1))) (eB S0 m) = .ok (.dat (.int (k : Int))) (eB S0 m) := by
 refine MR (Bw h) ?_
 rw [rvD_cons];exact atI_last
theorem G3 {S0 : aQ} {m : Mc} {p : Nat} {a : List Nat} {b : List Stt} {st : Option fT} (F : m.Fit) (ha : m.act[p]? = some a) (hb : m.bs[p]? = some b) (hf : m.free p) : dW [.cel S0.length, .dat (.int (p : Int)), .dat (Ht st)] (eB S0 m) = .ok (.dat .non) (eB S0 (m.enter p a b st)) := by
 have hpl := (aG.mp ha).1;have hbx : atI (bls m.bs) (p : Int) = some (.lst (cD b)) := by
  rw [gM (n := p) rfl];simp [bls, hb]
 have Fa := F.a a (bI ha);have Fk := F.k;rw [qM];unfold gL;have e1 := Pd (S0 := S0) (m := m) (k := m.taken) (ρ := [some (.cel S0.length), some (.dat (.int (p : Int))), some (.dat (Ht st)), some (.cel (S0.length + 3 + p))]) (b := gG "Execution" "taken" (aC 0)) ha (by omega) (by simp! [nW])
 have e2 := oZ (S0 := S0) (m := { m with act := m.act.set p (m.taken :: a) }) (ρ := [some (.cel S0.length), some (.dat (.int (p : Int))), some (.dat (Ht st)), some (.cel (S0.length + 3 + p))]) (b := cC (aB (mC (.str "call")) (aB (aC 1) (aB (aC 2) aO)))) (t := .call p st) (show m.stk.length < 5000000 by omega) (by simp! [HY])
 have hbx' := hbx;have e3 := oZ (S0 := S0) (m := { m with act := m.act.set p (m.taken :: a), stk := .call p st :: m.stk }) (ρ := [some (.cel S0.length), some (.dat (.int (p : Int))), some (.dat (Ht st)), some (.cel (S0.length + 3 + p))]) (b := cC (aB (mC (.str "list")) (aB (aR bR (gG "Execution" "own" (aC 0)) (aC 1)) (aB (mC (.int 0)) aO)))) (t := .lst b 0) (by simp; omega) (by simp! [SI, tD hbx]; rfl)
 have f2 := fE (S0 := S0) (m := { m with act := m.act.set p (m.taken :: a) })
 have f3 := fE (S0 := S0) (m := { m with act := m.act.set p (m.taken :: a), stk := .call p st :: m.stk })
 simp! [zZ, zT hpl, IP ha];cases a with
 | nil =>
  simp! [aZ, iY, zZ, zT hpl, e1, f2, e2, f3, e3];rfl
 | cons k a =>
  have hne : ¬ ((k : Nat) : Int) = (m.taken : Int) := fun e => hf a k ha (by omega)
  have hpos : (0 : Int) < ((a.length + 1 : Nat) : Int) := by omega
  simp! [aJ, decide_eq_true hpos, Fe ha, nW, decide_eq_false hne, zZ, zT hpl, e1, f2, e2, f3, e3];rfl
theorem Mo {S0 : aQ} {m : Mc} {p : Nat} {a : List Nat} {st : Option fT} (ha : m.act[p]? = some (m.taken :: a)) : dW [.cel S0.length, .dat (.int (p : Int)), .dat (Ht st)] (eB S0 m) = .err (uC (-2)) (eB S0 m) := by
 have hpl := (aG.mp ha).1;rw [qM];unfold gL;simp! [zZ, zT hpl, IP ha, aJ, decide_eq_true (show (0 : Int) < ((a.length + 1 : Nat) : Int) by omega), Fe ha, nW]
 rfl
def Mc.leave (m : Mc) (p : Nat) (a : List Nat) (st : Option fT) (way : Int) : Mc := match st with
 | none => { m with act := m.act.set p a, ended := way }
 | some c => { m with act := m.act.set p a, deeds := m.deeds ++ (if c.2.1 then [.cl] else []), stk := .lst (if way = 0 then c.2.2.1 else c.2.2.2) 0 :: m.stk }
theorem Lq {c : fT} {S : aQ} : bR (.dat (QL c)) (.dat (.int 2)) S = .ok (.dat (.bl c.2.1)) S := kL
theorem HD {c : fT} {S : aQ} : bR (.dat (QL c)) (.dat (.int 3)) S = .ok (.dat (.lst [.lst (cD c.2.2.1), .lst (cD c.2.2.2)])) S := Ji
theorem Lv {c : fT} : isNon (.dat (QL c)) = false := rfl
theorem FZ {S0 : aQ} {m : Mc} {p k : Nat} {a : List Nat} {st : Option fT} {way : Int} (F : m.Fit) (ha : m.act[p]? = some (k :: a)) (hw : way = 0 \/ way = 1) : gF [.cel S0.length, .dat (.int (p : Int)), .dat (Ht st), .dat (.int way)] (eB S0 m) = .ok (.dat .non) (eB S0 (m.leave p a st way)) := by
 have hpl := (aG.mp ha).1;have Fk := F.k;have Fd := F.d;rw [yY];unfold jA;cases st with
 | none =>
  have e1 := JG (S0 := S0) (m := { m with act := m.act.set p a }) (ρ := [some (.cel S0.length), some (.dat (.int (p : Int))), some (.dat .non), some (.dat (.int way))]) (w := way)
  simp! [Ht, zZ, zT hpl, IE ha, e1];rfl
 | some c =>
  have hz : ∀ S, bR (.dat (.lst [.lst (cD c.2.2.1), .lst (cD c.2.2.2)])) (.dat (.int way)) S = .ok (.dat (.lst (cD (if way = 0 then c.2.2.1 else c.2.2.2)))) S := fun S => by
   rcases hw with rfl | rfl
   ·exact zU
   ·exact AZ
  have e1 := pA (S0 := S0) (m := { m with act := m.act.set p a }) (ρ := [some (.cel S0.length), some (.dat (.int (p : Int))), some (.dat (QL c)), some (.dat (.int way))]) (b := cC (aB (mC (.str "close")) aO)) (t := .cl) (show m.deeds.length < 5000000 by omega) (by simp! [Deed.d])
  have e2 := fun ds => oZ (S0 := S0) (m := { m with act := m.act.set p a, deeds := ds }) (ρ := [some (.cel S0.length), some (.dat (.int (p : Int))), some (.dat (QL c)), some (.dat (.int way))]) (b := cC (aB (mC (.str "list")) (aB (aR bR (aR bR (aC 2) (mC (.int 3))) (aC 3)) (aB (mC (.int 0)) aO)))) (t := .lst (if way = 0 then c.2.2.1 else c.2.2.2) 0) (show m.stk.length < 5000000 by omega) (by simp! [HD, hz]; rfl)
  have f1 := pR (S0 := S0) (m := { m with act := m.act.set p a })
  have f2 := fun ds => fE (S0 := S0) (m := { m with act := m.act.set p a, deeds := ds })
  have e2' := e2 m.deeds;have f2' := f2 m.deeds;simp! [Ht, zZ, zT hpl, IE ha, Lv, Lq];cases q : c.2.1 with
  | true =>
   simp! [f1, e1, f2, e2];simp only [Mc.leave, q];rfl
  | false =>
   simp! [f2', e2'];simp only [Mc.leave, q];simp;rfl
def wQ : List Task -> List Deed -> Option (List Deed × Nat × Option fT × List Task)
 | [], _ => none
 | .call p st :: r, ds => some (ds, p, st, r)
 | .close :: r, ds => wQ r (ds ++ [.cl])
 | .lst _ _ :: r, ds => wQ r ds
 | .again _ :: r, ds => wQ r ds
def Task.word : Task -> Str
 | .lst _ _ => "list"
 | .close => "close"
 | .again _ => "again"
 | .call _ _ => "call"
theorem qC {t : Task} {S : aQ} : bR (.dat t.d) (.dat (.int 0)) S = .ok (.dat (.str t.word)) S := by
 cases t with
 | call p st => cases st <;> rfl
 | _ => rfl
theorem Ad {mt : FT} {mb : FS} {k : Nat} {ρ ρ' : Ev} {S S' : aQ} (h1 : mt ρ S = .ok true S) (h2 : mb ρ S = .next ρ' S') : pZ mt mb (k + 1) ρ S = pZ mt mb k ρ' S' := by
 rw [pZ, h1, lW, if_pos rfl, h2]
theorem KS {mt : FT} {mb : FS} {k : Nat} {ρ : Ev} {S : aQ} (h1 : mt ρ S = .ok false S) : pZ mt mb (k + 1) ρ S = .next ρ S := by
 rw [pZ, h1, lW, if_neg (by simp)]
theorem wV {S0 : aQ} {way : Vl} : ∀ (ts : List Task) (t : Task) (m : Mc) (ds : List Deed) (p : Nat) (st : Option fT) (r : List Task) (k : Nat), m.stk = ts -> wQ (t :: ts) m.deeds = some (ds, p, st, r) -> ts.length < k -> m.deeds.length + ts.length < 4500000 ->
  pZ (mB (aR GV (aR bR (aC 2) (mC (.int 0))) (mC (.str "call")))) dM k [some (.cel S0.length), some way, some (.dat t.d)] (eB S0 m) = .next [some (.cel S0.length), some way, some (.dat (Task.call p st).d)] (eB S0 { m with stk := r, deeds := ds })
 | ts, .call p' st', m, ds, p, st, r, k, hs, hu, hk, hd => by
  obtain ⟨k, rfl⟩ : ∃ k', k = k' + 1 := ⟨k - 1, by omega⟩
  simp only [wQ] at hu;cases hu;rw [KS (by simp! [qC, Task.word])]
  subst hs;rfl
 | [], .close, m, ds, p, st, r, k, hs, hu, hk, hd => by simp [wQ] at hu
 | [], .lst _ _, m, ds, p, st, r, k, hs, hu, hk, hd => by simp [wQ] at hu
 | [], .again _, m, ds, p, st, r, k, hs, hu, hk, hd => by simp [wQ] at hu
 | t' :: ts, .close, m, ds, p, st, r, k, hs, hu, hk, hd => by
  simp only [aJ] at hk hd;obtain ⟨k, rfl⟩ : ∃ k', k = k' + 1 := ⟨k - 1, by omega⟩
  have e1 := pA (S0 := S0) (m := m) (ρ := [some (.cel S0.length), some way, some (.dat Task.close.d)]) (b := aC 2) (t := .cl) (by omega) rfl
  have f2 := fE (S0 := S0) (m := { m with deeds := m.deeds ++ [.cl] })
  have e2 := xJ (S0 := S0) (m := { m with deeds := m.deeds ++ [.cl] }) (t := t') (r := ts) hs
  rw [Ad (ρ' := [some (.cel S0.length), some way, some (.dat t'.d)]) (S' := eB S0 { m with deeds := m.deeds ++ [.cl], stk := ts }) (by simp! [qC, Task.word]) (by unfold dM; simp! [qC, Task.word, pR, e1, f2, e2])]
  exact wV ts t' { m with deeds := m.deeds ++ [.cl], stk := ts } ds p st r k rfl (by simpa [wQ] using hu) (by omega) (by simp; omega)
 | t' :: ts, .lst l i, m, ds, p, st, r, k, hs, hu, hk, hd => by
  simp only [aJ] at hk hd;obtain ⟨k, rfl⟩ : ∃ k', k = k' + 1 := ⟨k - 1, by omega⟩
  have e2 := xJ (S0 := S0) (m := m) (t := t') (r := ts) hs;rw [Ad (ρ' := [some (.cel S0.length), some way, some (.dat t'.d)]) (S' := eB S0 { m with stk := ts }) (by simp! [qC, Task.word]) (by unfold dM; simp! [qC, Task.word, fE, e2])]
  exact wV ts t' { m with stk := ts } ds p st r k rfl (by simpa [wQ] using hu) (by omega) (by simp; omega)
 | t' :: ts, .again l, m, ds, p, st, r, k, hs, hu, hk, hd => by
  simp only [aJ] at hk hd;obtain ⟨k, rfl⟩ : ∃ k', k = k' + 1 := ⟨k - 1, by omega⟩
  have e2 := xJ (S0 := S0) (m := m) (t := t') (r := ts) hs;rw [Ad (ρ' := [some (.cel S0.length), some way, some (.dat t'.d)]) (S' := eB S0 { m with stk := ts }) (by simp! [qC, Task.word]) (by unfold dM; simp! [qC, Task.word, fE, e2])]
  exact wV ts t' { m with stk := ts } ds p st r k rfl (by simpa [wQ] using hu) (by omega) (by simp; omega)
theorem Fh {p : Nat} {st : Option fT} {S : aQ} : bR (.dat (Task.call p st).d) (.dat (.int 1)) S = .ok (.dat (.int (p : Int))) S := by rw [HY]; exact eM
theorem Fg {p : Nat} {st : Option fT} {S : aQ} : bR (.dat (Task.call p st).d) (.dat (.int 2)) S = .ok (.dat (Ht st)) S := by rw [HY]; exact kL
theorem wW : ∀ {ts : List Task} {d0 ds : List Deed} {p : Nat} {st : Option fT} {r : List Task}, wQ ts d0 = some (ds, p, st, r) -> ds.length + r.length < d0.length + ts.length /\ r.length < ts.length
 | .call p st :: r, d0, ds, p', st', r', h => by simp [wQ] at h; obtain ⟨rfl, rfl, rfl, rfl⟩ := h; simp
 | .close :: r, d0, ds, p', st', r', h => by
  have := wW (ts := r) (show wQ r (d0 ++ [.cl]) = _ from h)
  simp at this ⊢;omega
 | .lst _ _ :: r, d0, ds, p', st', r', h => by
  have := wW (ts := r) (show wQ r d0 = _ from h)
  simp;omega
 | .again _ :: r, d0, ds, p', st', r', h => by
  have := wW (ts := r) (show wQ r d0 = _ from h)
  simp;omega
structure Mc.Sm (m : Mc) : Prop where
 k : m.stk.length < 900000
 d : m.deeds.length < 900000
 a : ∀ a ∈ m.act, a.length < 900000
theorem Mc.Sm.fit {m : Mc} (h : m.Sm) : m.Fit := ⟨by have := h.d; omega, by have := h.k; omega, fun a ha => by have := h.a a ha; omega⟩
theorem J4 {S0 : aQ} {m : Mc} {way : Int} {ds : List Deed} {p k : Nat} {st : Option fT} {r : List Task} {a : List Nat} (F : m.Sm) (hu : wQ m.stk m.deeds = some (ds, p, st, r)) (ha : m.act[p]? = some (k :: a)) (hw : way = 0 \/ way = 1) :
  iD [.cel S0.length, .dat (.int way)] (eB S0 m) = .ok (.dat .non) (eB S0 (({ m with stk := r, deeds := ds } : Mc).leave p a st way)) := by
 have Fk := F.k;have Fd := F.d;cases hs : m.stk with
 | nil => rw [hs] at hu; simp [wQ] at hu
 | cons t ts =>
  rw [hs] at hu;have hlen := wW hu;rw [hs] at Fk;simp only [aJ] at Fk hlen;have e1 := xJ (S0 := S0) hs;have e2 := wV (S0 := S0) (way := .dat (.int way)) ts t { m with stk := ts } ds p st r 1000000 rfl hu (by omega) (by simp; omega)
  have e3 := FZ (S0 := S0) (m := { m with stk := r, deeds := ds }) (st := st) (way := way) ⟨by simp; omega, by simp; omega, F.fit.a⟩ ha hw
  have hi := yE (S0 := S0) (m := { m with stk := r, deeds := ds }) (f := "leave") (by decide)
  rw [wO];unfold iL;simp! [fE, e1, zO, e2, iI hi, Fh, Fg, e3];rfl
inductive SR where
 | ok (m : Mc) | err (i : Int) (m : Mc) | no
def hL (s : Stt) (m : Mc) : SR := match s with
 | .cmd c => .ok { m with deeds := m.deeds ++ [.cmd c] }
 | .fin w => (match wQ m.stk m.deeds with
  | some (ds, p, st, r) => (match m.act[p]? with
   | some (_ :: a) => .ok (({ m with stk := r, deeds := ds } : Mc).leave p a st w)
   | _ => .no)
  | none => .no)
 | .keep b => .ok { m with deeds := m.deeds ++ [.op], stk := .lst b 0 :: .close :: m.stk }
 | .either x y => (match m.bits[m.taken]? with
  | none => .err (m.taken : Int) m
  | some b => .ok { m with taken := m.taken + 1, stk := .lst (if b = 0 then x else y) 0 :: m.stk })
 | .again b => .ok { m with stk := .again b :: m.stk }
 | .call g f x y => (match m.act[g.toNat]?, m.bs[g.toNat]? with
  | some a, some b => if a.head? = some m.taken then .err (-2) { m with deeds := m.deeds ++ (if f then [.op] else []) } else .ok (({ m with deeds := m.deeds ++ (if f then [.op] else []) } : Mc).enter g.toNat a b (some (g, f, x, y)))
  | _, _ => .no)
 | _ => .no
def eF (m : Mc) : SR := match m.stk with
 | [] => .no
 | .lst l i :: r => (match l[i]? with
  | none => .ok { m with stk := r }
  | some s => hL s { m with stk := .lst l (i + 1) :: r })
 | .close :: r => .ok { m with stk := r, deeds := m.deeds ++ [.cl] }
 | .again b :: r => (match m.bits[m.taken]? with
  | none => .err (m.taken : Int) { m with stk := r }
  | some x => if x = 1 then .ok { m with taken := m.taken + 1, stk := .lst b 0 :: .again b :: r } else .ok { m with taken := m.taken + 1, stk := r })
 | .call p st :: r => (match m.act[p]? with
  | some (_ :: a) => .ok (({ m with stk := r } : Mc).leave p a st 0)
  | _ => .no)
def Sf (r : Res Vl) (S0 : aQ) (x : SR) : Prop := match x with
 | .ok m => r = .ok (.dat .non) (eB S0 m)
 | .err i m => r = .err (uC i) (eB S0 m)
 | .no => True
structure Mc.Wf (m : Mc) : Prop where
 t : m.taken <= m.bits.length
 b : ∀ b ∈ m.bits, b = 0 \/ b = 1
theorem NA {S0 : aQ} {m m' : Mc} {ρ : Ev} {b : FE} {t : Task} (F : m'.stk.length < 5000000) (hb : b ρ (eB S0 m) = .ok (.dat t.d) (eB S0 m')) : vO b ρ (.cel (S0.length + 2)) (eB S0 m) = .ok (.dat .non) (eB S0 { m' with stk := t :: m'.stk }) := by
 rw [oD uP, hb, eA, pP uP (by rw [mV]; exact Ga (by omega)), <- rvD_cons, EC]
theorem N9 {S0 : aQ} {m m' : Mc} {ρ : Ev} {b : FE} {e : Er} (hb : b ρ (eB S0 m) = .err e (eB S0 m')) : vO b ρ (.cel (S0.length + 2)) (eB S0 m) = .err e (eB S0 m') := by
 rw [oD uP, hb, Bq]
theorem N5 {S0 : aQ} {m : Mc} {s : Stt} {many : Int} {k : Nat} (ho : s.Ok many k) (F : m.Sm) (W : m.Wf) : Sf (iW [.cel S0.length, .dat s.d] (eB S0 m)) S0 (hL s m) := by
 have Fk := F.k;have Fd := F.d;rw [yZ];unfold jB;cases s with
 | bad => trivial
 | odd x => trivial
 | cmd c =>
  have e1 := pA (S0 := S0) (m := m) (ρ := [some (.cel S0.length), some (.dat c.d), some (.dat (.str (Stt.cmd c).word))]) (b := aC 1) (t := .cmd c) (by omega) rfl
  have hw : ∀ S, bR (.dat c.d) (.dat (.int 0)) S = .ok (.dat (.str (Stt.cmd c).word)) S := fun S => Dr (s := .cmd c) rfl
  show _ = _
  simp! [Stt.d, hw, HF ho, pR, e1];rfl
 | fin w =>
  simp only [hL];cases hu : wQ m.stk m.deeds with
  | none => trivial
  | some x =>
   obtain ⟨ds, p, st, r⟩ := x;dsimp only;cases ha : m.act[p]? with
   | none => trivial
   | some l =>
    cases l with
    | nil => trivial
    | cons k0 a =>
     have e1 := J4 (S0 := S0) (way := w) F hu ha (by obtain ⟨h1, h2⟩ := ho; omega)
     have hi := yE (S0 := S0) (m := m) (f := "unwind") (by decide)
     show _ = _
     simp! [Stt.d, cK, eM, jD IW, iI hi, e1];rfl
 | keep b =>
  have e1 := pA (S0 := S0) (m := m) (ρ := [some (.cel S0.length), some (.dat (.tup [.str "keep", .lst (cD b)])), some (.dat (.str "keep"))]) (b := cC (aB (mC (.str "open")) aO)) (t := .op) (by omega) (by simp! [Deed.d])
  have e2 := oZ (S0 := S0) (m := { m with deeds := m.deeds ++ [.op] }) (ρ := [some (.cel S0.length), some (.dat (.tup [.str "keep", .lst (cD b)])), some (.dat (.str "keep"))]) (b := cC (aB (mC (.str "close")) aO)) (t := .close) (show m.stk.length < 5000000 by omega) (by simp! [Task.d])
  have e3 := oZ (S0 := S0) (m := { m with deeds := m.deeds ++ [.op], stk := .close :: m.stk }) (ρ := [some (.cel S0.length), some (.dat (.tup [.str "keep", .lst (cD b)])), some (.dat (.str "keep"))]) (b := cC (aB (mC (.str "list")) (aB (aR bR (aC 1) (mC (.int 1))) (aB (mC (.int 0)) aO)))) (t := .lst b 0) (by simp; omega) (by simp! [eM]; rfl)
  have f2 := fE (S0 := S0) (m := { m with deeds := m.deeds ++ [.op] })
  have f3 := fE (S0 := S0) (m := { m with deeds := m.deeds ++ [.op], stk := .close :: m.stk })
  show _ = _
  simp! [Stt.d, cK, jD Bo, pR, e1, f2, e2, f3, e3];rfl
 | either x y =>
  simp only [hL];have hi := yE (S0 := S0) (m := m) (f := "take") (by decide)
  cases hb : m.bits[m.taken]? with
  | none =>
   have e1 := Hs (S0 := S0) (m := m) (by have := W.t; have := gQ.mp hb; omega)
   have e2 := N9 (S0 := S0) (m := m) (m' := m) (e := uC (m.taken : Int)) (ρ := [some (.cel S0.length), some (.dat (.tup [.str "either", .lst (cD x), .lst (cD y)])), some (.dat (.str "either"))]) (b := cC (aB (mC (.str "list")) (aB (aR bR (aC 1) (aR (dR false) (mC (.int 1)) (pK "Execution" "take" dN (aC 0) aO))) (aB (mC (.int 0)) aO)))) (by simp! [iI hi, e1])
   show _ = _
   simp! [Stt.d, cK, jD sL, fE, e2];rfl
  | some b =>
   have e1 := Hr (S0 := S0) hb;have hix : ∀ S, bR (.dat (.tup [.str "either", .lst (cD x), .lst (cD y)])) (.dat (.int (1 + b))) S = .ok (.dat (.lst (cD (if b = 0 then x else y)))) S := fun S => by
    rcases W.b b (bI hb) with rfl | rfl
    ·exact eM
    ·exact kL
   have e2 := NA (S0 := S0) (m := m) (m' := { m with taken := m.taken + 1 }) (ρ := [some (.cel S0.length), some (.dat (.tup [.str "either", .lst (cD x), .lst (cD y)])), some (.dat (.str "either"))]) (b := cC (aB (mC (.str "list")) (aB (aR bR (aC 1) (aR (dR false) (mC (.int 1)) (pK "Execution" "take" dN (aC 0) aO))) (aB (mC (.int 0)) aO)))) (t := .lst (if b = 0 then x else y) 0) (show m.stk.length < 5000000 by omega) (by simp! [iI hi, e1, hix]; rfl)
   show _ = _
   simp! [Stt.d, cK, jD sL, fE, e2];rfl
 | again b =>
  have e2 := oZ (S0 := S0) (m := m) (ρ := [some (.cel S0.length), some (.dat (.tup [.str "again", .lst (cD b)])), some (.dat (.str "again"))]) (b := cC (aB (mC (.str "again")) (aB (aR bR (aC 1) (mC (.int 1))) aO))) (t := .again b) (by omega) (by simp! [eM]; rfl)
  show _ = _
  simp! [Stt.d, cK, jD zV, fE, e2];rfl
 | call g f x y =>
  obtain ⟨⟨_, g0, g1⟩, _⟩ := ho;simp only [hL];have hgn : g = (g.toNat : Int) := by omega
  cases ha : m.act[g.toNat]? with
  | none => trivial
  | some a =>
   cases hb : m.bs[g.toNat]? with
   | none => trivial
   | some b =>
    dsimp only;have main : ∀ ds : List Deed, ds.length <= m.deeds.length + 1 -> Sf (dW [.cel S0.length, .dat (.int g), .dat (Ht (some (g, f, x, y)))] (eB S0 { m with deeds := ds })) S0 (if a.head? = some m.taken then .err (-2) { m with deeds := ds } else .ok (({ m with deeds := ds } : Mc).enter g.toNat a b (some (g, f, x, y)))) := fun ds hds => by
     rw [show (D.int g) = D.int ((g.toNat : Nat) : Int) by rw [<- hgn]]
     split
     ·rename_i hh
      cases a with
      | nil => simp at hh
      | cons k0 a =>
       simp at hh;subst hh;exact Mo (m := { m with deeds := ds }) ha
     ·rename_i hh
      refine G3 (m := { m with deeds := ds }) ⟨by simp; omega, by simp; omega, F.fit.a⟩ ha hb (fun a' k' h' e => hh ?_)
      have h2 : m.act[g.toNat]? = some (k' :: a') := h';rw [ha] at h2;cases h2;simp [e]
    have hd : (Stt.call g f x y).d = Ht (some (g, f, x, y)) := rfl;have hsd : Ht (some (g, f, x, y)) = .tup [.str "call", .int g, .bl f, .lst [.lst (cD x), .lst (cD y)]] := rfl;have hi := fun ds => yE (S0 := S0) (m := { m with deeds := ds }) (f := "enter") (by decide)
    cases f with
    | false =>
     have mm := main m.deeds (by omega)
     have hi0 := hi m.deeds;simp only [A9, if_false, cS];rw [hsd] at mm;simp! [Stt.d, cK, eM, kL, jD yF, iI hi0]
     revert mm
     split
     ·intro mm
      have mm' : _ = _ := mm
      show _ = _
      simp! [mm'];rfl
     ·intro mm
      have mm' : _ = _ := mm
      show _ = _
      simp! [mm'];rfl
    | true =>
     have mm := main (m.deeds ++ [.op]) (by simp)
     have e1 := pA (S0 := S0) (m := m) (ρ := [some (.cel S0.length), some (.dat (.tup [.str "call", .int g, .bl true, .lst [.lst (cD x), .lst (cD y)]])), some (.dat (.str "call"))]) (b := cC (aB (mC (.str "open")) aO)) (t := .op) (by omega) (by simp! [Deed.d])
     simp only [if_true];rw [hsd] at mm;simp! [Stt.d, cK, eM, kL, jD yF, pR, e1, iI (hi (m.deeds ++ [.op]))]
     revert mm
     split
     ·intro mm
      have mm' : _ = _ := mm
      show _ = _
      simp! [mm'];rfl
     ·intro mm
      have mm' : _ = _ := mm
      show _ = _
      simp! [mm'];rfl
def NG (many : Int) (b : List Stt) : Prop := ∃ k, OkL many b k
def Task.OkT (many : Int) : Task -> Prop
 | .lst l _ => NG many l
 | .close => True
 | .again b => NG many b
 | .call _ none => True
 | .call _ (some c) => NG many c.2.2.1 /\ NG many c.2.2.2
theorem NZ {S0 : aQ} {m : Mc} {many : Int} (T : ∀ t ∈ m.stk, t.OkT many) (F : m.Sm) (W : m.Wf) : Sf (jK [.cel S0.length] (eB S0 m)) S0 (eF m) := by
 have Fk := F.k;have Fd := F.d;rw [A7];unfold jS;cases hs : m.stk with
 | nil => simp only [eF, hs]; trivial
 | cons t r =>
  have hT := T t (by rw [hs]; exact aY ..)
  rw [hs] at Fk;simp only [aJ] at Fk;have ep := xJ (S0 := S0) hs;simp only [eF, hs];cases t with
  | lst l i =>
   obtain ⟨k, hl⟩ := hT;dsimp only;have h1 : ∀ S, bR (.dat (Task.lst l i).d) (.dat (.int 1)) S = .ok (.dat (.lst (cD l))) S := fun _ => eM
   have h2 : ∀ S, bR (.dat (Task.lst l i).d) (.dat (.int 2)) S = .ok (.dat (.int (i : Int))) S := fun _ => kL
   cases hi : l[i]? with
   | none =>
    have := gQ.mp hi
    show _ = _
    simp! [fE, ep, qC, Task.word, h1, h2, fR, decide_eq_false (show ¬ ((i : Nat) : Int) < (l.length : Int) by omega)]
    rfl
   | some s =>
    have hil := (aG.mp hi).1;have hs' := hl.mem s (bI hi);have hix : atI (cD l) (i : Int) = some s.d := by
     rw [gM (n := i) rfl, pT, bT, hi]; rfl
    have e1 := oZ (S0 := S0) (m := { m with stk := r }) (ρ := [some (.cel S0.length), some (.dat (Task.lst l i).d)]) (b := cC (aB (mC (.str "list")) (aB (aR bR (aC 1) (mC (.int 1))) (aB (aR (dR false) (aR bR (aC 1) (mC (.int 2))) (mC (.int 1))) aO)))) (t := .lst l (i + 1)) (show r.length < 5000000 by omega) (by simp! [h1, h2]; rfl)
    have f1 := fE (S0 := S0) (m := { m with stk := r })
    have hi' := yE (S0 := S0) (m := { m with stk := .lst l (i + 1) :: r }) (f := "begin") (by decide)
    have bg := N5 (S0 := S0) (m := { m with stk := .lst l (i + 1) :: r }) hs' ⟨by simp; omega, by simp; omega, F.a⟩ ⟨W.t, W.b⟩
    simp! [fE, ep, qC, Task.word, h1, h2, fR, decide_eq_true (show ((i : Nat) : Int) < (l.length : Int) by omega), f1, e1, tD hix, iI hi']
    revert bg
    cases hL s { m with stk := .lst l (i + 1) :: r } with
    | no => intro _; trivial
    | ok m' => intro bg; have bg' : _ = _ := bg; show _ = _; simp! [bg']; rfl
    | err j m' => intro bg; have bg' : _ = _ := bg; show _ = _; simp! [bg']; rfl
  | close =>
   dsimp only;have e1 := pA (S0 := S0) (m := { m with stk := r }) (ρ := [some (.cel S0.length), some (.dat Task.close.d)]) (b := aC 1) (t := .cl) (show m.deeds.length < 5000000 by omega) rfl
   have f1 := pR (S0 := S0) (m := { m with stk := r })
   show _ = _
   simp! [fE, ep, qC, Task.word, f1, e1];rfl
  | again b =>
   dsimp only;have h1 : ∀ S, bR (.dat (Task.again b).d) (.dat (.int 1)) S = .ok (.dat (.lst (cD b))) S := fun _ => eM
   have hi := yE (S0 := S0) (m := { m with stk := r }) (f := "take") (by decide)
   cases hb : m.bits[m.taken]? with
   | none =>
    have e1 := Hs (S0 := S0) (m := { m with stk := r }) (by have := W.t; have := gQ.mp hb; show m.taken = m.bits.length; omega)
    show _ = _
    simp! [fE, ep, qC, Task.word, iI hi, e1];rfl
   | some x =>
    have e1 := Hr (S0 := S0) (m := { m with stk := r }) hb
    rcases W.b x (bI hb) with rfl | rfl
    ·show _ = _
     simp! [fE, ep, qC, Task.word, iI hi, e1];rfl
    ·have e2 := oZ (S0 := S0) (m := { m with stk := r, taken := m.taken + 1 }) (ρ := [some (.cel S0.length), some (.dat (Task.again b).d)]) (b := aC 1) (t := .again b) (show r.length < 5000000 by omega) rfl
     have f2 := fE (S0 := S0) (m := { m with stk := r, taken := m.taken + 1 })
     have e3 := oZ (S0 := S0) (m := { m with stk := .again b :: r, taken := m.taken + 1 }) (ρ := [some (.cel S0.length), some (.dat (Task.again b).d)]) (b := cC (aB (mC (.str "list")) (aB (aR bR (aC 1) (mC (.int 1))) (aB (mC (.int 0)) aO)))) (t := .lst b 0) (by simp; omega) (by simp! [h1]; rfl)
     have f3 := fE (S0 := S0) (m := { m with stk := .again b :: r, taken := m.taken + 1 })
     show _ = _
     simp! [fE, ep, qC, Task.word, iI hi, e1, f2, e2, f3, e3];rfl
  | call p st =>
   dsimp only;cases ha : m.act[p]? with
   | none => trivial
   | some l =>
    cases l with
    | nil => trivial
    | cons k a =>
     have hi := yE (S0 := S0) (m := { m with stk := r }) (f := "leave") (by decide)
     have e1 := FZ (S0 := S0) (m := { m with stk := r }) (st := st) (way := 0) ⟨by simp; omega, by simp; omega, F.fit.a⟩ ha (.inl rfl)
     show _ = _
     simp! [fE, ep, qC, Task.word, iI hi, Fh, Fg, e1];rfl
structure Mc.Keep (many : Int) (m m' : Mc) : Prop where
 bs : m'.bs = m.bs
 bits : m'.bits = m.bits
 tot : m'.stk.length + m'.deeds.length <= m.stk.length + m.deeds.length + 3
 act : ∀ a ∈ m'.act, ∃ b ∈ m.act, a.length <= b.length + 1
 al : m'.act.length = m.act.length
 tk : ∀ t ∈ m'.stk, t.OkT many
 wf : m'.Wf
theorem EJ {l : List (List Nat)} {p : Nat} {a b : List Nat} (h : l[p]? = some b) (hl : a.length <= b.length + 1) : ∀ c ∈ l.set p a, ∃ d ∈ l, c.length <= d.length + 1 := fun c hc => by
 rcases ET hc with hc | hc
 ·exact ⟨c, hc, by omega⟩
 ·rw [hc]; exact ⟨b, bI h, hl⟩
theorem nY {l : List (List Nat)} : ∀ c ∈ l, ∃ d ∈ l, c.length <= d.length + 1 := fun c hc => ⟨c, hc, by omega⟩
theorem OkL.b {many : Int} {l : List Stt} {k : Nat} (h : OkL many l k) : NG many l := ⟨k, h⟩
theorem Be {many : Int} {m0 m : Mc} {p k : Nat} {a : List Nat} {st : Option fT} {way : Int} (hb : m.bs = m0.bs) (hi : m.bits = m0.bits) (ht : m.stk.length + m.deeds.length + 1 <= m0.stk.length + m0.deeds.length + 1) (hact : m.act = m0.act) (ha : m.act[p]? = some (k :: a)) (T : ∀ t ∈ m.stk, t.OkT many) (hst : (Task.call p st).OkT many) (W : m.Wf) : Mc.Keep many m0 (m.leave p a st way) := by
 cases st with
 | none => exact ⟨hb, hi, by simp only [Mc.leave]; omega, by simp only [Mc.leave]; rw [hact] at ha ⊢; exact EJ ha (by simp; omega), by simp [Mc.leave, hact], T, ⟨W.t, W.b⟩⟩
 | some c =>
  refine ⟨hb, hi, ?_, by simp only [Mc.leave]; rw [hact] at ha ⊢; exact EJ ha (by simp; omega), by simp [Mc.leave, hact], fun t h => ?_, ⟨W.t, W.b⟩⟩
  ·simp only [Mc.leave, aJ, bF]
   split <;> simp <;> omega
  ·simp only [Mc.leave] at h
   rcases bH.mp h with rfl | h
   ·show NG many _
    split
    ·exact hst.1
    ·exact hst.2
   ·exact T t h
theorem Ae : ∀ {ts : List Task} {d0 ds : List Deed} {p : Nat} {st : Option fT} {r : List Task}, wQ ts d0 = some (ds, p, st, r) -> Task.call p st ∈ ts /\ ∀ t ∈ r, t ∈ ts
 | .call p st :: r, d0, ds, p', st', r', h => by simp [wQ] at h; obtain ⟨rfl, rfl, rfl, rfl⟩ := h; exact ⟨by simp, fun t ht => by simp [ht]⟩
 | .close :: r, d0, ds, p', st', r', h => by
  obtain ⟨h1, h2⟩ := Ae (ts := r) (show wQ r (d0 ++ [.cl]) = _ from h)
  exact ⟨aL _ h1, fun t ht => aL _ (h2 t ht)⟩
 | .lst _ _ :: r, d0, ds, p', st', r', h => by
  obtain ⟨h1, h2⟩ := Ae (ts := r) (show wQ r d0 = _ from h)
  exact ⟨aL _ h1, fun t ht => aL _ (h2 t ht)⟩
 | .again _ :: r, d0, ds, p', st', r', h => by
  obtain ⟨h1, h2⟩ := Ae (ts := r) (show wQ r d0 = _ from h)
  exact ⟨aL _ h1, fun t ht => aL _ (h2 t ht)⟩
theorem HZ {many : Int} {m m' : Mc} {s : Stt} {k : Nat} (ho : s.Ok many k) (hB : ∀ b ∈ m.bs, NG many b) (T : ∀ t ∈ m.stk, t.OkT many) (W : m.Wf) (h : hL s m = .ok m') : Mc.Keep many m m' := by
 cases s with
 | bad => cases h
 | odd x => cases h
 | cmd c => cases h; exact ⟨rfl, rfl, by simp; omega, nY, rfl, T, ⟨W.t, W.b⟩⟩
 | fin w =>
  simp only [hL] at h;cases hu : wQ m.stk m.deeds with
  | none => rw [hu] at h; cases h
  | some x =>
   obtain ⟨ds, p, st, r⟩ := x;rw [hu] at h;dsimp only at h;cases ha : m.act[p]? with
   | none => rw [ha] at h; cases h
   | some l =>
    rw [ha] at h;cases l with
    | nil => cases h
    | cons k0 a =>
     cases h;have hl := wW hu;obtain ⟨u1, u2⟩ := Ae hu;exact Be (m0 := m) (m := { m with stk := r, deeds := ds }) rfl rfl (by simp; omega) rfl ha (fun t ht => T t (u2 t ht)) (T _ u1) ⟨W.t, W.b⟩
 | keep b =>
  cases h;refine ⟨rfl, rfl, by simp; omega, nY, rfl, fun t ht => ?_, ⟨W.t, W.b⟩⟩
  simp only [bH] at ht;rcases ht with rfl | rfl | ht
  ·exact ho.2.b
  ·trivial
  ·exact T t ht
 | either x y =>
  simp only [hL] at h;cases hb : m.bits[m.taken]? with
  | none => rw [hb] at h; cases h
  | some b =>
   rw [hb] at h;cases h;have hl := (aG.mp hb).1;refine ⟨rfl, rfl, by simp; omega, nY, rfl, fun t ht => ?_, ⟨hl, W.b⟩⟩
   rcases bH.mp ht with rfl | ht
   ·show NG many _
    split
    ·exact ho.2.1.b
    ·exact ho.2.2.b
   ·exact T t ht
 | again b =>
  cases h;refine ⟨rfl, rfl, by simp; omega, nY, rfl, fun t ht => ?_, ⟨W.t, W.b⟩⟩
  rcases bH.mp ht with rfl | ht
  ·exact ho.2.b
  ·exact T t ht
 | call g f x y =>
  simp only [hL] at h;cases ha : m.act[g.toNat]? with
  | none => rw [ha] at h; cases h
  | some a =>
   cases hb : m.bs[g.toNat]? with
   | none => rw [ha, hb] at h; cases h
   | some b =>
    rw [ha, hb] at h;dsimp only at h;split at h
    ·cases h
    ·cases h
     refine ⟨rfl, rfl, ?_, ?_, by simp [Mc.enter], fun t ht => ?_, ⟨W.t, W.b⟩⟩
     ·simp only [Mc.enter, aJ, bF]
      split <;> simp <;> omega
     ·exact EJ ha (by simp)
     ·simp only [Mc.enter, bH] at ht
      rcases ht with rfl | rfl | ht
      ·exact hB b (bI hb)
      ·exact ⟨ho.2.1.b, ho.2.2.b⟩
      ·exact T t ht
theorem JD {many : Int} {m m' : Mc} (hB : ∀ b ∈ m.bs, NG many b) (T : ∀ t ∈ m.stk, t.OkT many) (W : m.Wf) (h : eF m = .ok m') : Mc.Keep many m m' := by
 cases hs : m.stk with
 | nil => simp only [eF, hs] at h; cases h
 | cons t r =>
  have hT := T t (by rw [hs]; exact aY ..)
  have hr : ∀ t ∈ r, t.OkT many := fun t ht => T t (by rw [hs]; exact aL _ ht)
  have hl : m.stk.length = r.length + 1 := by rw [hs]; rfl
  simp only [eF, hs] at h;cases t with
  | lst l i =>
   obtain ⟨k, hlk⟩ := hT;dsimp only at h;cases hi : l[i]? with
   | none => rw [hi] at h; cases h; exact ⟨rfl, rfl, by simp; omega, nY, rfl, hr, ⟨W.t, W.b⟩⟩
   | some s =>
    rw [hi] at h;have kk := HZ (m := { m with stk := .lst l (i + 1) :: r }) (hlk.mem s (bI hi)) hB (fun t ht => by
     rcases bH.mp ht with rfl | ht
     ·exact ⟨k, hlk⟩
     ·exact hr t ht) ⟨W.t, W.b⟩ h
    exact ⟨kk.bs, kk.bits, by have := kk.tot; simp at this; omega, kk.act, kk.al, kk.tk, kk.wf⟩
  | close => cases h; exact ⟨rfl, rfl, by simp; omega, nY, rfl, hr, ⟨W.t, W.b⟩⟩
  | again b =>
   dsimp only at h;cases hb : m.bits[m.taken]? with
   | none => rw [hb] at h; cases h
   | some x =>
    rw [hb] at h;have hbl := (aG.mp hb).1;dsimp only at h;split at h
    ·cases h
     refine ⟨rfl, rfl, by simp; omega, nY, rfl, fun t ht => ?_, ⟨hbl, W.b⟩⟩
     simp only [bH] at ht;rcases ht with rfl | rfl | ht
     ·exact hT
     ·exact hT
     ·exact hr t ht
    ·cases h
     exact ⟨rfl, rfl, by simp; omega, nY, rfl, hr, ⟨hbl, W.b⟩⟩
  | call p st =>
   dsimp only at h;cases ha : m.act[p]? with
   | none => rw [ha] at h; cases h
   | some l =>
    rw [ha] at h;cases l with
    | nil => cases h
    | cons k a =>
     cases h;exact Be (m0 := m) (m := { m with stk := r }) rfl rfl (by simp; omega) rfl ha hr hT ⟨W.t, W.b⟩
def runM : Nat -> Mc -> SR
 | 0, _ => .no
 | k + 1, m => match m.stk with
  | [] => .ok m
  | _ :: _ => match eF m with
   | .ok m' => runM k m'
   | .err i m' => .err i m'
   | .no => .no
theorem F4 {S0 : aQ} {many : Int} {a b c d e : Option Vl} : ∀ (k fuel : Nat) (m : Mc), k <= fuel -> (∀ b ∈ m.bs, NG many b) -> (∀ t ∈ m.stk, t.OkT many) -> m.Wf -> m.stk.length + m.deeds.length + 3 * k <= 800000 -> (∀ a ∈ m.act, a.length + k <= 800000) ->
  match runM k m with
  | .ok m' => pZ (mB (aR NQ (m1 fF (gG "Execution" "stack" (aC 5))) (mC (.int 0)))) eJ fuel [a, b, c, d, e, some (.cel S0.length)] (eB S0 m) = .next [a, b, c, d, e, some (.cel S0.length)] (eB S0 m')
  | .err i m' => ∃ ρ', pZ (mB (aR NQ (m1 fF (gG "Execution" "stack" (aC 5))) (mC (.int 0)))) eJ fuel [a, b, c, d, e, some (.cel S0.length)] (eB S0 m) = .err (uC i) ρ' (eB S0 m')
  | .no => True
 | 0, fuel, m, _, _, _, _, _, _ => trivial
 | k + 1, fuel, m, hf, hB, hT, W, ht, ha => by
  obtain ⟨f, rfl⟩ : ∃ f, fuel = f + 1 := ⟨fuel - 1, by omega⟩
  unfold runM;cases hs : m.stk with
  | nil =>
   dsimp only;have hl : fF (.cel (S0.length + 2)) (eB S0 m) = .ok (.dat (.int 0)) (eB S0 m) := by rw [pO uP, mV, hs]; rfl
   exact KS (by simp! [fE, hl])
  | cons t r =>
   dsimp only;have hl : fF (.cel (S0.length + 2)) (eB S0 m) = .ok (.dat (.int ((r.length + 1 : Nat) : Int))) (eB S0 m) := by rw [pO uP, mV, hs]; rfl
   have h1 : (mB (aR NQ (m1 fF (gG "Execution" "stack" (aC 5))) (mC (.int 0)))) [a, b, c, d, e, some (.cel S0.length)] (eB S0 m) = .ok true (eB S0 m) := by simp! [fE, hl, decide_eq_true (show (0 : Int) < ((r.length + 1 : Nat) : Int) by omega)]
   have st := NZ (S0 := S0) hT ⟨by omega, by omega, fun a h => by have := ha a h; omega⟩ W
   have hi := yE (S0 := S0) (m := m) (f := "step") (by decide)
   revert st
   cases q : eF m with
   | no => intro _; trivial
   | ok m' =>
    intro st;have st' : _ = _ := st;have K := JD hB hT W q;have ih := F4 (S0 := S0) (a := a) (b := b) (c := c) (d := d) (e := e) k f m' (by omega) (by rw [K.bs]; exact hB) K.tk K.wf (by have := K.tot; omega) (fun a h => by obtain ⟨b, h1, h2⟩ := K.act a h; have := ha b h1; omega)
    dsimp only;rw [Ad h1 (ρ' := [a, b, c, d, e, some (.cel S0.length)]) (S' := eB S0 m') (by unfold eJ; simp! [iI hi, st'])]
    exact ih
   | err i m' =>
    intro st;have st' : _ = _ := st;dsimp only;refine ⟨[a, b, c, d, e, some (.cel S0.length)], ?_⟩
    rw [pZ, h1, lW, if_pos rfl, show eJ [a, b, c, d, e, some (.cel S0.length)] (eB S0 m) = .err (uC i) [a, b, c, d, e, some (.cel S0.length)] (eB S0 m') by unfold eJ; simp! [iI hi, st']]
theorem Bf {m : Mc} {p : Nat} {a : List Nat} {st : Option fT} {way : Int} : (m.leave p a st way).bits = m.bits /\ (m.leave p a st way).bs = m.bs := by cases st <;> exact ⟨rfl, rfl⟩
theorem Ha {s : Stt} {m m' : Mc} (h : hL s m = .ok m') : m'.bits = m.bits /\ m'.bs = m.bs := by
 cases s with
 | bad => cases h
 | odd x => cases h
 | cmd c => cases h; exact ⟨rfl, rfl⟩
 | keep b => cases h; exact ⟨rfl, rfl⟩
 | again b => cases h; exact ⟨rfl, rfl⟩
 | fin w =>
  simp only [hL] at h;split at h
  ·split at h
   ·cases h; exact Bf
   ·cases h
  ·cases h
 | either x y =>
  simp only [hL] at h;split at h
  ·cases h
  ·cases h; exact ⟨rfl, rfl⟩
 | call g f x y =>
  simp only [hL] at h;split at h
  ·split at h
   ·cases h
   ·cases h; exact ⟨rfl, rfl⟩
  ·cases h
theorem JE {m m' : Mc} (h : eF m = .ok m') : m'.bits = m.bits /\ m'.bs = m.bs := by
 unfold eF at h;split at h
 ·cases h
 ·split at h
  ·cases h; exact ⟨rfl, rfl⟩
  ·have := Ha h; exact this
 ·cases h; exact ⟨rfl, rfl⟩
 ·split at h
  ·cases h
  ·split at h
   ·cases h; exact ⟨rfl, rfl⟩
   ·cases h; exact ⟨rfl, rfl⟩
 ·split at h
  ·cases h; exact Bf
  ·cases h
theorem BP : ∀ {k : Nat} {m m' : Mc}, runM k m = .ok m' -> m'.bits = m.bits /\ m'.bs = m.bs
 | 0, m, m', h => by cases h
 | k + 1, m, m', h => by
  unfold runM at h;split at h
  ·cases h; exact ⟨rfl, rfl⟩
  ·split at h
   ·rename_i m1 q
    have h1 := JE q;have h2 := BP h;exact ⟨h2.1.trans h1.1, h2.2.trans h1.2⟩
   ·cases h
   ·cases h
def vN (bs : List (List Stt)) (bits : List Int) : Mc := ⟨bs, bits, 0, [], [], bQ bs.length [], 0⟩
theorem setX {S0 : aQ} {fs : List (Str × Vl)} {ext : List Cell} {f : Str} {d : Vl} {ρ : Ev} (hl : fs.length < 1000) : wG "Execution" f ρ d (.cel S0.length) (S0 ++ (.ins "Execution" fs :: ext)) = .next ρ (S0 ++ (.ins "Execution" (nN f d fs) :: ext)) := by
 rw [Bp (fs := fs) (by simp) hl]
 simp
theorem ON {S0 : aQ} {bs : List (List Stt)} {bits : List Int} (hl : bs.length <= 10) : Bi true "Execution" gZ [.dat (.lst (bls bs)), .dat (.lst (bits.map D.int))] S0 = .ok (.cel S0.length) (eB S0 (vN bs bits)) := by
 have e : gZ [.cel S0.length, .dat (.lst (bls bs)), .dat (.lst (bits.map D.int))] (S0 ++ [.ins "Execution" []]) = .ok (.dat .non) (eB S0 (vN bs bits)) := by
  rw [A8];unfold jT;have hsz : (bls bs).length <= sizeLine := sz (by rw [EG]; omega)
  have s1 : ∀ {ρ : Ev} {d : Vl} {ext : List Cell} {f : Str}, wG "Execution" f ρ d (.cel S0.length) (S0 ++ (.ins "Execution" [] :: ext)) = .next ρ (S0 ++ (.ins "Execution" [(f, d)] :: ext)) := setX (by simp)
  simp! [s1, setX, aJ, aZ, nN, bF, cV, bV, bL, MJ hsz, EG]
  show _ = Res.ok _ (S0 ++ _)
  simp only [cL, vN, HH, List.length_replicate, List.map_replicate, bC];rfl
 unfold Bi;rw [e];rfl
def startM (bs : List (List Stt)) (bits : List Int) (p : Nat) (b : List Stt) : Mc := (vN bs bits).enter p [] b none
theorem DP {S : aQ} {a0 a1 a2 a5 : Option Vl} : ∀ (bs : List Int) (i : Nat), (∀ b ∈ bs, b = 0 \/ b = 1) -> loop (.tp [3, 4]) gW (dX i (bs.map D.int)) [a0, a1, a2, none, none, a5] S = .next [a0, a1, a2, none, none, a5] S
 | [], i, _ => rfl
 | b :: r, i, h => by
  have hb : (decide (0 <= b) && decide (b <= 1)) = true := by rcases h b (aY ..) with rfl | rfl <;> rfl
  rw [aK, dX, loop];simp only [oK, iV, aJ, aZ, if_true, cO, bO];rw [gW];simp! [D0, hb];rw [<- gW];exact DP r (i + 1) fun b hb => h b (aL _ hb)
def NB (r : SR) (S : aQ) : Res Vl := match r with
 | .ok m => if m.taken < m.bits.length then .err (uC (m.taken : Int)) S else .ok (.dat (.tup [.int m.ended, .lst (m.deeds.map Deed.d)])) S
 | .err i _ => .err (uC i) S
 | .no => .stuck
theorem EB {S0 : aQ} {m : Mc} : (eB S0 m).take S0.length = S0 := by simp [eB]
def Bn (n : Nat) (i : Int) : Prop := i.natAbs < 2 ^ n
structure Pen where
 x : Int
 y : Int
 u : Int
 v : Int
 p : Int
 q : Int
def Pen.ns (z : Pen) : List Int := [z.x, z.y, z.u, z.v, z.p, z.q]
abbrev Pen.ds (z : Pen) : List D := [.int z.x, .int z.y, .int z.u, .int z.v, .int z.p, .int z.q]
abbrev Pen.d (z : Pen) : D := .tup z.ds
def BA : Nat -> Int × Int -> Int × Int
 | 0, w => w
 | n + 1, w => BA n (-w.2, w.1)
def Cmd.run : Cmd -> Pen -> Pen
 | .go k, z => { z with x := z.x + k * z.u, y := z.y + k * z.v }
 | .turn k, z => { z with u := (BA k.toNat (z.u, z.v)).1, v := (BA k.toNat (z.u, z.v)).2 }
 | .mirror, z => { z with v := -z.v }
 | .scale k, z => { z with u := k * z.u, v := k * z.v }
 | .aim a b, z => { z with u := a, v := b }
 | .place a b, z => { z with x := a, y := b }
 | .mark, z => { z with p := z.x, q := z.y }
 | .ret, z => { z with x := z.p, y := z.q }
 | .exch, z => ⟨z.p, z.q, z.u, z.v, z.x, z.y⟩
theorem Qz {k j : Int} (h : -9 <= k /\ k <= 9) : IntMulOk k j := mulL (by omega) (by omega)
theorem mul9r {k j : Int} (h : -9 <= k /\ k <= 9) : IntMulOk j k := mulR (by omega) (by omega)
def dot (f : Nat -> Int) : Nat -> Int
 | 0 => 0
 | n + 1 => dot f n + f n
theorem mulB {a b : Nat} {i j : Int} (ha : Bn a i) (hb : Bn b j) (h0 : 0 < a) (h1 : 0 < b) (h : a + b <= 1000000) : IntMulOk i j := (wide_mul ha hb h0 h1 h).ok
theorem Bn.mul {a b : Nat} {i j : Int} (ha : Bn a i) (hb : Bn b j) : Bn (a + b) (i * j) := wide_lt ha hb
theorem Bn.zero {a : Nat} : Bn a 0 := by
 show 0 < 2 ^ a
 exact Nat.two_pow_pos a
theorem Bn.dot {a : Nat} {f : Nat -> Int} : ∀ {n : Nat}, (∀ j, j < n -> Bn a (f j)) -> (dot f n).natAbs <= n * 2 ^ a
 | 0, _ => by simp [PH.dot]
 | n + 1, h => by
  have h1 := Bn.dot (n := n) fun j hj => h j (by omega)
  have h2 : (f n).natAbs < 2 ^ a := h n (by omega)
  have e : PH.dot f (n + 1) = PH.dot f n + f n := rfl;rw [e, Nat.succ_mul];omega
theorem Bn.dot7 {a : Nat} {f : Nat -> Int} (h : ∀ j, j < 7 -> Bn a (f j)) : Bn (a + 3) (PH.dot f 7) := by
 have := Bn.dot h;have p : 0 < 2 ^ a := Nat.two_pow_pos a
 show (PH.dot f 7).natAbs < 2 ^ (a + 3)
 rw [Nat.pow_add];omega
def gt (M : List Int) (i : Nat) : Int := M.getD i 0
theorem D3 {M : List Int} {a n : Nat} (h : ∀ x ∈ M, Bn a x) : Bn a (gt M n) := by
 by_cases hn : n < M.length
 ·have e : gt M n = M[n] := by
   unfold gt;rw [bB, bY hn];rfl
  rw [e];exact h _ (oI hn)
 ·have e : gt M n = 0 := by
   unfold gt;rw [bB, cZ (by omega)]
   rfl
  rw [e];exact Bn.zero
theorem F8 {M : List Int} {n : Nat} (h : M.length = n) : (aP n).map (gt M) = M := by
 apply List.ext_getElem
 ·simp [h]
 ·intro i h1 h2
  rw [List.getElem_map, List.getElem_range];unfold gt;rw [bB, bY h2];rfl
def nS (M : List Int) (z : Pen) (i : Nat) : Int := dot (fun j => gt M (7 * i + j) * gt ((1 : Int) :: z.ns) j) 7
theorem jQ {f g : Nat -> Int} : ∀ {n : Nat}, (∀ k, k < n -> f k = g k) -> dot f n = dot g n
 | 0, _ => rfl
 | n + 1, h => by
  show dot f n + f n = dot g n + g n
  rw [jQ fun k hk => h k (by omega), h n (by omega)]
theorem G4 : ∀ n : Nat, dot (fun _ => 0) n = 0
 | 0 => rfl
 | n + 1 => by
  show dot (fun _ => 0) n + 0 = 0
  rw [G4 n]; rfl
theorem Ih (f g : Nat -> Int) : ∀ n : Nat, dot (fun k => f k + g k) n = dot f n + dot g n
 | 0 => rfl
 | n + 1 => by
  show dot (fun k => f k + g k) n + (f n + g n) = dot f n + f n + (dot g n + g n)
  rw [Ih f g n]; omega
theorem G6 (c : Int) (f : Nat -> Int) : ∀ n : Nat, dot (fun k => c * f k) n = c * dot f n
 | 0 => by simp [dot]
 | n + 1 => by
  show dot (fun k => c * f k) n + c * f n = c * (dot f n + f n)
  rw [G6 c f n, Int.mul_add]
theorem G5 (c : Nat -> Int) (b : Nat -> Nat -> Int) (a : Nat -> Int) (m : Nat) : ∀ n : Nat, dot (fun k => c k * dot (fun l => b k l * a l) m) n = dot (fun l => dot (fun k => c k * b k l) n * a l) m
 | 0 => by
  show 0 = dot (fun l => 0 * a l) m
  rw [jQ (g := fun _ => 0) fun k _ => Int.zero_mul _, G4]
 | n + 1 => by
  show dot (fun k => c k * dot (fun l => b k l * a l) m) n + c n * dot (fun l => b n l * a l) m = dot (fun l => (dot (fun k => c k * b k l) n + c n * b n l) * a l) m
  rw [G5 c b a m n, <- G6, <- Ih];exact jQ fun l _ => by rw [Int.add_mul, Int.mul_assoc]
def delta (i j : Nat) : Int := if i = j then 1 else 0
theorem A3 (x : Nat -> Int) (j : Nat) : ∀ n : Nat, dot (fun k => x k * delta k j) n = if j < n then x j else 0
 | 0 => rfl
 | n + 1 => by
  show dot (fun k => x k * delta k j) n + x n * delta n j = _
  rw [A3 x j n];unfold delta
  by_cases h : n = j
  ·subst h
   rw [if_neg (by omega), if_pos rfl, if_pos (by omega)]; omega
  ·rw [if_neg h, qN, Int.add_zero]
   by_cases h2 : j < n
   ·rw [if_pos h2, if_pos (by omega)]
   ·rw [if_neg h2, if_neg (by omega)]
@[irreducible] def mx (f : Nat -> Nat -> Int) : List Int := (aP 49).map fun t => f (t / 7) (t % 7)
theorem zN (f : Nat -> Nat -> Int) : (mx f).length = 49 := by
 unfold mx;simp
theorem Ly {f : Nat -> Int} {n t : Nat} (h : t < n) : gt ((aP n).map f) t = f t := by
 unfold gt;rw [bB, bT, iA h];rfl
theorem AG {f : Nat -> Nat -> Int} {i j : Nat} (hi : i < 7) (hj : j < 7) : gt (mx f) (7 * i + j) = f i j := by
 unfold mx;rw [Ly (by omega), show (7 * i + j) / 7 = i by omega, show (7 * i + j) % 7 = j by omega]
theorem Qy {f g : Nat -> Nat -> Int} (h : ∀ i j, i < 7 -> j < 7 -> f i j = g i j) : mx f = mx g := by
 unfold mx
 apply hZ
 intro t ht;have := eD.mp ht;exact h _ _ (by omega) (by omega)
theorem Pz {M : List Int} (h : M.length = 49) : mx (fun i j => gt M (7 * i + j)) = M := by
 rw [<- F8 h];unfold mx
 apply hZ
 intro t ht;have ht := eD.mp ht;rw [F8 h]
 show gt M (7 * (t / 7) + t % 7) = gt M t
 rw [show 7 * (t / 7) + t % 7 = t by omega]
theorem Q0 {M N : List Int} (hM : M.length = 49) (hN : N.length = 49) (h : ∀ i j, i < 7 -> j < 7 -> gt M (7 * i + j) = gt N (7 * i + j)) : M = N := by
 rw [<- Pz hM, <- Pz hN];exact Qy h
theorem LI {f : Nat -> Nat -> Int} {a : Nat} (h : ∀ i j, i < 7 -> j < 7 -> Bn a (f i j)) : ∀ x ∈ mx f, Bn a x := fun x hx => by
 unfold mx at hx;obtain ⟨t, ht, rfl⟩ := pY.mp hx;have := eD.mp ht;exact h _ _ (by omega) (by omega)
def rows (f : Nat -> Nat -> Int) (n : Nat) : List Int := (aP n).flatMap fun i => (aP 7).map (f i)
theorem vE (f : Nat -> Nat -> Int) (n : Nat) : rows f (n + 1) = rows f n ++ (aP 7).map (f n) := by
 unfold rows;rw [show aP (n + 1) = aP n ++ [n] from vK, List.flatMap_append]
 simp only [List.flatMap_cons, List.flatMap_nil, cS]
theorem BR (f : Nat -> Nat -> Int) : ∀ n, (rows f n).length = 7 * n
 | 0 => rfl
 | n + 1 => by rw [vE, bF, BR f n]; simp; omega
theorem F5 (f : Nat -> Nat -> Int) : ∀ n, rows f n = (aP (7 * n)).map fun t => f (t / 7) (t % 7)
 | 0 => rfl
 | n + 1 => by
  rw [vE, F5 f n, show 7 * (n + 1) = 7 * n + 7 by omega, List.range_add, bN, iU]
  congr 1
  apply hZ
  intro j hj;have := eD.mp hj
  show f n j = f ((7 * n + j) / 7) ((7 * n + j) % 7)
  rw [show (7 * n + j) / 7 = n by omega, show (7 * n + j) % 7 = j by omega]
theorem Dd (f : Nat -> Nat -> Int) : rows f 7 = mx f := by
 unfold mx;exact F5 f 7
def qI (A B : List Int) : List Int := mx fun i j => dot (fun k => gt B (7 * i + k) * gt A (7 * k + j)) 7
theorem A4 (A B : List Int) : (qI A B).length = 49 := zN _
theorem GD {A B : List Int} {a b : Nat} (ha : ∀ x ∈ A, Bn a x) (hb : ∀ x ∈ B, Bn b x) : ∀ x ∈ qI A B, Bn (a + b + 3) x := LI fun i j _ _ => Bn.dot7 fun k _ => by
 rw [Nat.add_comm a b];exact Bn.mul (D3 hb) (D3 ha)
@[irreducible] def unitM : List Int := mx delta
theorem rC : unitM.length = 49 := by
 unfold unitM;exact zN _
theorem J5 : ((aP 49).map fun t : Nat => (if decide ((0 + (t : Int)) % 8 = 0) = true then (1 : Int) else 0)) = unitM := by
 unfold unitM mx
 decide
def zeroP : Pen := ⟨0, 0, 0, 0, 0, 0⟩
def eW (j : Nat) : Pen := ⟨delta 0 j, delta 1 j, delta 2 j, delta 3 j, delta 4 j, delta 5 j⟩
def vc (z : Pen) (i : Nat) : Int := gt ((1 : Int) :: z.ns) i
def dH (r : Pen -> Pen) (i j : Nat) : Int := if j = 0 then vc (r zeroP) i else vc (r (eW (j - 1))) i - vc (r zeroP) i
@[irreducible] def probeM (r : Pen -> Pen) : List Int := mx (dH r)
theorem BU (r : Pen -> Pen) : (probeM r).length = 49 := by
 unfold probeM;exact zN _
def MatOf (r : Pen -> Pen) (M : List Int) : Prop := M.length = 49 /\ ∀ z i, i < 7 -> vc (r z) i = nS M z i
theorem IK {j : Nat} (h : j < 7) : j = 0 \/ j = 1 \/ j = 2 \/ j = 3 \/ j = 4 \/ j = 5 \/ j = 6 := by omega
theorem lt6 {j : Nat} (h : j < 6) : j = 0 \/ j = 1 \/ j = 2 \/ j = 3 \/ j = 4 \/ j = 5 := by omega
theorem wI (M : List Int) (i : Nat) : nS M zeroP i = gt M (7 * i) := by
 simp [nS, dot, zeroP, Pen.ns, gt]
theorem HJ (M : List Int) (i : Nat) {j : Nat} (hj : j < 6) : nS M (eW j) i = gt M (7 * i) + gt M (7 * i + (j + 1)) := by
 rcases lt6 hj with h | h | h | h | h | h <;> subst h <;> simp [nS, dot, eW, delta, Pen.ns, gt]
theorem L3 {r : Pen -> Pen} {M : List Int} (h : MatOf r M) : probeM r = M := by
 unfold probeM;refine Q0 (zN _) h.1 fun i j hi hj => ?_
 rw [AG hi hj];unfold dH
 by_cases e : j = 0
 ·rw [if_pos e, h.2 _ _ hi, wI, e]
  rfl
 ·rw [if_neg e, h.2 _ _ hi, h.2 _ _ hi, wI, HJ M i (by omega), show j - 1 + 1 = j by omega]
  omega
theorem HK (A B : List Int) (z w : Pen) (hw : ∀ k, k < 7 -> vc w k = nS A z k) (i : Nat) (hi : i < 7) : nS (qI A B) z i = nS B w i := by
 unfold nS;rw [jQ (g := fun j => dot (fun k => gt B (7 * i + k) * gt A (7 * k + j)) 7 * vc z j) fun j hj => by
  unfold qI;rw [AG hi hj];rfl]
 rw [<- G5 (fun k => gt B (7 * i + k)) (fun k j => gt A (7 * k + j)) (fun j => vc z j) 7 7]
 exact jQ fun k hk => by
  show _ * nS A z k = _ * vc w k
  rw [hw k hk]
theorem MatOf.comp {r s : Pen -> Pen} {A B : List Int} (h : MatOf r A) (k : MatOf s B) : MatOf (fun z => s (r z)) (qI A B) := ⟨A4 _ _, fun z i hi => by rw [k.2 _ _ hi, HK A B z (r z) (fun l hl => h.2 _ _ hl) i hi]⟩
theorem MatOf.unit : MatOf (fun z => z) unitM := ⟨rC, fun z i hi => by
 unfold nS;rw [jQ (g := fun j => vc z j * delta j i) fun j hj => by
  unfold unitM;rw [AG hi hj, B5];unfold delta
  by_cases e : i = j
  ·rw [if_pos e, if_pos e.symm]; rfl
  ·rw [if_neg e, if_neg fun z => e z.symm, qN, qN]]
 rw [A3, if_pos hi]⟩
theorem MatOf.of {r : Pen -> Pen} (h : ∀ z i, i < 7 -> vc (r z) i = dot (fun j => dH r i j * vc z j) 7) : MatOf r (probeM r) := ⟨BU r, fun z i hi => by
 rw [h z i hi];unfold nS;exact jQ fun j hj => by
  unfold probeM;rw [AG hi hj];rfl⟩
def Cmd.mat (m : Cmd) : List Int := probeM m.run
theorem Cmd.matOf {m : Cmd} (ok : m.Ok) : MatOf m.run m.mat := MatOf.of fun z i hi => by
 cases m with
 | turn k =>
  have hk : k = 1 \/ k = 2 \/ k = 3 := by have := ok.1; have := ok.2; omega
  rcases hk with e | e | e <;> subst e <;> rcases IK hi with h | h | h | h | h | h | h <;> subst h <;> simp [dot, dH, vc, gt, Cmd.run, zeroP, eW, delta, Pen.ns, BA]
 | _ => rcases IK hi with h | h | h | h | h | h | h <;> subst h <;> simp [dot, dH, vc, gt, Cmd.run, zeroP, eW, delta, Pen.ns]
theorem Cmd.mat_bd {m : Cmd} (ok : m.Ok) : ∀ x ∈ m.mat, Bn 5 x := by
 unfold Cmd.mat probeM;refine LI fun i j hi hj => ?_
 cases m with
 | turn k =>
  have hk : k = 1 \/ k = 2 \/ k = 3 := by have := ok.1; have := ok.2; omega
  rcases hk with e | e | e <;> subst e <;> rcases IK hi with h | h | h | h | h | h | h <;> subst h <;> rcases IK hj with h | h | h | h | h | h | h <;> subst h <;> simp [Bn, dH, vc, gt, Cmd.run, zeroP, eW, delta, Pen.ns, BA]
 | go k =>
  have := ok.1; have := ok.2;rcases IK hi with h | h | h | h | h | h | h <;> subst h <;> rcases IK hj with h | h | h | h | h | h | h <;> subst h <;> simp [Bn, dH, vc, gt, Cmd.run, zeroP, eW, delta, Pen.ns] <;> omega
 | scale k =>
  have := ok.1; have := ok.2;rcases IK hi with h | h | h | h | h | h | h <;> subst h <;> rcases IK hj with h | h | h | h | h | h | h <;> subst h <;> simp [Bn, dH, vc, gt, Cmd.run, zeroP, eW, delta, Pen.ns] <;> omega
 | aim a b =>
  have := ok.1.1; have := ok.1.2; have := ok.2.1; have := ok.2.2;rcases IK hi with h | h | h | h | h | h | h <;> subst h <;> rcases IK hj with h | h | h | h | h | h | h <;> subst h <;> simp [Bn, dH, vc, gt, Cmd.run, zeroP, eW, delta, Pen.ns] <;> omega
 | place a b =>
  have := ok.1.1; have := ok.1.2; have := ok.2.1; have := ok.2.2;rcases IK hi with h | h | h | h | h | h | h <;> subst h <;> rcases IK hj with h | h | h | h | h | h | h <;> subst h <;> simp [Bn, dH, vc, gt, Cmd.run, zeroP, eW, delta, Pen.ns] <;> omega
 | _ => rcases IK hi with h | h | h | h | h | h | h <;> subst h <;> rcases IK hj with h | h | h | h | h | h | h <;> subst h <;> simp [Bn, dH, vc, gt, Cmd.run, zeroP, eW, delta, Pen.ns]
theorem eT {i j k l m n : Nat} {a b c d e f : D} {ρ : Ev} {S : aQ} : Lo (.tp [i, j, k, l, m, n]) ρ (.dat (.tup [a, b, c, d, e, f])) S = .next ((((((ρ.set i (some (.dat a))).set j (some (.dat b))).set k (some (.dat c))).set l (some (.dat d))).set m (some (.dat e))).set n (some (.dat f))) S := rfl
theorem Fi {z : Pen} {S : aQ} : uD [.dat z.d] S = .ok (.dat (.bl true)) S := by
 rw [NM];unfold yO;simp! [wH, iP, oK, dZ, sz, aJ, aZ, cO, bO];rfl
theorem CY {S : aQ} {a0 a1 a2 a3 a6 a7 a8 : Option Vl} : ∀ (n : Nat) (lo : Int) (w : Int × Int), loop (.nm 9) lK (fJ lo n) [a0, a1, a2, a3, some (.dat (.int w.1)), some (.dat (.int w.2)), a6, a7, a8, none] S = .next [a0, a1, a2, a3, some (.dat (.int (BA n w).1)), some (.dat (.int (BA n w).2)), a6, a7, a8, none] S
 | 0, lo, w => rfl
 | n + 1, lo, w => by
  have := CY (S := S) (a0 := a0) (a1 := a1) (a2 := a2) (a3 := a3) (a6 := a6) (a7 := a7) (a8 := a8) n (lo + 1) (-w.2, w.1);rw [nM, loop];simp only [oK, iV];rw [lK];simp! [if_true];rw [<- lK];exact this
theorem uO {c : Cmd} {z : Pen} {S : aQ} (h : c.Ok) : mQ [.dat z.d, .dat c.d] S = .ok (.dat (c.run z).d) S := by
 rw [Hg];unfold sR;cases c with
 | go k =>
  simp! [eT, Pen.d, Pen.ds, Cmd.d, cK, eM, lX (Qz h)];rfl
 | turn k =>
  obtain ⟨h1, h2⟩ := h;simp! [eT, Pen.d, Pen.ds, Cmd.d, cK, eM, nA (show -(2 ^ 62) <= k by omega) (show k < 2 ^ 62 by omega), CY (k.toNat) 0 (z.u, z.v)]
  rfl
 | mirror => simp! [eT, Pen.d, Pen.ds, Cmd.d, cK]; rfl
 | scale k =>
  simp! [eT, Pen.d, Pen.ds, Cmd.d, cK, eM, lX (Qz (show -9 <= k /\ k <= 9 by have := h.1; have := h.2; omega))]
  rfl
 | aim a b => simp! [eT, Pen.d, Pen.ds, Cmd.d, cK, eM, kL]; rfl
 | place a b => simp! [eT, Pen.d, Pen.ds, Cmd.d, cK, eM, kL]; rfl
 | mark => simp! [eT, Pen.d, Pen.ds, Cmd.d, cK]; rfl
 | ret => simp! [eT, Pen.d, Pen.ds, Cmd.d, cK]; rfl
 | exch => simp! [eT, Pen.d, Pen.ds, Cmd.d, cK]; rfl
def lI (S0 : aQ) (xs ys : List D) : aQ := S0 ++ [.lst xs, .lst ys]
section
variable {S0 : aQ} {xs ys : List D}
theorem Ho : (lI S0 xs ys)[S0.length]? = some (.lst xs) := by simp [lI]
theorem KW : (lI S0 xs ys)[S0.length + 1]? = some (.lst ys) := by simp [lI]
theorem QR {c : List D} : (lI S0 xs ys).set S0.length (.lst c) = lI S0 c ys := by simp [lI]
theorem KU {c : List D} : (lI S0 xs ys).set (S0.length + 1) (.lst c) = lI S0 xs c := by
 rw [lI, cY _ _ (by omega), show S0.length + 1 - S0.length = 1 by omega]; rfl
theorem Ee {c : Cell} : ((lI S0 xs ys).set S0.length c).take S0.length = S0 := by simp [lI]
theorem Eh {ρ : Ev} {b : FE} {d : D} (F : xs.length < 5000000) (hb : b ρ (lI S0 xs ys) = .ok (.dat d) (lI S0 xs ys)) : vO b ρ (.cel S0.length) (lI S0 xs ys) = .ok (.dat .non) (lI S0 (xs ++ [d]) ys) := by
 rw [oD Ho, hb, eA, pP Ho (Ga (by omega)), QR]
theorem Eg {ρ : Ev} {b : FE} {d : D} (F : ys.length < 5000000) (hb : b ρ (lI S0 xs ys) = .ok (.dat d) (lI S0 xs ys)) : vO b ρ (.cel (S0.length + 1)) (lI S0 xs ys) = .ok (.dat .non) (lI S0 xs (ys ++ [d])) := by
 rw [oD KW, hb, eA, pP KW (Ga (by omega)), KU]
theorem Ef {d : D} : qY (.cel (S0.length + 1)) (lI S0 xs (ys ++ [d])) = .ok (.dat d) (lI S0 xs ys) := by
 simp only [qY, KW];rw [show (ys ++ [d])[(ys ++ [d]).length - 1]? = some d by simp]
 dsimp only;rw [kB, KU]
theorem Hn : S0 ++ [.lst xs] ++ [.lst ys] = lI S0 xs ys := by simp [lI]
end
theorem My {a b c d e f : D} : cutD [a, b, c, d, e, f] none (some 4) = [a, b, c, d] := by
 unfold cutD;rw [HT.sIx_none, show ((4 : Int)) = ((4 : Nat) : Int) from rfl, HT.sIx_nat]
 simp
theorem QJ {a b c d e f : D} : cutD [a, b, c, d, e, f] (some 4) none = [e, f] := by
 unfold cutD;rw [HT.sIx_none, show ((4 : Int)) = ((4 : Nat) : Int) from rfl, HT.sIx_nat]
 simp
structure Ps where
 pens : List Pen
 z : Pen
 stk : List Pen
def Cz (t z : Pen) : Pen := ⟨t.x, t.y, t.u, t.v, z.p, z.q⟩
def Bz : Deed -> Ps -> Option Ps
 | .cmd c, s => some ⟨s.pens ++ [c.run s.z], c.run s.z, s.stk⟩
 | .op, s => some ⟨s.pens, s.z, s.z :: s.stk⟩
 | .cl, s => match s.stk with
  | [] => none
  | t :: k => some ⟨s.pens, Cz t s.z, k⟩
def jY : List Deed -> Ps -> Option Ps
 | [], s => some s
 | d :: r, s => match Bz d s with
  | none => none
  | some s' => jY r s'
def Deed.Ok : Deed -> Prop
 | .cmd c => c.Ok
 | _ => True
theorem Aw {c : Cmd} {S : aQ} : bR (.dat c.d) (.dat (.int 0)) S = .ok (.dat (.str c.word)) S := by
 cases c <;> exact cK
theorem uX {c : Cmd} {w : Str} (h : w = "open" \/ w = "close" \/ w = "hold" \/ w = "shut") : decide (c.word = w) = false := by
 rcases h with rfl | rfl | rfl | rfl <;> cases c <;> rfl
def t4 (z : Pen) : D := .tup [.int z.x, .int z.y, .int z.u, .int z.v]
theorem Aj {S0 : aQ} {a0 : Option Vl} : ∀ (ds : List Deed) (s s' : Ps), (∀ d ∈ ds, d.Ok) -> jY ds s = some s' -> s.pens.length + s.stk.length + ds.length <= 1000000 ->
  loop (.nm 4) eU (ds.map Deed.d) [a0, some (.dat s.z.d), some (.cel S0.length), some (.cel (S0.length + 1)), none] (lI S0 (s.pens.map Pen.d) (rK t4 s.stk)) = .next [a0, some (.dat s'.z.d), some (.cel S0.length), some (.cel (S0.length + 1)), none] (lI S0 (s'.pens.map Pen.d) (rK t4 s'.stk))
 | [], s, s', _, h, _ => by cases h; rfl
 | d :: r, s, s', ok, h, hl => by
  rw [aJ] at hl;have okd := ok d (aY ..);rw [aK, loop];simp only [oK, iV];rw [eU];cases d with
  | cmd c =>
   have ih := Aj (S0 := S0) (a0 := a0) r ⟨s.pens ++ [c.run s.z], c.run s.z, s.stk⟩ s' (fun d hd => ok d (aL _ hd)) h (by simp; omega)
   simp! [Deed.d, Aw, uX (c := c) (w := "open") (.inl rfl), uX (c := c) (w := "close") (.inr (.inl rfl)), uO (show c.Ok from okd), Eh (d := (c.run s.z).d) (S0 := S0) (xs := s.pens.map Pen.d) (ys := rK t4 s.stk) (by rw [aN]; omega)]
   rw [<- eU, <- ih];simp only [bN, aK, bC]
  | op =>
   have ih := Aj (S0 := S0) (a0 := a0) r ⟨s.pens, s.z, s.z :: s.stk⟩ s' (fun d hd => ok d (aL _ hd)) h (by simp; omega)
   have hb : ∀ {x : Option Vl}, Ao false (aC 1) qU (hC (mC (.int 4))) [a0, some (.dat s.z.d), some (.cel S0.length), some (.cel (S0.length + 1)), x] (lI S0 (s.pens.map Pen.d) (rK t4 s.stk)) = .ok (.dat (t4 s.z)) (lI S0 (s.pens.map Pen.d) (rK t4 s.stk)) := by
    intro x;simp! [Pen.d, Pen.ds, My];rfl
   simp! [Deed.d, cK, Eg (by rw [mV]; omega) hb]
   rw [<- eU, <- ih];simp only [rvD_cons, t4]
  | cl =>
   cases hk : s.stk with
   | nil => simp [jY, Bz, hk] at h
   | cons t k =>
    simp only [jY, Bz, hk] at h;have ih := Aj (S0 := S0) (a0 := a0) r ⟨s.pens, Cz t s.z, k⟩ s' (fun d hd => ok d (aL _ hd)) h (by simp; rw [hk] at hl; simp at hl; omega)
    rw [rvD_cons];simp! [Deed.d, cK, Ef, QJ, t4, lZ, aJ, aZ, sz, bV, bL];rw [<- eU, <- ih];rfl
theorem Py {S : aQ} {ds : List Deed} {z : Pen} {s' : Ps} (ls : LS S) (ok : ∀ d ∈ ds, d.Ok) (h : jY ds ⟨[], z, []⟩ = some s') (hl : ds.length <= 900000) :
  kI [.dat (.lst (ds.map Deed.d)), .dat z.d] S = .ok (.dat (.tup [.lst (s'.pens.map Pen.d), s'.z.d])) S := by
 have lp := Aj (S0 := S) (a0 := some (.dat (.lst (ds.map Deed.d)))) ds ⟨[], z, []⟩ s' ok h (by simp; omega)
 have lsb : (S.all fun c => c.below S.length) = true := cF.mpr fun c hc => ls c hc _
 simp only [bC, rK, CG] at lp;rw [CT];unfold nF;simp! [bF, aJ, aZ, fV, Hn, lp, oC (Ho (S0 := S))];dsimp only [cL, trunc];rw [Ee, show (Vl.below S.length (Vl.dat (D.tup [D.lst (s'.pens.map Pen.d), s'.z.d])) && S.all fun c => c.below S.length) = true by rw [lsb]; rfl, if_pos rfl]
def Deed.l : Deed -> D
 | .cmd c => c.d
 | .op => .tup [.str "hold"]
 | .cl => .tup [.str "shut"]
theorem OH {a b c : D} {r : List D} {S : aQ} : bR (.dat (.lst (a :: b :: c :: r))) (.dat (.int 2)) S = .ok (.dat c) S := tD (atI_nat (j := 2) rfl)
theorem O4 {c : Cmd} {z : Pen} {S : aQ} (h : c.Ok) : xU [.dat z.d, .dat c.d] S = .ok (.dat (c.run z).d) S := by
 rw [NO];unfold yU;cases c with
 | go k =>
  simp! [eT, Pen.d, Pen.ds, Cmd.d, cK, eM, kL, lZ, aJ, aZ, sz, bV, bL, lX (Qz h)];rfl
 | turn k =>
  obtain ⟨h1, h2⟩ := h;rcases (by omega : k = 1 \/ k = 2 \/ k = 3) with rfl | rfl | rfl
  ·simp! [eT, Pen.d, Pen.ds, Cmd.d, cK, eM, kL, zU, AZ, OH, lZ, aJ, aZ, sz, bV, bL, Int.sub_self]
   rfl
  ·simp! [eT, Pen.d, Pen.ds, Cmd.d, cK, eM, kL, zU, AZ, OH, lZ, aJ, aZ, sz, bV, bL, show (2 : Int) - 1 = 1 from rfl]
   rfl
  ·simp! [eT, Pen.d, Pen.ds, Cmd.d, cK, eM, kL, zU, AZ, OH, lZ, aJ, aZ, sz, bV, bL, show (3 : Int) - 1 = 2 from rfl]
   show Res.ok (Vl.dat (D.tup [.int z.x, .int z.y, .int z.v, .int (- z.u), .int z.p, .int z.q])) S = Res.ok (Vl.dat (D.tup [.int z.x, .int z.y, .int (- -z.v), .int (- z.u), .int z.p, .int z.q])) S
   rw [Int.neg_neg]
 | mirror => simp! [eT, Pen.d, Pen.ds, Cmd.d, cK, eM, kL, lZ, aJ, aZ, sz, bV, bL]; rfl
 | scale k =>
  simp! [eT, Pen.d, Pen.ds, Cmd.d, cK, eM, kL, lZ, aJ, aZ, sz, bV, bL, lX (mul9r (show -9 <= k /\ k <= 9 by have := h.1; have := h.2; omega))]
  show Res.ok (Vl.dat (D.tup [.int z.x, .int z.y, .int (z.u * k), .int (z.v * k), .int z.p, .int z.q])) S = Res.ok (Vl.dat (D.tup [.int z.x, .int z.y, .int (k * z.u), .int (k * z.v), .int z.p, .int z.q])) S
  rw [B5 z.u, B5 z.v]
 | aim a b => simp! [eT, Pen.d, Pen.ds, Cmd.d, cK, eM, kL, lZ, aJ, aZ, sz, bV, bL]; rfl
 | place a b => simp! [eT, Pen.d, Pen.ds, Cmd.d, cK, eM, kL, lZ, aJ, aZ, sz, bV, bL]; rfl
 | mark => simp! [eT, Pen.d, Pen.ds, Cmd.d, cK, eM, kL, lZ, aJ, aZ, sz, bV, bL]; rfl
 | ret => simp! [eT, Pen.d, Pen.ds, Cmd.d, cK, eM, kL, lZ, aJ, aZ, sz, bV, bL]; rfl
 | exch => simp! [eT, Pen.d, Pen.ds, Cmd.d, cK, eM, kL, lZ, aJ, aZ, sz, bV, bL]; rfl
theorem Ap {S0 : aQ} {a0 : Option Vl} : ∀ (ds : List Deed) (s s' : Ps), (∀ d ∈ ds, d.Ok) -> jY ds s = some s' -> s.pens.length + s.stk.length + ds.length <= 1000000 ->
  loop (.nm 4) kS (ds.map Deed.l) [a0, some (.dat s.z.d), some (.cel S0.length), some (.cel (S0.length + 1)), none] (lI S0 (s.pens.map Pen.d) (rK Pen.d s.stk)) = .next [a0, some (.dat s'.z.d), some (.cel S0.length), some (.cel (S0.length + 1)), none] (lI S0 (s'.pens.map Pen.d) (rK Pen.d s'.stk))
 | [], s, s', _, h, _ => by cases h; rfl
 | d :: r, s, s', ok, h, hl => by
  rw [aJ] at hl;have okd := ok d (aY ..);rw [aK, loop];simp only [oK, iV];rw [kS];cases d with
  | cmd c =>
   have ih := Ap (S0 := S0) (a0 := a0) r ⟨s.pens ++ [c.run s.z], c.run s.z, s.stk⟩ s' (fun d hd => ok d (aL _ hd)) h (by simp; omega)
   simp! [Deed.l, Aw, uX (c := c) (w := "hold") (.inr (.inr (.inl rfl))), uX (c := c) (w := "shut") (.inr (.inr (.inr rfl))), O4 (show c.Ok from okd), Eh (d := (c.run s.z).d) (S0 := S0) (xs := s.pens.map Pen.d) (ys := rK Pen.d s.stk) (by rw [aN]; omega)]
   rw [<- kS, <- ih];simp only [bN, aK, bC]
  | op =>
   have ih := Ap (S0 := S0) (a0 := a0) r ⟨s.pens, s.z, s.z :: s.stk⟩ s' (fun d hd => ok d (aL _ hd)) h (by simp; omega)
   simp! [Deed.l, cK, Eg (d := s.z.d) (S0 := S0) (xs := s.pens.map Pen.d) (ys := rK Pen.d s.stk) (by rw [mV]; omega)]
   rw [<- kS, <- ih];simp only [rvD_cons]
  | cl =>
   cases hk : s.stk with
   | nil => simp [jY, Bz, hk] at h
   | cons t k =>
    simp only [jY, Bz, hk] at h;have ih := Ap (S0 := S0) (a0 := a0) r ⟨s.pens, Cz t s.z, k⟩ s' (fun d hd => ok d (aL _ hd)) h (by simp; rw [hk] at hl; simp at hl; omega)
    rw [rvD_cons];simp! [Deed.l, cK, Ef, QJ, My, lZ, aJ, aZ, sz, bV, bL];rw [<- kS, <- ih];rfl
theorem FV {S : aQ} {ds : List Deed} {z : Pen} {s' : Ps} (ls : LS S) (ok : ∀ d ∈ ds, d.Ok) (h : jY ds ⟨[], z, []⟩ = some s') (hl : ds.length <= 900000) :
  pH [.dat (.lst (ds.map Deed.l)), .dat z.d] S = .ok (.dat (.lst [.lst (s'.pens.map Pen.d), s'.z.d])) S := by
 have lp := Ap (S0 := S) (a0 := some (.dat (.lst (ds.map Deed.l)))) ds ⟨[], z, []⟩ s' ok h (by simp; omega)
 have lsb : (S.all fun c => c.below S.length) = true := cF.mpr fun c hc => ls c hc _
 simp only [bC, rK, CG] at lp;rw [NN];unfold yT;simp! [bF, aJ, aZ, fV, Hn, lp, oC (Ho (S0 := S))];dsimp only [cL, trunc];rw [Ee, show (Vl.below S.length (Vl.dat (D.lst [D.lst (s'.pens.map Pen.d), s'.z.d])) && S.all fun c => c.below S.length) = true by rw [lsb]; rfl, if_pos rfl]
abbrev mD (M : List Int) : D := .lst (M.map D.int)
theorem Lz {M : List Int} {i : Nat} (h : i < M.length) : (M.map D.int)[i]? = some (.int (gt M i)) := by
 rw [bT, bY h]
 show some (D.int M[i]) = some (D.int (M.getD i 0))
 rw [bB, bY h];rfl
theorem ixM {M : List Int} {t : Int} {n : Nat} {S : aQ} (e : t = (n : Int)) (h : n < M.length) : bR (.dat (mD M)) (.dat (.int t)) S = .ok (.dat (.int (gt M n))) S := by
 rw [e];exact tD (atI_nat (Lz h))
theorem PU {M : List Int} {lo hi : Option Int} : cutD (M.map D.int) lo hi = ((M.drop (HT.sIx M.length 0 lo)).take (HT.sIx M.length M.length hi - HT.sIx M.length 0 lo)).map D.int := by
 unfold cutD;rw [aN, <- List.map_drop, <- List.map_take]
theorem cut7 {M : List Int} {a b : Int} {k : Nat} (h : 7 * k + 7 <= M.length) (ha : a = ((7 * k : Nat) : Int)) (hb : b = ((7 * k + 7 : Nat) : Int)) : cutD (M.map D.int) (some a) (some b) = ((aP 7).map fun j => gt M (7 * k + j)).map D.int := by
 subst ha hb;rw [PU, HT.sIx_nat, HT.sIx_nat, DU (by omega), DU (by omega)]
 rw [show (M.drop (7 * k)).take (7 * k + 7 - 7 * k) = (aP 7).map fun j => gt M (7 * k + j) from ?_]
 apply List.ext_getElem
 ·simp; omega
 ·intro i h1 h2
  simp only [aN, List.length_range] at h2;rw [List.getElem_take, List.getElem_drop, List.getElem_map, List.getElem_range];unfold gt;rw [bB, bY (by omega)]
  rfl
theorem Hm {f g : Nat -> D} : ∀ {l : List Nat}, vW (l.map f) (l.map g) = l.map fun j => .tup [f j, g j]
 | [] => rfl
 | x :: r => by rw [aK, aK, vW, Hm]; rfl
theorem g_zip {a b : FE} {ρ : Ev} {S : aQ} {xs ys : List D} (ha : a ρ S = .ok (.dat (.lst xs)) S) (hb : b ρ S = .ok (.dat (.lst ys)) S) : LK a b ρ S = .ok (vW xs ys) S := by
 unfold LK;rw [ha, eA, hb, eA]
theorem uJ {S : aQ} : mP [] S = .ok (.dat (mD unitM)) S := by
 rw [Hf];unfold sQ sN;simp! [nA (show -(2 ^ 62) <= (49 : Int) by decide) (show (49 : Int) < 2 ^ 62 by decide)]
 rw [show fJ 0 49 = (aP 49).map (fun k : Nat => D.int (0 + (k : Int))) from rfl]
 rw [gV (g := fun k : Nat => D.int (if decide ((0 + (k : Int)) % 8 = 0) = true then 1 else 0)) (sz (by decide)) fun k _ => ⟨_, rfl, ?_⟩]
 ·dsimp only [newL, cL]
  rw [show (aP 49).map (fun k : Nat => D.int (if decide ((0 + (k : Int)) % 8 = 0) = true then 1 else 0)) = ((aP 49).map (fun k : Nat => (if decide ((0 + (k : Int)) % 8 = 0) = true then (1 : Int) else 0))).map D.int by rw [iU]; rfl, J5]
  rfl
 ·simp! [pN (show (0 : Int) < 8 by decide)]
def F6 (A B : List Int) (i k : Nat) : List Int := (aP 7).map fun j => dot (fun l => gt B (7 * i + l) * gt A (7 * l + j)) k
theorem Kv {A B : List Int} {i : Nat} : F6 A B i 0 = [0, 0, 0, 0, 0, 0, 0] := rfl
theorem Ik {S : aQ} {A B : List Int} {a b i : Nat} {a2 : Option Vl} (hA : A.length = 49) (hB : B.length = 49) (ba : ∀ x ∈ A, Bn a x) (bb : ∀ x ∈ B, Bn b x) (a0 : 0 < a) (b0 : 0 < b) (hab : a + b <= 1000000) (hi : i < 7) : ∀ (n k : Nat), n + k = 7 ->
  loop (.nm 5) jJ (fJ (k : Int) n) [some (.dat (mD A)), some (.dat (mD B)), a2, some (.dat (.int (i : Int))), some (.dat (mD (F6 A B i k))), none, none, none, none] S = .next [some (.dat (mD A)), some (.dat (mD B)), a2, some (.dat (.int (i : Int))), some (.dat (mD (F6 A B i 7))), none, none, none, none] S
 | 0, k, h => by
  obtain rfl : k = 7 := by omega
  rfl
 | n + 1, k, h => by
  have ih := Ik (S := S) (a2 := a2) hA hB ba bb a0 b0 hab hi n (k + 1) (by omega)
  rw [nM, loop];simp only [oK, iV];rw [jJ];have e1 : F6 A B i (k + 1) = (aP 7).map fun j => dot (fun l => gt B (7 * i + l) * gt A (7 * l + j)) k + gt B (7 * i + k) * gt A (7 * k + j) := rfl
  have m7 : ∀ {x : Nat}, IntMulOk (7 : Int) (x : Int) := mulL (by decide) (by decide)
  have ix := ixM (M := B) (t := 7 * (i : Int) + (k : Int)) (n := 7 * i + k) (S := S) (by omega) (by omega)
  simp! [lX m7, ix]
  by_cases hc : gt B (7 * i + k) = 0
  ·simp! [hc]
   rw [<- jJ, show ((k : Int) + 1) = ((k + 1 : Nat) : Int) by omega, <- ih, e1]
   simp only [hc, Int.zero_mul, Int.add_zero];rfl
  ·have hz : (LK (aC 4) (Ao false (aC 0) (hC (aR nX (mC (.int 7)) (aC 5))) (hC (aR (dR false) (aR nX (mC (.int 7)) (aC 5)) (mC (.int 7)))))) [some (.dat (mD A)), some (.dat (mD B)), a2, some (.dat (.int (i : Int))), some (.dat (mD (F6 A B i k))), some (.dat (.int (k : Int))), some (.dat (.int (gt B (7 * i + k)))), none, none] S = .ok ((aP 7).map fun j => .tup [.int (dot (fun l => gt B (7 * i + l) * gt A (7 * l + j)) k), .int (gt A (7 * k + j))]) S := by
    rw [g_zip (xs := (F6 A B i k).map D.int) (ys := ((aP 7).map fun j => gt A (7 * k + j)).map D.int) (by simp! [if_true]) (by simp! [lX m7, cut7 (M := A) (a := 7 * (k : Int)) (b := 7 * (k : Int) + 7) (k := k) (by omega) (by omega) (by omega)])]
    rw [F6, iU, iU, Hm];rfl
   simp! [decide_eq_false hc, hz];rw [gV (g := fun j : Nat => D.int (dot (fun l => gt B (7 * i + l) * gt A (7 * l + j)) k + gt B (7 * i + k) * gt A (7 * k + j))) (sz (by decide)) fun j hj => ⟨_, rfl, ?_⟩]
   ·simp! [if_true]
    rw [<- jJ, show ((k : Int) + 1) = ((k + 1 : Nat) : Int) by omega, <- ih, e1]
    simp only [mD, iU];rfl
   ·simp! [iV, lX (mulB (D3 bb) (D3 ba) b0 a0 (by omega))]
theorem lst7 {cl : Bool} {S : aQ} {a b c d e f g : D} : Jh cl [.dat a, .dat b, .dat c, .dat d, .dat e, .dat f, .dat g] S = newL cl [a, b, c, d, e, f, g] S := rfl
theorem GB {S : aQ} {A B : List Int} {a b : Nat} (hA : A.length = 49) (hB : B.length = 49) (ba : ∀ x ∈ A, Bn a x) (bb : ∀ x ∈ B, Bn b x) (a0 : 0 < a) (b0 : 0 < b) (hab : a + b <= 1000000) : ∀ (n i : Nat), n + i = 7 ->
  loop (.nm 3) lL (fJ (i : Int) n) [some (.dat (mD A)), some (.dat (mD B)), some (.dat (mD (rows (fun i j => dot (fun k => gt B (7 * i + k) * gt A (7 * k + j)) 7) i))), none, none, none, none, none, none] S = .next [some (.dat (mD A)), some (.dat (mD B)), some (.dat (mD (qI A B))), none, none, none, none, none, none] S
 | 0, i, h => by
  obtain rfl : i = 7 := by omega
  rw [Dd];rfl
 | n + 1, i, h => by
  have ih := GB (S := S) hA hB ba bb a0 b0 hab n (i + 1) (by omega)
  have inn := Ik (S := S) (i := i) (a2 := some (.dat (mD (rows (fun i j => dot (fun k => gt B (7 * i + k) * gt A (7 * k + j)) 7) i)))) hA hB ba bb a0 b0 hab (by omega) 7 0 rfl
  rw [Kv, iY] at inn;simp only [mD, aK, bC] at inn;rw [nM, loop];simp only [oK, iV];rw [lL];simp! [lst7, nA (show -(2 ^ 62) <= (7 : Int) by decide) (show (7 : Int) < 2 ^ 62 by decide), inn, oE, aN, BR, F6, List.length_range, sz (show 7 * i + 7 <= 1000 by omega)]
  rw [<- lL, show ((i : Int) + 1) = ((i + 1 : Nat) : Int) by omega, <- ih, vE]
  simp only [mD, bN]
theorem AU {S : aQ} {A B : List Int} {a b : Nat} (hA : A.length = 49) (hB : B.length = 49) (ba : ∀ x ∈ A, Bn a x) (bb : ∀ x ∈ B, Bn b x) (a0 : 0 < a) (b0 : 0 < b) (hab : a + b <= 1000000) :
  pG [.dat (mD A), .dat (mD B)] S = .ok (.dat (mD (qI A B))) S := by
 have lp := GB (S := S) hA hB ba bb a0 b0 hab 7 0 rfl;rw [show rows (fun i j => dot (fun k => gt B (7 * i + k) * gt A (7 * k + j)) 7) 0 = [] from rfl, iY] at lp
 rw [Hh];unfold sS;simp! [nA (show -(2 ^ 62) <= (7 : Int) by decide) (show (7 : Int) < 2 ^ 62 by decide), show D.lst [] = mD [] from rfl, lp]
 rfl
def qB (M : List Int) : List Int := mx fun i j => if i = 0 \/ 4 < i then gt M (7 * i + j) else gt M 0 * delta i j
theorem zS (M : List Int) : (qB M).length = 49 := zN _
def IT (M : List Int) : List Int := M.take 7 ++ ((unitM.drop 7).take 28).map (gt M 0 * ·) ++ M.drop 35
theorem D4 {A B : List Int} {t : Nat} : gt (A ++ B) t = if t < A.length then gt A t else gt B (t - A.length) := by
 unfold gt;rw [bB, bB, bB, List.getElem?_append]
 by_cases h : t < A.length
 ·rw [if_pos h, if_pos h]
 ·rw [if_neg h, if_neg h]
theorem IY {A : List Int} {n t : Nat} (h : t < n) : gt (A.take n) t = gt A t := by
 unfold gt;rw [bB, bB, eO, if_pos h]
theorem IZ {A : List Int} {n t : Nat} : gt (A.drop n) t = gt A (n + t) := by
 unfold gt;rw [bB, bB, List.getElem?_drop]
theorem RT {A : List Int} {c : Int} {t : Nat} : gt (A.map (c * ·)) t = c * gt A t := by
 unfold gt;rw [bB, bB, bT];cases A[t]? with
 | none => simp
 | some x => rfl
theorem Le {M : List Int} (h : M.length = 49) : IT M = qB M := by
 have l1 : (M.take 7).length = 7 := by rw [kM, h]; rfl
 have l2 : (((unitM.drop 7).take 28).map (gt M 0 * ·)).length = 28 := by rw [aN, kM, oJ, rC]; rfl
 refine Q0 ?_ (zS M) fun i j hi hj => ?_
 ·unfold IT
  rw [bF, bF, l1, l2, oJ, h]
 ·unfold IT qB
  rw [AG hi hj, D4, bF, l1, l2, D4, l1]
  by_cases h0 : i = 0
  ·rw [if_pos (by omega), if_pos (by omega), if_pos (.inl h0), IY (by omega)]
  ·by_cases h4 : 4 < i
   ·rw [if_neg (by omega), if_pos (.inr h4), IZ, show 35 + (7 * i + j - (7 + 28)) = 7 * i + j by omega]
   ·rw [if_pos (by omega), if_neg (by omega), if_neg (by omega), RT, IY (by omega), IZ, show 7 + (7 * i + j - 7) = 7 * i + j by omega]
    unfold unitM;rw [AG hi hj]
theorem B9 {x : Int} (h : x ∈ unitM) : x = 0 \/ x = 1 := by
 unfold unitM mx at h;obtain ⟨t, _, rfl⟩ := pY.mp h;unfold delta
 by_cases e : t / 7 = t % 7
 ·right; rw [if_pos e]
 ·left; rw [if_neg e]
theorem OF {S : aQ} {M : List Int} (h : M.length = 49) : mX [.dat (mD M)] S = .ok (.dat (mD (qB M))) S := by
 rw [CU];unfold nG;have i0 := ixM (M := M) (t := 0) (n := 0) (S := S) rfl (by omega)
 have c1 : cutD (unitM.map D.int) (some 7) (some 35) = ((unitM.drop 7).take 28).map D.int := by
  rw [PU, show ((7 : Int)) = ((7 : Nat) : Int) from rfl, show ((35 : Int)) = ((35 : Nat) : Int) from rfl, HT.sIx_nat, HT.sIx_nat, rC]
  rfl
 have c2 : cutD (M.map D.int) none (some 7) = (M.take 7).map D.int := by
  rw [PU, HT.sIx_none, show ((7 : Int)) = ((7 : Nat) : Int) from rfl, HT.sIx_nat, h]
  rfl
 have c3 : cutD (M.map D.int) (some 35) none = (M.drop 35).map D.int := by
  rw [PU, HT.sIx_none, show ((35 : Int)) = ((35 : Nat) : Int) from rfl, HT.sIx_nat, h]
  rw [show min 35 49 = 35 from rfl, Hk (by simp; omega)]
 simp! [i0, uJ, c1];rw [gV (g := fun x : Int => D.int (gt M 0 * x)) (sz (by simp; omega)) fun x hx => ⟨_, rfl, ?_⟩]
 ·rw [show (List.map (fun x : Int => D.int (gt M 0 * x)) ((unitM.drop 7).take 28)) = (((unitM.drop 7).take 28).map (gt M 0 * ·)).map D.int by rw [iU]; rfl]
  have l1 : (M.take 7).length = 7 := by rw [kM, h]; rfl
  have l2 : (((unitM.drop 7).take 28).map (gt M 0 * ·)).length = 28 := by rw [aN, kM, oJ, rC]; rfl
  have q1 : ∀ {cl : Bool}, dR cl (.dat (.lst ((M.take 7).map D.int))) (.dat (.lst ((((unitM.drop 7).take 28).map (gt M 0 * ·)).map D.int))) S = newL cl ((M.take 7).map D.int ++ (((unitM.drop 7).take 28).map (gt M 0 * ·)).map D.int) S := oE (by rw [aN, aN, l1, l2]; exact sz (by decide))
  have q2 : ∀ {cl : Bool}, dR cl (.dat (.lst ((M.take 7).map D.int ++ (((unitM.drop 7).take 28).map (gt M 0 * ·)).map D.int))) (.dat (.lst ((M.drop 35).map D.int))) S = newL cl ((M.take 7).map D.int ++ (((unitM.drop 7).take 28).map (gt M 0 * ·)).map D.int ++ (M.drop 35).map D.int) S := oE (by rw [bF, aN, aN, l1, l2, aN, oJ, h]; exact sz (by decide))
  simp! [c2, c3, q1, q2];rw [<- bN, <- bN]
  show Res.ok (Vl.dat (mD (IT M))) S = _
  rw [Le h]
 ·have hs : x = 0 \/ x = 1 := B9 (List.mem_of_mem_drop (KI hx))
  simp! [lX (show IntMulOk (gt M 0) x from mulR (by omega) (by omega))]
theorem DD {k j : Nat} : (if decide ((0 + (k : Int)) = (j : Int)) = true then (1 : Int) else 0) = delta k j := by
 unfold delta
 by_cases h : k = j
 ·subst h; simp
 ·rw [decide_eq_false (by omega), if_neg h]; rfl
theorem NV {cl : Bool} {j : Nat} {S : aQ} {a0 a1 a2 a4 a5 a6 a7 a8 : Option Vl} : wH cl (.nm 6) fP (m1 pX (aR fK (aC 6) (aC 3))) [a0, a1, a2, some (.dat (.int (j : Int))), a4, a5, a6, a7, a8] [6] (fJ 0 6) S = newL cl (eW j).ds S := by
 rw [show fJ 0 6 = (aP 6).map (fun k : Nat => D.int (0 + (k : Int))) from rfl, gV (g := fun k : Nat => D.int (delta k j)) (sz (by decide)) fun k _ => ⟨_, rfl, ?_⟩]
 ·rfl
 ·simp! [if_true]
  rw [DD]
theorem NU {cl : Bool} {j : Nat} {S : aQ} {a0 a1 a2 a3 a4 a6 : Option Vl} : wH cl (.nm 6) fP (m1 pX (aR fK (aC 6) (aC 5))) [a0, a1, a2, a3, a4, some (.dat (.int (j : Int))), a6] [6] (fJ 0 6) S = newL cl (eW j).ds S := by
 rw [show fJ 0 6 = (aP 6).map (fun k : Nat => D.int (0 + (k : Int))) from rfl, gV (g := fun k : Nat => D.int (delta k j)) (sz (by decide)) fun k _ => ⟨_, rfl, ?_⟩]
 ·rfl
 ·simp! [if_true]
  rw [DD]
theorem F7 {S : aQ} : AF (.dat (.int 6)) S = .ok (fJ 0 6) S := by rw [nA (by decide) (by decide)]; rfl
theorem rng7 {S : aQ} : AF (.dat (.int 7)) S = .ok (fJ 0 7) S := by rw [nA (by decide) (by decide)]; rfl
theorem ixP {z : Pen} {t : Int} {n : Nat} {S : aQ} (e : t = (n : Int)) (h : n < 6) : bR (.dat z.d) (.dat (.int t)) S = .ok (.dat (.int (gt z.ns n))) S := by
 rw [e];exact D7 (atI_nat (Lz (M := z.ns) h))
def rR (r : Pen -> Pen) (j : Nat) : D := .lst ((aP 7).map fun i => D.int (dH r i j))
theorem FP {S : aQ} {c : Cmd} (h : c.Ok) : ∀ (n j : Nat), n + j = 6 ->
  loop (.nm 3) kD (fJ (j : Int) n) [some (.dat c.d), some (.dat (c.run zeroP).d), some (.cel S.length), none, none, none, none, none, none] (S ++ [.lst ((aP (j + 1)).map (rR c.run))]) = .next [some (.dat c.d), some (.dat (c.run zeroP).d), some (.cel S.length), none, none, none, none, none, none] (S ++ [.lst ((aP 7).map (rR c.run))])
 | 0, j, e => by
  obtain rfl : j = 6 := by omega
  rfl
 | n + 1, j, e => by
  have ih := FP (S := S) h n (j + 1) (by omega)
  rw [nM, loop];simp only [oK, iV];rw [kD];have hb : ∀ {T : aQ} {a3 a4 a6 : Option Vl}, wR false (iX (mC (.int 6))) (.nm 6) fP nC [6] [some (.dat c.d), some (.dat (c.run zeroP).d), some (.cel S.length), a3, a4, some (.dat (c.run (eW j)).d), a6, none, none] T = .ok (.dat (.lst ((aP 6).map fun i => D.int (gt (c.run (eW j)).ns i - gt (c.run zeroP).ns i)))) T := by
   intro T a3 a4 a6;simp! [F7];rw [show fJ 0 6 = (aP 6).map (fun k : Nat => D.int (0 + (k : Int))) from rfl, gV (g := fun i : Nat => D.int (gt (c.run (eW j)).ns i - gt (c.run zeroP).ns i)) (sz (by decide)) fun k hk => ⟨_, rfl, ?_⟩]
   ·rfl
   ·unfold nC
    simp! [ixP (z := c.run (eW j)) (t := 0 + (k : Int)) (n := k) (by omega) (eD.mp hk), ixP (z := c.run zeroP) (t := 0 + (k : Int)) (n := k) (by omega) (eD.mp hk)]
  have hg : (S ++ [.lst ((aP (j + 1)).map (rR c.run))])[S.length]? = some (.lst ((aP (j + 1)).map (rR c.run))) := by simp
  have ha : ∀ {b : FE} {ρ : Ev} {d : D}, b ρ (S ++ [.lst ((aP (j + 1)).map (rR c.run))]) = .ok (.dat d) (S ++ [.lst ((aP (j + 1)).map (rR c.run))]) -> vO b ρ (.cel S.length) (S ++ [.lst ((aP (j + 1)).map (rR c.run))]) = .ok (.dat .non) (S ++ [.lst ((aP (j + 1)).map (rR c.run) ++ [d])]) := by
   intro b ρ d hd;rw [oD hg, hd, eA, pP hg (Ga (by simp; omega))]
   simp
  simp! [F7, NV, show D.tup (eW j).ds = (eW j).d from rfl, uO h]
  rw [ha (d := rR c.run (j + 1)) (by simp! [hb]; rw [oE (by simp; exact sz (by decide))]; rfl)]
  simp! [if_true];rw [<- kD, show ((j : Int) + 1) = ((j + 1 : Nat) : Int) by omega, <- ih, vK (n := j + 1), bN]
  rfl
theorem Cw {i i1 : Nat} {mj : FI} {e : FE} {vs1 : List Nat} {ρ : Ev} {S : aQ} {f : Nat -> D} {ys : List Nat} {g : Nat -> Nat -> D} {f1 : Nat -> D} : ∀ (xs : List Nat), (∀ x ∈ xs, mj (ρ.set i (some (.dat (f x)))) S = .ok (ys.map f1) S) -> (∀ x ∈ xs, ∀ y ∈ ys, e ((wipeE (ρ.set i (some (.dat (f x)))) vs1).set i1 (some (.dat (f1 y)))) S = .ok (.dat (g x y)) S) ->
  vQ (.nm i) fP mj (.nm i1) fP e vs1 ρ (xs.map f) S = .ok (xs.flatMap fun x => ys.map (g x)) S
 | [], _, _ => rfl
 | x :: r, h1, h2 => by
  have ih := Cw (i := i) (i1 := i1) (mj := mj) (e := e) (vs1 := vs1) (ρ := ρ) (S := S) (f := f) (ys := ys) (g := g) (f1 := f1) r (fun x hx => h1 x (aL _ hx)) fun x hx => h2 x (aL _ hx)
  rw [aK, vQ];simp only [oK, fP, if_true];rw [h1 x (aY ..)];dsimp only;have q : iP (.nm i1) fP e (wipeE (ρ.set i (some (.dat (f x)))) vs1) (ys.map f1) S = .ok (ys.map (g x)) S := yC fun y hy => ⟨_, rfl, h2 x (aY ..) y hy⟩
  rw [q];dsimp only;rw [ih];rfl
theorem HE {xs : List D} {t : Int} {n : Nat} {d : D} {S : aQ} (e : t = (n : Int)) (h : xs[n]? = some d) : bR (.dat (.lst xs)) (.dat (.int t)) S = .ok (.dat d) S := by
 rw [e];exact tD (atI_nat h)
theorem J8 {T : aQ} {n : Nat} {c : Cell} {d : D} (h : (T.all fun c => c.below T.length) = true) (hn : n = T.length) : trunc n (.ok (.dat d) (T ++ [c])) = .ok (.dat d) T := by
 subst hn;unfold trunc;dsimp only;rw [List.take_left, h];rfl
theorem Gv {S : aQ} {c : Cmd} (lb : (S.all fun c => c.below S.length) = true) (h : c.Ok) : nQ [.dat c.d] S = .ok (.dat (mD c.mat)) S := by
 have lp := FP (S := S) h 6 0 rfl;rw [iY] at lp;have ex := uO (c := c) (z := zeroP) (S := S) h;rw [GQ];unfold qJ;have hg : (S ++ [.lst ((aP 7).map (rR c.run))])[S.length]? = some (.lst ((aP 7).map (rR c.run))) := by simp
 have hst : (dG true (aB (dG false (aB (mC (.int 1)) (LL (aC 1) aO))) aO)) [some (.dat c.d), some (.dat (c.run zeroP).d), none, none, none, none, none, none, none] S = .ok (.cel S.length) (S ++ [.lst ((aP (0 + 1)).map (rR c.run))]) := rfl;have hz : (cC (aB (mC (.int 0)) (aB (mC (.int 0)) (aB (mC (.int 0)) (aB (mC (.int 0)) (aB (mC (.int 0)) (aB (mC (.int 0)) aO))))))) [some (.dat c.d), none, none, none, none, none, none, none, none] S = .ok (.dat zeroP.d) S := rfl;have l2 : (LN false (iX (mC (.int 7))) (.nm 7) fP (iX (mC (.int 7))) (.nm 8) fP (aR bR (aR bR (aC 2) (aC 8)) (aC 7)) [7, 8] [8]) [some (.dat c.d), some (.dat (c.run zeroP).d), some (.cel S.length), none, none, none, none, none, none] (S ++ [.lst ((aP 7).map (rR c.run))]) = .ok (.dat (mD c.mat)) (S ++ [.lst ((aP 7).map (rR c.run))]) := by
  unfold LN;simp! [rng7];rw [show fJ 0 7 = (aP 7).map (fun k : Nat => D.int (0 + (k : Int))) from rfl]
  rw [Cw (ys := aP 7) (f1 := fun k : Nat => D.int (0 + (k : Int))) (g := fun i j => D.int (dH c.run i j)) (aP 7)]
  ·dsimp only
   rw [show (aP 7).flatMap (fun x => (aP 7).map fun j => D.int (dH c.run x j)) = (rows (dH c.run) 7).map D.int by rw [rows, List.map_flatMap]; simp only [iU]; rfl, Dd, if_pos (by rw [aN, zN]; exact sz (by decide))]
   rw [show mx (dH c.run) = c.mat by unfold Cmd.mat probeM; rfl]
  ·intro x hx
   simp! [rng7];rfl
  ·intro x hx y hy
   have hx := eD.mp hx;have hy := eD.mp hy;have i1 : bR (.cel S.length) (.dat (.int (0 + (y : Int)))) (S ++ [.lst ((aP 7).map (rR c.run))]) = .ok (.dat (rR c.run y)) (S ++ [.lst ((aP 7).map (rR c.run))]) := MR hg (by rw [Int.zero_add]; exact atI_nat (by rw [bT, iA hy]; rfl))
   have i2 : bR (.dat (rR c.run y)) (.dat (.int (0 + (x : Int)))) (S ++ [.lst ((aP 7).map (rR c.run))]) = .ok (.dat (.int (dH c.run x y))) (S ++ [.lst ((aP 7).map (rR c.run))]) := HE (n := x) (by omega) (by rw [bT, iA hx]; rfl)
   simp! [wipeE, i1, i2]
 simp only [QE, QH, QG, QF, M8, HU, HS, Du, Dt, MA, eA, hz];simp! [HF h, hz, ex, hst, F7, lp, l2];rw [cL, J8 lb rfl]
theorem Jb {S : aQ} {c : Cmd} (ls : LS S) (h : c.Ok) : nQ [.dat c.d] S = .ok (.dat (mD c.mat)) S := Gv (cF.mpr fun c hc => ls c hc _) h
structure Ms where
 m : List Int
 stk : List (List Int)
def uQ : Deed -> Ms -> Option Ms
 | .cmd c, s => some ⟨qI s.m c.mat, s.stk⟩
 | .op, s => some ⟨unitM, s.m :: s.stk⟩
 | .cl, s => match s.stk with
  | [] => none
  | P :: k => some ⟨qI P (qB s.m), k⟩
def jZ : List Deed -> Ms -> Option Ms
 | [], s => some s
 | d :: r, s => match uQ d s with
  | none => none
  | some s' => jZ r s'
def mS : List Deed -> Nat
 | [] => 0
 | .cmd _ :: r => mS r + 1
 | _ :: r => mS r
def MbL : List (List Int) -> Nat -> Prop
 | [], _ => True
 | M :: k, n => ∃ a, 0 < a /\ a <= n /\ M.length = 49 /\ (∀ x ∈ M, Bn a x) /\ MbL k (n - a)
theorem MbL.mono : ∀ {l : List (List Int)} {n m : Nat}, MbL l n -> n <= m -> MbL l m
 | [], _, _, _, _ => trivial
 | M :: k, n, m, ⟨a, h0, h1, h2, h3, h4⟩, h => ⟨a, h0, by omega, h2, h3, h4.mono (by omega)⟩
theorem Ec : ∀ x ∈ unitM, Bn 1 x := fun x hx => by
 rcases B9 hx with rfl | rfl <;> (unfold Bn; decide)
theorem IS {M : List Int} {a : Nat} (h : ∀ x ∈ M, Bn a x) : ∀ x ∈ qB M, Bn a x := LI fun i j _ _ => by
 by_cases e : i = 0 \/ 4 < i
 ·rw [if_pos e]; exact D3 h
 ·rw [if_neg e]
  unfold delta
  by_cases e2 : i = j
  ·rw [if_pos e2, Int.mul_one]; exact D3 h
  ·rw [if_neg e2, qN]; exact Bn.zero
theorem ED {d : Deed} {s s' : Ms} {n : Nat} (ok : d.Ok) (h : MbL (s.m :: s.stk) n) (e : uQ d s = some s') : MbL (s'.m :: s'.stk) (n + 8) := by
 obtain ⟨a, h0, h1, h2, h3, h4⟩ := h;cases d with
 | cmd c =>
  cases e;exact ⟨a + 5 + 3, by omega, by omega, A4 _ _, GD h3 (Cmd.mat_bd ok), h4.mono (by omega)⟩
 | op =>
  cases e;exact ⟨1, by omega, by omega, rC, Ec, a, h0, by omega, h2, h3, h4.mono (by omega)⟩
 | cl =>
  unfold uQ at e;dsimp only at e;cases hk : s.stk with
  | nil => rw [hk] at e; cases e
  | cons P k =>
   rw [hk] at e h4;cases e;obtain ⟨b, g0, g1, g2, g3, g4⟩ := h4;exact ⟨b + a + 3, by omega, by omega, A4 _ _, GD g3 (IS h3), g4.mono (by omega)⟩
section
variable {S0 : aQ} {xs : List D}
theorem IH : (S0 ++ [Cell.lst xs])[S0.length]? = some (.lst xs) := by simp
theorem L8 {c : Cell} : (S0 ++ [Cell.lst xs]).set S0.length c = S0 ++ [c] := by simp
theorem Di {ρ : Ev} {b : FE} {d : D} (F : xs.length < 5000000) (hb : b ρ (S0 ++ [.lst xs]) = .ok (.dat d) (S0 ++ [.lst xs])) : vO b ρ (.cel S0.length) (S0 ++ [.lst xs]) = .ok (.dat .non) (S0 ++ [.lst (xs ++ [d])]) := by
 rw [oD IH, hb, eA, pP IH (Ga (by omega)), L8]
theorem Nz {d : D} : qY (.cel S0.length) (S0 ++ [.lst (xs ++ [d])]) = .ok (.dat d) (S0 ++ [.lst xs]) := by
 simp only [qY, IH];rw [show (xs ++ [d])[(xs ++ [d]).length - 1]? = some d by simp]
 dsimp only;rw [kB, L8]
end
theorem Ai {S0 : aQ} {a0 a1 a2 a3 a4 : Option Vl} (ls : LS S0) : ∀ (ds : List Deed) (s s' : Ms) (n k : Nat), (∀ d ∈ ds, d.Ok) -> jZ ds s = some s' -> MbL (s.m :: s.stk) n -> n + 8 * ds.length <= 900000 -> s.stk.length + ds.length <= 900000 ->
  loop (.nm 8) fM (ds.map Deed.d) [a0, a1, a2, a3, a4, some (.dat (mD s.m)), some (.cel S0.length), some (.dat (.int (k : Int))), none] (S0 ++ [.lst (rK mD s.stk)]) = .next [a0, a1, a2, a3, a4, some (.dat (mD s'.m)), some (.cel S0.length), some (.dat (.int ((k + mS ds : Nat) : Int))), none] (S0 ++ [.lst (rK mD s'.stk)])
 | [], s, s', n, k, _, h, _, _, _ => by cases h; rfl
 | d :: r, s, s', n, k, ok, h, hm, hn, hl => by
  rw [aJ] at hn hl;have okd := ok d (aY ..);have okr : ∀ d ∈ r, d.Ok := fun d hd => ok d (aL _ hd)
  obtain ⟨a, h0, h1, h2, h3, h4⟩ := id hm;rw [aK, loop];simp only [oK, iV];rw [fM];cases d with
  | cmd c =>
   have ih := Ai (S0 := S0) (a0 := a0) (a1 := a1) (a2 := a2) (a3 := a3) (a4 := a4) ls r ⟨qI s.m c.mat, s.stk⟩ s' (n + 8) (k + 1) okr h (ED okd hm rfl) (by omega) (by dsimp only; omega)
   simp! [Deed.d, Aw, uX (c := c) (w := "open") (.inl rfl), uX (c := c) (w := "close") (.inr (.inl rfl)), Jb ls.app (show c.Ok from okd), AU h2 (show c.mat.length = 49 from BU _) h3 (Cmd.mat_bd (show c.Ok from okd)) h0 (by decide) (by omega : a + 5 <= 1000000)]
   rw [<- fM, show ((k + mS (Deed.cmd c :: r) : Nat) : Int) = ((k + 1 + mS r : Nat) : Int) by simp [mS]; omega, <- ih]
   rfl
  | op =>
   have ih := Ai (S0 := S0) (a0 := a0) (a1 := a1) (a2 := a2) (a3 := a3) (a4 := a4) ls r ⟨unitM, s.m :: s.stk⟩ s' (n + 8) k okr h (ED okd hm rfl) (by omega) (by simp; omega)
   simp! [Deed.d, cK, Di (d := mD s.m) (S0 := S0) (xs := rK mD s.stk) (by rw [mV]; omega), uJ]
   rw [<- fM, show ((k + mS (Deed.op :: r) : Nat) : Int) = ((k + mS r : Nat) : Int) from rfl, <- ih]
   simp only [rvD_cons]
  | cl =>
   cases hk : s.stk with
   | nil => simp [jZ, uQ, hk] at h
   | cons P q =>
    have e1 : uQ .cl s = some ⟨qI P (qB s.m), q⟩ := by simp [uQ, hk]
    simp only [jZ, uQ, hk] at h;rw [hk] at h4 hl;obtain ⟨b, g0, g1, g2, g3, g4⟩ := h4;have ih := Ai (S0 := S0) (a0 := a0) (a1 := a1) (a2 := a2) (a3 := a3) (a4 := a4) ls r ⟨qI P (qB s.m), q⟩ s' (n + 8) k okr h (ED okd hm e1) (by omega) (by simp at hl ⊢; omega)
    rw [rvD_cons];simp! [Deed.d, cK, Nz, OF h2, AU g2 (zS s.m) g3 (IS h3) g0 h0 (by omega : b + a <= 1000000)]
    rw [<- fM, show ((k + mS (Deed.cl :: r) : Nat) : Int) = ((k + mS r : Nat) : Int) from rfl, <- ih]
theorem rm_ok {S : aQ} {x0 x1 x2 : Vl} {w : Int} {ds : List Deed} {s' : Ms} (ls : LS S) (he : cH [x0, x1, x2] S = .ok (.dat (.tup [.int w, .lst (ds.map Deed.d)])) S) (ok : ∀ d ∈ ds, d.Ok) (h : jZ ds ⟨unitM, []⟩ = some s') (hl : ds.length <= 100000) :
  lN [x0, x1, x2] S = .ok (.dat (.tup [.int w, mD s'.m, .int (mS ds : Int)])) S := by
 have lp := Ai (S0 := S) (a0 := some x0) (a1 := some x1) (a2 := some x2) (a3 := some (.dat (.int w))) (a4 := some (.dat (.lst (ds.map Deed.d)))) ls ds ⟨unitM, []⟩ s' 1 0 ok h ⟨1, by decide, by decide, rC, Ec, trivial⟩ (by omega) (by simp; omega)
 simp only [rK, CG, bC, iY] at lp;rw [ER];unfold oX;simp! [he, uJ, lp];rw [cL, Ek ls rfl, fV]
theorem Qn {S : aQ} {x0 x1 x2 : Vl} {w : Int} {ds : List Deed} {z : Pen} {s' : Ps} (ls : LS S) (he : cH [x0, x1, x2] S = .ok (.dat (.tup [.int w, .lst (ds.map Deed.d)])) S) (ok : ∀ d ∈ ds, d.Ok) (h : jY ds ⟨[], z, []⟩ = some s') (hl : ds.length <= 900000) :
  FQ [x0, x1, x2, .dat z.d] S = .ok (.dat (.tup [.int w, s'.z.d, .int (s'.pens.length : Int)])) S := by
 rw [E_ran];unfold Iv;simp! [he, Fi, Py ls ok h hl, aN];rfl
theorem O5 {f : Pen -> Pen} {M : List Int} (h : MatOf f M) : gt M 0 = 1 := by
 have := h.2 zeroP 0 (by decide)
 rw [wI] at this;exact this.symm
theorem MatOf.kept {f : Pen -> Pen} {M : List Int} (h : MatOf f M) : MatOf (fun y => Cz y (f y)) (qB M) := ⟨zS M, fun z i hi => by
 by_cases e : i = 0 \/ 4 < i
 ·have e2 : nS (qB M) z i = nS M z i := by
   unfold nS;refine jQ fun j hj => ?_
   unfold qB;rw [AG hi hj, if_pos e]
  rw [e2, <- h.2 z i hi];rcases (by omega : i = 0 \/ i = 5 \/ i = 6) with rfl | rfl | rfl <;> rfl
 ·have e2 : nS (qB M) z i = vc z i := by
   unfold nS;rw [jQ (g := fun j => vc z j * delta j i) fun j hj => by
    unfold qB;rw [AG hi hj, if_neg e, O5 h, Int.one_mul, B5];unfold delta
    by_cases e3 : i = j
    ·rw [if_pos e3, if_pos e3.symm]; rfl
    ·rw [if_neg e3, if_neg fun z => e3 z.symm, qN, qN]]
   rw [A3, if_pos hi]
  rw [e2];rcases (by omega : i = 1 \/ i = 2 \/ i = 3 \/ i = 4) with rfl | rfl | rfl | rfl <;> rfl⟩
inductive Chain : List (List Int) -> (Pen -> List Pen) -> Prop
 | nil : Chain [] (fun _ => [])
 | cons {P : List Int} {k : List (List Int)} {ts : Pen -> List Pen} {f : Pen -> Pen} : MatOf f P -> Chain k ts -> Chain (P :: k) (fun z => f ((ts z).headD z) :: ts z)
def Inv (s : Ms) (p : Pen -> Ps) : Prop := ∃ (ts : Pen -> List Pen) (f : Pen -> Pen), Chain s.stk ts /\ MatOf f s.m /\ ∀ z, (p z).stk = ts z /\ (p z).z = f ((ts z).headD z)
theorem K1 {d : Deed} {s s' : Ms} {p : Pen -> Ps} (ok : d.Ok) (I : Inv s p) (h : uQ d s = some s') : ∃ p' : Pen -> Ps, (∀ z, Bz d (p z) = some (p' z)) /\ Inv s' p' /\ ∀ z, (p' z).pens.length = (p z).pens.length + mS [d] := by
 obtain ⟨ts, f, C, hf, hz⟩ := I;cases d with
 | cmd c =>
  cases h;exact ⟨fun z => ⟨(p z).pens ++ [c.run (p z).z], c.run (p z).z, (p z).stk⟩, fun z => rfl, ⟨ts, fun z => c.run (f z), C, hf.comp (Cmd.matOf ok), fun z => ⟨(hz z).1, by dsimp only; rw [(hz z).2]⟩⟩, fun z => by simp [mS]⟩
 | op =>
  cases h;exact ⟨fun z => ⟨(p z).pens, (p z).z, (p z).z :: (p z).stk⟩, fun z => rfl, ⟨_, fun z => z, .cons hf C, MatOf.unit, fun z => ⟨by dsimp only; rw [(hz z).1, (hz z).2], by dsimp only; rw [(hz z).2]; rfl⟩⟩, fun z => rfl⟩
 | cl =>
  unfold uQ at h;dsimp only at h;obtain ⟨m, stk⟩ := s;cases C with
  | nil => cases h
  | @cons P k ts g hg C2 =>
   cases h;refine ⟨fun z => ⟨(p z).pens, Cz (g ((ts z).headD z)) (p z).z, ts z⟩, fun z => ?_, ⟨ts, fun y => Cz (g y) (f (g y)), C2, hg.comp hf.kept, fun z => ⟨rfl, by dsimp only; rw [(hz z).2]; rfl⟩⟩, fun z => rfl⟩
   dsimp only [Bz];rw [(hz z).1]
theorem K4 {d : Deed} {r : List Deed} : mS (d :: r) = mS [d] + mS r := by
 cases d <;> simp [mS] <;> omega
theorem By : ∀ {ds : List Deed} {s s' : Ms} {p : Pen -> Ps}, (∀ d ∈ ds, d.Ok) -> Inv s p -> jZ ds s = some s' -> ∃ p' : Pen -> Ps, (∀ z, jY ds (p z) = some (p' z)) /\ Inv s' p' /\ ∀ z, (p' z).pens.length = (p z).pens.length + mS ds
 | [], s, s', p, _, I, h => by cases h; exact ⟨p, fun z => rfl, I, fun z => rfl⟩
 | d :: r, s, s', p, ok, I, h => by
  unfold jZ at h;cases e : uQ d s with
  | none => rw [e] at h; cases h
  | some s1 =>
   rw [e] at h;obtain ⟨p1, h1, I1, n1⟩ := K1 (ok d (aY ..)) I e;obtain ⟨p2, h2, I2, n2⟩ := By (fun d hd => ok d (aL _ hd)) I1 h
   exact ⟨p2, fun z => by unfold jY; rw [h1 z]; exact h2 z, I2, fun z => by rw [n2, n1, K4 (d := d) (r := r)]; omega⟩
theorem K0 {ds : List Deed} {s' : Ms} (ok : ∀ d ∈ ds, d.Ok) (h : jZ ds ⟨unitM, []⟩ = some s') (hs : s'.stk = []) : ∃ p' : Pen -> Ps, (∀ z, jY ds ⟨[], z, []⟩ = some (p' z)) /\ MatOf (fun z => (p' z).z) s'.m /\ ∀ z, (p' z).pens.length = mS ds := by
 obtain ⟨p', h1, ⟨ts, f, C, hf, hz⟩, n⟩ := By (p := fun z => ⟨[], z, []⟩) ok ⟨_, fun z => z, .nil, MatOf.unit, fun z => ⟨rfl, rfl⟩⟩ h
 refine ⟨p', h1, ?_, fun z => by rw [n]; simp⟩
 rw [hs] at C;cases C;rw [show (fun z => (p' z).z) = f from funext fun z => (hz z).2]
 exact hf
theorem pw40 {S : aQ} : Jy (.dat (.int 10)) (.dat (.int 40)) S = .ok (.dat (.int 10000000000000000000000000000000000000000)) S := rfl
theorem dw10 (a : Int) : IntMulOk a 69621 := mulR (by decide) (by decide)
theorem JZ {S : aQ} {p : Nat} {ks : List Int} (hP : PoolAt S p ks) : ∃ (d : Int) (ks' : List Int), mR [.cel p] S = .ok (.dat (.int d)) (S.set p (PL ks')) /\ Bn 137 d /\ ks'.length = ks.length := by
 obtain ⟨d1, k1, e1, h0, h1, l1⟩ := jP hP (k := 3) (by decide) (by decide)
 have P1 := hP.next l1;rw [Hi];unfold sT
 by_cases hd : d1 = 0
 ·subst hd
  obtain ⟨d2, k2, e2, h2, h3, l2⟩ := jP P1 (k := 9) (by decide) (by decide)
  simp only [iT] at e2;simp! [e1, e2];exact ⟨d2 - 4, k2, rfl, by unfold Bn; omega, by omega⟩
 ·obtain ⟨u, hu⟩ : ∃ u, k1[0]? = some u := ⟨k1[0]'(by have := hP.2; omega), by simp [show 0 < k1.length by have := hP.2; omega]⟩
  have hl2 : 2 <= k1.length := P1.2;have hp1 := Gb (d := .lst ((k1.set 0 (u + 1)).map D.int)) P1.1;rw [iT] at hp1;have e2 : (AD (fun x y => x + y) (aC 0) (mC (.int 0)) (mC (.int 1))) [some (.cel p), some (.dat (.int d1)), none, none] (S.set p (PL k1)) = .next [some (.cel p), some (.dat (.int d1)), none, none] (S.set p (PL (k1.set 0 (u + 1)))) := by
   rw [GG rfl rfl rfl P1.1 rfl hu, iT]
  have hn : (1 : Int) + (u + 1) % ((k1.length : Int) - 1) = ((1 + ((u + 1) % ((k1.length : Int) - 1)).toNat : Nat) : Int) := by
   have := gT (u + 1) (show ((k1.length : Int) - 1) ≠ 0 by omega)
   omega
  have hlt : 1 + ((u + 1) % ((k1.length : Int) - 1)).toNat < k1.length := by
   have := jC (u + 1) (show 0 < ((k1.length : Int) - 1) by omega)
   have := gT (u + 1) (show ((k1.length : Int) - 1) ≠ 0 by omega)
   omega
  generalize hj : 1 + ((u + 1) % ((k1.length : Int) - 1)).toNat = j at hn hlt;obtain ⟨c, hc⟩ : ∃ c, (k1.set 0 (u + 1))[j]? = some c := ⟨(k1.set 0 (u + 1))[j]'(by simpa using hlt), by simp [hlt]⟩
  have h00 : (k1.set 0 (u + 1))[0]? = some (u + 1) := by
   rw [aV, if_pos rfl, if_pos (by omega)]
  have lk1 : (k1.set 0 (u + 1)).length = k1.length := by simp
  have P2 : PoolAt (S.set p (PL (k1.set 0 (u + 1)))) p (k1.set 0 (u + 1)) := ⟨hp1, by rw [lk1]; exact hl2⟩
  obtain ⟨d3, k3, e3, h4, h5, l3⟩ := jP P2 (k := 2) (by decide) (by decide)
  rw [iT] at e3;generalize hk : k1.set 0 (u + 1) = kk at *;simp! [e1, decide_eq_false hd, e2, sI (k := 0) (n := 0) hp1 rfl h00, pO hp1, aN, lk1, pN (show (0 : Int) < (k1.length : Int) - 1 by omega), hn, sI hp1 rfl hc, lX (dw2 _), lX (dw10 _), pw40, pN (show (0 : Int) < 10000000000000000000000000000000000000000 by decide), e3]
  have b0 := gT (c * 48271 + (u + 1) * 69621) (show (10000000000000000000000000000000000000000 : Int) ≠ 0 by decide)
  have b1 := jC (c * 48271 + (u + 1) * 69621) (show (0 : Int) < 10000000000000000000000000000000000000000 by decide)
  generalize (c * 48271 + (u + 1) * 69621) % 10000000000000000000000000000000000000000 = v at b0 b1;rcases (by omega : d3 = 0 \/ d3 = 1) with rfl | rfl
  ·simp! [if_true]
   exact ⟨v, k3, rfl, by unfold Bn; omega, by omega⟩
  ·simp! [if_true]
   exact ⟨5 - v, k3, rfl, by unfold Bn; omega, by omega⟩
theorem JU {S : aQ} {p : Nat} {ks : List Int} (h : PoolAt S p ks) : S.set p (PL ks) = S := by
 obtain ⟨h1, _⟩ := h;obtain ⟨hp, e⟩ := aG.mp h1;rw [show (PL ks : Cell) = S[p] from e.symm, List.set_getElem_self]
theorem IQ {α : Type} {f : α -> D} {md : FD} {P : α -> Prop} {p : Nat} {a1 : Option Vl} (hmd : ∀ {S : aQ} {ks : List Int}, PoolAt S p ks -> ∃ (x : α) (ks' : List Int), md [.cel p] S = .ok (.dat (f x)) (S.set p (PL ks')) /\ P x /\ ks'.length = ks.length) : ∀ (ds : List D) (S : aQ) (ks : List Int), PoolAt S p ks ->
  ∃ (xs : List α) (ks' : List Int), iP (.nm 2) fP (bM md (aB (aC 0) aO)) [some (.cel p), a1, none] ds S = .ok (xs.map f) (S.set p (PL ks')) /\ xs.length = ds.length /\ (∀ x ∈ xs, P x) /\ ks'.length = ks.length
 | [], S, ks, h => ⟨[], ks, by rw [JU h]; rfl, rfl, (fun x hx => by cases hx), rfl⟩
 | d :: r, S, ks, h => by
  obtain ⟨x, k1, e1, hx, l1⟩ := hmd h;obtain ⟨xs, k2, e2, hl, hxs, l2⟩ := IQ (a1 := a1) hmd r _ _ (h.next l1);rw [iT] at e2;refine ⟨x :: xs, k2, ?_, by simp [hl], fun y hy => ?_, by omega⟩
  ·rw [iP]
   simp only [oK, M5, if_true];simp! [e1];rw [e2];rfl
  ·rcases bH.mp hy with rfl | hy
   ·exact hx
   ·exact hxs y hy
theorem Qs {S : aQ} {p : Nat} {ks : List Int} (hP : PoolAt S p ks) : ∃ (z : Pen) (ks' : List Int), Am [.cel p] S = .ok (.dat z.d) (S.set p (PL ks')) /\ (∀ x ∈ z.ns, Bn 137 x) /\ ks'.length = ks.length := by
 obtain ⟨ns, k1, e1, hl, hb, l1⟩ := IQ (f := D.int) (md := mR) (P := Bn 137) (a1 := none) JZ (fJ 0 6) S ks hP;rw [Pk];unfold Az;simp! [F7];have e2 : wH false (.nm 2) fP (bM mR (aB (aC 0) aO)) [some (.cel p), none, none] [2] (fJ 0 6) S = .ok (.dat (.lst (ns.map D.int))) (S.set p (PL k1)) := by
  unfold wH;rw [if_pos (sz (by decide)), show wipeE [some (Vl.cel p), none, none] [2] = [some (Vl.cel p), none, none] from rfl, e1]
  rfl
 match ns, hl, hb, e2 with
 | [a, b, c, d, e, f], _, hb, e2 =>
  simp! [e2, aK, bC, zU, AZ, OH, HE (xs := [.int a, .int b, .int c, .int d, .int e, .int f]) (t := 3) (n := 3) rfl rfl, HE (xs := [.int a, .int b, .int c, .int d, .int e, .int f]) (t := 4) (n := 4) rfl rfl, HE (xs := [.int a, .int b, .int c, .int d, .int e, .int f]) (t := 5) (n := 5) rfl rfl];exact ⟨⟨a, b, c, d, e, f⟩, k1, rfl, hb, l1⟩
theorem F9 {S : aQ} {r : Pen -> Pen} {a0 : Option Vl} {i : Nat} {xs : List Int} (hi : i < 6) (hx : xs.length <= 100) : ∀ (n j : Nat), n + j = 6 ->
  loop (.nm 5) nK (fJ (j : Int) n) [a0, some (.dat (r zeroP).d), some (.dat (.lst ((aP 6).map fun j => (r (eW j)).d))), some (.cel S.length), some (.dat (.int (i : Int))), none, none] (S ++ [.lst ((xs ++ (aP (j + 1)).map (dH r (i + 1))).map D.int)]) = .next [a0, some (.dat (r zeroP).d), some (.dat (.lst ((aP 6).map fun j => (r (eW j)).d))), some (.cel S.length), some (.dat (.int (i : Int))), none, none] (S ++ [.lst ((xs ++ (aP 7).map (dH r (i + 1))).map D.int)])
 | 0, j, e => by
  obtain rfl : j = 6 := by omega
  rfl
 | n + 1, j, e => by
  have ih := F9 (S := S) (r := r) (a0 := a0) (i := i) (xs := xs) hi hx n (j + 1) (by omega)
  rw [nM, loop];simp only [oK, iV];rw [nK];have hb : ∀ {T : aQ} {a3 a6 : Option Vl}, (aR rO (aR bR (aR bR (aC 2) (aC 5)) (aC 4)) (aR bR (aC 1) (aC 4))) [a0, some (.dat (r zeroP).d), some (.dat (.lst ((aP 6).map fun j => (r (eW j)).d))), a3, some (.dat (.int (i : Int))), some (.dat (.int (j : Int))), a6] T = .ok (.dat (.int (dH r (i + 1) (j + 1)))) T := by
   intro T a3 a6;have i1 : bR (.dat (.lst ((aP 6).map fun j => (r (eW j)).d))) (.dat (.int (j : Int))) T = .ok (.dat (r (eW j)).d) T := HE (n := j) rfl (by rw [bT, iA (by omega)]; rfl)
   simp! [i1, ixP (z := r (eW j)) (t := (i : Int)) (n := i) rfl hi, ixP (z := r zeroP) (t := (i : Int)) (n := i) rfl hi];rfl
  simp! [if_true];rw [Di (by simp; omega) hb]
  simp! [if_true];rw [<- nK, show ((j : Int) + 1) = ((j + 1 : Nat) : Int) by omega, <- ih, vK (n := j + 1)]
  simp only [bN, aK, bC, cV]
theorem Ck {S : aQ} {r : Pen -> Pen} {a0 : Option Vl} : ∀ (n i : Nat), n + i = 6 ->
  loop (.nm 4) nJ (fJ (i : Int) n) [a0, some (.dat (r zeroP).d), some (.dat (.lst ((aP 6).map fun j => (r (eW j)).d))), some (.cel S.length), none, none, none] (S ++ [.lst ((rows (dH r) (i + 1)).map D.int)]) = .next [a0, some (.dat (r zeroP).d), some (.dat (.lst ((aP 6).map fun j => (r (eW j)).d))), some (.cel S.length), none, none, none] (S ++ [.lst ((rows (dH r) 7).map D.int)])
 | 0, i, e => by
  obtain rfl : i = 6 := by omega
  rfl
 | n + 1, i, e => by
  have ih := Ck (S := S) (r := r) (a0 := a0) n (i + 1) (by omega)
  have hlen : (rows (dH r) (i + 1)).length <= 100 := by rw [BR]; omega
  have inn := F9 (S := S) (r := r) (a0 := a0) (i := i) (xs := rows (dH r) (i + 1)) (by omega) hlen 6 0 rfl
  rw [iY, fV] at inn;rw [nM, loop];simp only [oK, iV];rw [nJ];have ha : vO (aR bR (aC 1) (aC 4)) [a0, some (.dat (r zeroP).d), some (.dat (.lst ((aP 6).map fun j => (r (eW j)).d))), some (.cel S.length), some (.dat (.int (i : Int))), none, none] (.cel S.length) (S ++ [.lst ((rows (dH r) (i + 1)).map D.int)]) = .ok (.dat .non) (S ++ [.lst ((rows (dH r) (i + 1) ++ (aP 1).map (dH r (i + 1))).map D.int)]) := by
   rw [Di (d := .int (dH r (i + 1) 0)) (by simp; omega) (by simp! [ixP (z := r zeroP) (t := (i : Int)) (n := i) rfl (by omega)]; rfl)]
   simp only [bN];rfl
  simp! [ha, F7, inn];rw [<- nJ, show ((i : Int) + 1) = ((i + 1 : Nat) : Int) by omega, <- ih, vE (dH r) (i + 1)]
theorem L1 {S : aQ} {ds : List Deed} {p' : Pen -> Ps} (ls : LS S) (ok : ∀ d ∈ ds, d.Ok) (h : ∀ z, jY ds ⟨[], z, []⟩ = some (p' z)) (hl : ds.length <= 900000) :
  rL [.dat (.lst (ds.map Deed.l))] S = .ok (.dat (mD (probeM fun z => (p' z).z))) S := by
 have pz := fun (z : Pen) => FV (S := S) ls ok (h z) hl
 generalize hr : (fun z => (p' z).z) = r
 have pr : ∀ z, (p' z).z = r z := fun z => by rw [<- hr]
 have lp := Ck (S := S) (r := r) (a0 := some (.dat (.lst (ds.map Deed.l)))) 6 0 rfl;rw [iY, fV] at lp;rw [KF];unfold vJ;have hz : (cC (aB (mC (.int 0)) (aB (mC (.int 0)) (aB (mC (.int 0)) (aB (mC (.int 0)) (aB (mC (.int 0)) (aB (mC (.int 0)) aO))))))) [some (.dat (.lst (ds.map Deed.l))), none, none, none, none, none, none] S = .ok (.dat zeroP.d) S := rfl;have hc : wR false (iX (mC (.int 6))) (.nm 5) fP qE [5] [some (.dat (.lst (ds.map Deed.l))), some (.dat (r zeroP).d), none, none, none, none, none] S = .ok (.dat (.lst ((aP 6).map fun j => (r (eW j)).d))) S := by
  simp! [F7];rw [show fJ 0 6 = (aP 6).map (fun k : Nat => D.int (0 + (k : Int))) from rfl, gV (g := fun j : Nat => (r (eW j)).d) (sz (by decide)) fun k hk => ⟨_, rfl, ?_⟩]
  ·rfl
  ·unfold qE
   rw [Int.zero_add];simp! [F7, NU, show D.tup (eW k).ds = (eW k).d from rfl, pz, AZ, pr]
 have hu : (dG true (aB (mC (.int 1)) (aB (mC (.int 0)) (aB (mC (.int 0)) (aB (mC (.int 0)) (aB (mC (.int 0)) (aB (mC (.int 0)) (aB (mC (.int 0)) aO)))))))) [some (.dat (.lst (ds.map Deed.l))), some (.dat (r zeroP).d), some (.dat (.lst ((aP 6).map fun j => (r (eW j)).d))), none, none, none, none] S = .ok (.cel S.length) (S ++ [.lst ((rows (dH r) 1).map D.int)]) := by
  rw [show rows (dH r) 1 = [1, 0, 0, 0, 0, 0, 0] from rfl]
  rfl
 simp! [hz, pz, AZ, pr, hc, hu, F7, lp, oC IH];rw [cL, show (S ++ [Cell.lst ((rows (dH r) 7).map D.int)]).set S.length Cell.dead = S ++ [Cell.dead] from L8, Ek ls rfl, Dd]
 unfold probeM;rfl
mutual
def D.Sm : D -> Prop
 | .int i => -9 <= i /\ i <= 9
 | .str x => (reprText x).length <= 20
 | .lst xs => D.Sms xs
 | .tup xs => D.Sms xs
 | .ins _ _ _ => False
 | .dct => False
 | .opq _ => False
 | _ => True
def D.Sms : List D -> Prop
 | [] => True
 | x :: r => D.Sm x /\ D.Sms r
end
mutual
def D.tx : D -> Nat
 | .lst xs => D.txs xs + 3
 | .tup xs => D.txs xs + 3
 | _ => 20
def D.txs : List D -> Nat
 | [] => 0
 | x :: r => D.tx x + 2 + D.txs r
end
theorem Lw {i : Int} (h : -9 <= i /\ i <= 9) : ((toString i : String) : Str).length <= 20 /\ i.natAbs.log2 < 1920 := by
 obtain ⟨h1, h2⟩ := h;rcases (by omega : i = -9 \/ i = -8 \/ i = -7 \/ i = -6 \/ i = -5 \/ i = -4 \/ i = -3 \/ i = -2 \/ i = -1 \/ i = 0 \/ i = 1 \/ i = 2 \/ i = 3 \/ i = 4 \/ i = 5 \/ i = 6 \/ i = 7 \/ i = 8 \/ i = 9) with rfl | rfl | rfl | rfl | rfl | rfl | rfl | rfl | rfl | rfl | rfl | rfl | rfl | rfl | rfl | rfl | rfl | rfl | rfl <;> decide +kernel
mutual
theorem Cc : ∀ (d : D) (p : PyData), d.Sm -> d.py = some p -> p.shown.length <= d.tx /\ p.showable = true /\ p.hasDict = false
 | .non, p, _, e => by cases e; exact ⟨by decide +kernel, rfl, rfl⟩
 | .bl b, p, _, e => by cases e; cases b <;> exact ⟨by decide +kernel, rfl, rfl⟩
 | .int i, p, h, e => by
  cases e;exact ⟨(Lw h).1, decide_eq_true (Lw h).2, rfl⟩
 | .str x, p, h, e => by cases e; exact ⟨h, rfl, rfl⟩
 | .lst xs, p, h, e => by
  simp only [D.py] at e;cases q : D.pys xs with
  | none => rw [q] at e; cases e
  | some ps =>
   rw [q] at e;cases e;obtain ⟨h1, h2, h3⟩ := zH xs ps h q;refine ⟨?_, h2, h3⟩
   have := listText_len_le (PyData.shownAll ps)
   show (listText (PyData.shownAll ps)).length <= D.txs xs + 3
   omega
 | .tup xs, p, h, e => by
  simp only [D.py] at e;cases q : D.pys xs with
  | none => rw [q] at e; cases e
  | some ps =>
   rw [q] at e;cases e;obtain ⟨h1, h2, h3⟩ := zH xs ps h q;refine ⟨?_, h2, h3⟩
   have := tupleText_len_le (PyData.shownAll ps)
   show (tupleText (PyData.shownAll ps)).length <= D.txs xs + 3
   omega
 | .ins _ _ _, p, h, e => h.elim
 | .dct, p, h, e => h.elim
 | .opq _, p, h, e => h.elim
theorem zH : ∀ (xs : List D) (ps : List PyData), D.Sms xs -> D.pys xs = some ps -> ((PyData.shownAll ps).map (·.length)).sum + 2 * (PyData.shownAll ps).length <= D.txs xs /\ PyData.showableAll ps = true /\ PyData.hasDictAll ps = false
 | [], ps, _, e => by cases e; exact ⟨bS _, rfl, rfl⟩
 | x :: r, ps, h, e => by
  simp only [D.pys] at e;cases q1 : D.py x with
  | none => rw [q1] at e; cases e
  | some p =>
   cases q2 : D.pys r with
   | none => rw [q1, q2] at e; cases e
   | some ps' =>
    rw [q1, q2] at e;cases e;obtain ⟨a1, a2, a3⟩ := Cc x p h.1 q1;obtain ⟨b1, b2, b3⟩ := zH r ps' h.2 q2;refine ⟨?_, ?_, ?_⟩
    ·simp only [PyData.shownAll, aK, List.sum_cons, aJ, D.txs]
     omega
    ·simp only [PyData.showableAll, a2, b2, zC]
    ·simp only [PyData.hasDictAll, a3, b3, GU]
end
mutual
theorem st_sm {many : Int} (hm : many <= 9) : ∀ (s : Stt) (k : Nat), s.Ok many k -> s.d.Sm /\ s.d.tx + 2 <= 150 * s.size
 | .cmd c, k, h => by
  cases c with
  | go z => exact ⟨⟨by show (reprText _).length <= 20; decide +kernel, h, trivial⟩, by simp [Stt.d, Cmd.d, D.tx, D.txs, Stt.size]⟩
  | turn z => exact ⟨⟨by show (reprText _).length <= 20; decide +kernel, ⟨by have := h.1; omega, by have := h.2; omega⟩, trivial⟩, by simp [Stt.d, Cmd.d, D.tx, D.txs, Stt.size]⟩
  | scale z => exact ⟨⟨by show (reprText _).length <= 20; decide +kernel, ⟨by have := h.1; omega, by have := h.2; omega⟩, trivial⟩, by simp [Stt.d, Cmd.d, D.tx, D.txs, Stt.size]⟩
  | aim a b => exact ⟨⟨by show (reprText _).length <= 20; decide +kernel, h.1, h.2, trivial⟩, by simp [Stt.d, Cmd.d, D.tx, D.txs, Stt.size]⟩
  | place a b => exact ⟨⟨by show (reprText _).length <= 20; decide +kernel, h.1, h.2, trivial⟩, by simp [Stt.d, Cmd.d, D.tx, D.txs, Stt.size]⟩
  | mirror => exact ⟨⟨by show (reprText _).length <= 20; decide +kernel, trivial⟩, by simp [Stt.d, Cmd.d, D.tx, D.txs, Stt.size]⟩
  | mark => exact ⟨⟨by show (reprText _).length <= 20; decide +kernel, trivial⟩, by simp [Stt.d, Cmd.d, D.tx, D.txs, Stt.size]⟩
  | ret => exact ⟨⟨by show (reprText _).length <= 20; decide +kernel, trivial⟩, by simp [Stt.d, Cmd.d, D.tx, D.txs, Stt.size]⟩
  | exch => exact ⟨⟨by show (reprText _).length <= 20; decide +kernel, trivial⟩, by simp [Stt.d, Cmd.d, D.tx, D.txs, Stt.size]⟩
 | .fin w, k, h => ⟨⟨by show (reprText _).length <= 20; decide +kernel, ⟨by have := h.1; omega, by have := h.2; omega⟩, trivial⟩, by simp [Stt.d, D.tx, D.txs, Stt.size]⟩
 | .bad, k, h => ⟨⟨by show (reprText _).length <= 20; decide +kernel, trivial⟩, by simp [Stt.d, D.tx, D.txs, Stt.size]⟩
 | .odd x, k, h => h.elim
 | .keep b, k, h => by
  obtain ⟨h1, h2⟩ := tP hm b (k - 1) h.2;exact ⟨⟨by show (reprText _).length <= 20; decide +kernel, h1, trivial⟩, by simp [Stt.d, D.tx, D.txs, Stt.size]; omega⟩
 | .again b, k, h => by
  obtain ⟨h1, h2⟩ := tP hm b (k - 1) h.2;exact ⟨⟨by show (reprText _).length <= 20; decide +kernel, h1, trivial⟩, by simp [Stt.d, D.tx, D.txs, Stt.size]; omega⟩
 | .either a b, k, h => by
  obtain ⟨h1, h2⟩ := tP hm a (k - 1) h.2.1;obtain ⟨h3, h4⟩ := tP hm b (k - 1) h.2.2;exact ⟨⟨by show (reprText _).length <= 20; decide +kernel, h1, h3, trivial⟩, by simp [Stt.d, D.tx, D.txs, Stt.size]; omega⟩
 | .call g f a b, k, h => by
  obtain ⟨h1, h2⟩ := tP hm a (k - 1) h.2.1;obtain ⟨h3, h4⟩ := tP hm b (k - 1) h.2.2;exact ⟨⟨by show (reprText _).length <= 20; decide +kernel, ⟨by have := h.1.2.1; omega, by have := h.1.2.2; omega⟩, trivial, ⟨h1, h3, trivial⟩, trivial⟩, by simp [Stt.d, D.tx, D.txs, Stt.size]; omega⟩
theorem tP {many : Int} (hm : many <= 9) : ∀ (l : List Stt) (k : Nat), OkL many l k -> D.Sms (cD l) /\ D.txs (cD l) <= 150 * kE l
 | [], k, h => ⟨trivial, by simp [cD, D.txs]⟩
 | s :: r, k, h => by
  obtain ⟨h1, h2⟩ := st_sm hm s k h.1.1;obtain ⟨h3, h4⟩ := tP hm r k h.2;exact ⟨⟨h1, h3⟩, by simp only [cD, D.txs, kE]; omega⟩
end
theorem JC {many : Int} {l : List Stt} {k : Nat} {S : aQ} (hm : many <= 9) (h : OkL many l k) (hk : k <= 20) (hl : l.length <= 1000) (hs : kE l <= 1000) : ∃ z, CQ (.dat (.lst (cD l))) S = .ok (.dat (.str z)) S := by
 obtain ⟨h1, h2⟩ := jG l k h;obtain ⟨p, e1, e2, e3⟩ := L6 (.lst (cD l)) ⟨by rw [fR]; exact hl, h1⟩
 obtain ⟨h3, h4⟩ := tP hm l k h;obtain ⟨a1, a2, a3⟩ := Cc (.lst (cD l)) p h3 e1;have hd : isDisplay p = true := by
  simp only [D.py] at e1;cases q : D.pys (cD l) with
  | none => rw [q] at e1; cases e1
  | some ps => rw [q] at e1; cases e1; rfl
 refine ⟨p.shown, ?_⟩
 unfold CQ;rw [show tJ S (.dat (.lst (cD l))) = some p from e1]
 dsimp only;rw [if_pos ⟨a2, a3, hd, by rw [e3]; simp only [D.ht]; omega, dF a1 (by simp only [D.tx]; exact dF (show D.txs (cD l) + 3 <= 150003 by omega) (by decide))⟩]
mutual
/-- all lists within have eight statements at most -/
def Stt.Lb : Stt -> Prop
 | .keep b => b.length <= 8 /\ NH b
 | .again b => b.length <= 8 /\ NH b
 | .either a b => (a.length <= 8 /\ NH a) /\ b.length <= 8 /\ NH b
 | .call _ _ a b => (a.length <= 8 /\ NH a) /\ b.length <= 8 /\ NH b
 | _ => True
def NH : List Stt -> Prop
 | [] => True
 | s :: r => s.Lb /\ NH r
end
mutual
theorem Stt.Gd.okb {many : Int} : ∀ {s : Stt} {n : Nat}, s.Gd many n -> s.Lb -> s.Ok many n
 | .cmd c, n, h, _ => h
 | .fin c, n, h, _ => h
 | .keep b, n, h, l => ⟨h.1, GdL.okb h.2 l.2 (dF l.1 (by decide))⟩
 | .again b, n, h, l => ⟨h.1, GdL.okb h.2 l.2 (dF l.1 (by decide))⟩
 | .either a b, n, h, l => ⟨h.1, GdL.okb h.2.1 l.1.2 (dF l.1.1 (by decide)), GdL.okb h.2.2 l.2.2 (dF l.2.1 (by decide))⟩
 | .call g f a b, n, h, l => ⟨h.1, GdL.okb h.2.1 l.1.2 (dF l.1.1 (by decide)), GdL.okb h.2.2 l.2.2 (dF l.2.1 (by decide))⟩
 | .bad, n, h, _ => h.elim
 | .odd _, n, h, _ => h.elim
theorem GdL.okb {many : Int} : ∀ {l : List Stt} {n : Nat}, GdL many l n -> NH l -> l.length <= 10 -> OkL many l n
 | [], n, _, _, _ => trivial
 | s :: r, n, h, l8, hl => by
  simp only [aJ] at hl;exact ⟨⟨Stt.Gd.okb h.1 l8.1, by omega⟩, GdL.okb h.2 l8.2 (by omega)⟩
end
theorem LZ : ∀ {l : List Stt}, NH l -> ∀ s ∈ l, s.Lb
 | x :: r, h, s, hs => by
  rcases bH.mp hs with rfl | hs
  ·exact h.1
  ·exact LZ h.2 s hs
def SG (many : Int) (s : Stt) : Prop := ∃ k, k <= 3 /\ s.Gd many k /\ s.size <= 12 /\ s.Lb
def BG (many : Int) (l : List Stt) : Prop := l.length <= 8 /\ ∀ s ∈ l, SG many s
theorem M4 {many : Int} : ∀ {l : List Stt} {k : Nat}, GdL many l k -> ∀ s ∈ l, s.Gd many k
 | x :: r, k, h, s, hs => by
  rcases bH.mp hs with rfl | hs
  ·exact h.1
  ·exact M4 h.2 s hs
theorem BG.of {many : Int} {l : List Stt} {k : Nat} (h : GdL many l k) (hk : k <= 3) (hl : l.length <= 8) (hs : kE l <= 12) (hb : NH l) : BG many l := ⟨hl, fun s hm => ⟨k, hk, M4 h s hm, by have := Ep hm; omega, LZ hb s hm⟩⟩
theorem SG.keep {many : Int} {b : List Stt} (h : SG many (.keep b)) : BG many b := by
 obtain ⟨k, hk, h1, h2, h3⟩ := h;exact BG.of h1.2 (by omega) h3.1 (by simp [Stt.size] at h2; omega) h3.2
theorem SG.again {many : Int} {b : List Stt} (h : SG many (.again b)) : BG many b := by
 obtain ⟨k, hk, h1, h2, h3⟩ := h;exact BG.of h1.2 (by omega) h3.1 (by simp [Stt.size] at h2; omega) h3.2
theorem SG.either {many : Int} {a b : List Stt} (h : SG many (.either a b)) : BG many a /\ BG many b := by
 obtain ⟨k, hk, h1, h2, h3⟩ := h;simp [Stt.size] at h2;exact ⟨BG.of h1.2.1 (by omega) h3.1.1 (by omega) h3.1.2, BG.of h1.2.2 (by omega) h3.2.1 (by omega) h3.2.2⟩
theorem SG.call {many g : Int} {f : Bool} {a b : List Stt} (h : SG many (.call g f a b)) : (0 <= g /\ g < many) /\ BG many a /\ BG many b := by
 obtain ⟨k, hk, h1, h2, h3⟩ := h;simp [Stt.size] at h2;exact ⟨h1.1.2, BG.of h1.2.1 (by omega) h3.1.1 (by omega) h3.1.2, BG.of h1.2.2 (by omega) h3.2.1 (by omega) h3.2.2⟩
theorem SG.cmd {many : Int} {c : Cmd} (h : SG many (.cmd c)) : c.Ok := by
 obtain ⟨k, hk, h1, h2⟩ := h;exact h1
theorem SG.fin {many w : Int} (h : SG many (.fin w)) : w = 0 \/ w = 1 := by
 obtain ⟨k, hk, h1, h2⟩ := h;have := h1.1; have := h1.2;omega
theorem SG.noodd {many : Int} {s : Stt} (h : SG many s) : s.isOdd = false := by
 obtain ⟨k, hk, h1, h2⟩ := h;cases s with
 | odd x => exact h1.elim
 | _ => rfl
theorem str_ok {many : Int} {a b : List Stt} {S : aQ} (hm : many <= 9) (h : SG many (.either a b)) : ∃ z, CQ (.dat (.lst (cD a))) S = .ok (.dat (.str z)) S := by
 obtain ⟨k, hk, h1, h2, h3⟩ := h;simp [Stt.size] at h2;exact JC hm (GdL.okb h1.2.1 h3.1.2 (dF h3.1.1 (by decide))) (by omega) (dF (CZ a) (by omega)) (by omega)
inductive LT where
 | st (s : Stt) | shut | out (c : fT) (w : Int)
def LT.d : LT -> D
 | .st s => s.d
 | .shut => .tup [.str "shut"]
 | .out c w => .tup [.str "out", QL c, .int w]
def LT.word : LT -> Str
 | .st s => s.word
 | .shut => "shut"
 | .out _ _ => "out"
def LT.Ok (many : Int) : LT -> Prop
 | .st s => SG many s
 | .shut => True
 | .out c w => (0 <= c.1 /\ c.1 < many) /\ BG many c.2.2.1 /\ BG many c.2.2.2 /\ (w = 0 \/ w = 1)
def gN (l : List Stt) : List LT := l.map LT.st
structure Lm where
 bits : List Int
 extra : Nat
 taken : Nat
 way : Int
 deeds : List Deed
 opens : List (Nat × Nat)
 todo : List LT
def IG (o : Nat × Nat) : D := .tup [.int (o.1 : Int), .int (o.2 : Int)]
def lmF (n : Nat) (bs : List (List Stt)) (m : Lm) : List (Str × Vl) := [("bodies", .dat (.lst (bls bs))), ("bits", .cel n), ("extra", .dat (.int (m.extra : Int))), ("taken", .dat (.int (m.taken : Int))), ("way", .dat (.int m.way)), ("deeds", .cel (n + 1)), ("opens", .cel (n + 2)), ("todo", .dat (.lst (m.todo.map LT.d)))]
def dY (S0 : aQ) (bs : List (List Stt)) (m : Lm) : aQ := S0 ++ [.lst (m.bits.map D.int), .lst (m.deeds.map Deed.l), .lst (rK IG m.opens), .dct (lmF S0.length bs m)]
section
variable {S0 : aQ} {bs : List (List Stt)} {m : Lm}
theorem mZ : (dY S0 bs m)[S0.length]? = some (.lst (m.bits.map D.int)) := by simp [dY]
theorem pL : (dY S0 bs m)[S0.length + 1]? = some (.lst (m.deeds.map Deed.l)) := by
 rw [dY, aX (by omega), show S0.length + 1 - S0.length = 1 by omega]; rfl
theorem xZ : (dY S0 bs m)[S0.length + 2]? = some (.lst (rK IG m.opens)) := by
 rw [dY, aX (by omega), show S0.length + 2 - S0.length = 2 by omega]; rfl
theorem jX : (dY S0 bs m)[S0.length + 3]? = some (.dct (lmF S0.length bs m)) := by
 rw [dY, aX (by omega), show S0.length + 3 - S0.length = 3 by omega]; rfl
theorem OA {xs : List Int} : (dY S0 bs m).set S0.length (.lst (xs.map D.int)) = dY S0 bs { m with bits := xs } := by simp [dY, lmF]
theorem IM {xs : List Deed} : (dY S0 bs m).set (S0.length + 1) (.lst (xs.map Deed.l)) = dY S0 bs { m with deeds := xs } := by
 rw [dY, cY _ _ (by omega), show S0.length + 1 - S0.length = 1 by omega]; rfl
theorem IL {xs : List (Nat × Nat)} : (dY S0 bs m).set (S0.length + 2) (.lst (rK IG xs)) = dY S0 bs { m with opens := xs } := by
 rw [dY, cY _ _ (by omega), show S0.length + 2 - S0.length = 2 by omega]; rfl
theorem xY {fs : List (Str × Vl)} : (dY S0 bs m).set (S0.length + 3) (.dct fs) = S0 ++ [.lst (m.bits.map D.int), .lst (m.deeds.map Deed.l), .lst (rK IG m.opens), .dct fs] := by
 rw [dY, cY _ _ (by omega), show S0.length + 3 - S0.length = 3 by omega]; rfl
abbrev lv (S0 : aQ) : Vl := .cel (S0.length + 3)
theorem Jf : cX (lv S0) (.dat (.str "bodies")) (dY S0 bs m) = .ok (.dat (.lst (bls bs))) (dY S0 bs m) := lY jX rfl
theorem yB : cX (lv S0) (.dat (.str "bits")) (dY S0 bs m) = .ok (.cel S0.length) (dY S0 bs m) := lY jX rfl
theorem FY : cX (lv S0) (.dat (.str "extra")) (dY S0 bs m) = .ok (.dat (.int (m.extra : Int))) (dY S0 bs m) := lY jX rfl
theorem lT : cX (lv S0) (.dat (.str "taken")) (dY S0 bs m) = .ok (.dat (.int (m.taken : Int))) (dY S0 bs m) := lY jX rfl
theorem RE : cX (lv S0) (.dat (.str "way")) (dY S0 bs m) = .ok (.dat (.int m.way)) (dY S0 bs m) := lY jX rfl
theorem nR : cX (lv S0) (.dat (.str "deeds")) (dY S0 bs m) = .ok (.cel (S0.length + 1)) (dY S0 bs m) := lY jX rfl
theorem Bc : cX (lv S0) (.dat (.str "opens")) (dY S0 bs m) = .ok (.cel (S0.length + 2)) (dY S0 bs m) := lY jX rfl
theorem sG : cX (lv S0) (.dat (.str "todo")) (dY S0 bs m) = .ok (.dat (.lst (m.todo.map LT.d))) (dY S0 bs m) := lY jX rfl
theorem FW : ((lmF S0.length bs m).map Prod.fst).Nodup := by
 show (["bodies", "bits", "extra", "taken", "way", "deeds", "opens", "todo"] : List Str).Nodup
 decide +kernel
theorem xW {ρ : Ev} {ts : List LT} : uH ρ (.dat (.lst (ts.map LT.d))) (lv S0) (.dat (.str "todo")) (dY S0 bs m) = .next ρ (dY S0 bs { m with todo := ts }) := by
 unfold uH;rw [zW jX (by show 8 < 1000; decide) FW, xY]
 rfl
theorem RA {ρ : Ev} {w : Int} : uH ρ (.dat (.int w)) (lv S0) (.dat (.str "way")) (dY S0 bs m) = .next ρ (dY S0 bs { m with way := w }) := by
 unfold uH;rw [zW jX (by show 8 < 1000; decide) FW, xY]
 rfl
theorem FU {ρ : Ev} {v : FE} (hv : v ρ (dY S0 bs m) = .ok (.dat (.int 1)) (dY S0 bs m)) : uI G1 v ρ (lv S0) (.dat (.str "taken")) (dY S0 bs m) = .next ρ (dY S0 bs { m with taken := m.taken + 1 }) := by
 unfold uI;rw [lT];dsimp only;rw [hv, lW];unfold Do G1;dsimp only;rw [zW jX (by show 8 < 1000; decide) FW, xY]
 rfl
theorem LP {ρ : Ev} {v : FE} {k : Nat} (he : m.extra = k + 1) (hv : v ρ (dY S0 bs m) = .ok (.dat (.int 1)) (dY S0 bs m)) : uI Fz v ρ (lv S0) (.dat (.str "extra")) (dY S0 bs m) = .next ρ (dY S0 bs { m with extra := k }) := by
 unfold uI;rw [FY];dsimp only;rw [hv, lW];unfold Do Fz;dsimp only;rw [zW jX (by show 8 < 1000; decide) FW, xY, he, show (((k + 1 : Nat) : Int) - 1) = (k : Int) by omega]
 rfl
theorem Bb {ρ : Ev} {v : FE} {ds : List Deed} (hl : m.deeds.length + ds.length <= 1000000) (hv : v ρ (dY S0 bs m) = .ok (.dat (.lst (ds.map Deed.l))) (dY S0 bs m)) : uI HX v ρ (lv S0) (.dat (.str "deeds")) (dY S0 bs m) = .next ρ (dY S0 bs { m with deeds := m.deeds ++ ds }) := by
 unfold uI;rw [nR];dsimp only;rw [hv, lW];unfold Do HX;dsimp only;rw [pL];dsimp only;rw [aN, aN, if_pos (dF hl (by decide))]
 dsimp only;rw [<- bN, IM, zW jX (by show 8 < 1000; decide) FW, xY]
 rfl
theorem Bh {ρ : Ev} {b : FE} {t : Deed} (F : m.deeds.length < 1000000) (hb : b ρ (dY S0 bs m) = .ok (.dat t.l) (dY S0 bs m)) : vO b ρ (.cel (S0.length + 1)) (dY S0 bs m) = .ok (.dat .non) (dY S0 bs { m with deeds := m.deeds ++ [t] }) := by
 rw [oD pL, hb, eA, pP pL (by rw [aN]; exact Ga (by omega)), show m.deeds.map Deed.l ++ [t.l] = (m.deeds ++ [t]).map Deed.l by simp, IM]
theorem OC {ρ : Ev} {b : FE} {t : Int} (F : m.bits.length < 1000000) (hb : b ρ (dY S0 bs m) = .ok (.dat (.int t)) (dY S0 bs m)) : vO b ρ (.cel S0.length) (dY S0 bs m) = .ok (.dat .non) (dY S0 bs { m with bits := m.bits ++ [t] }) := by
 rw [oD mZ, hb, eA, pP mZ (by rw [aN]; exact Ga (by omega)), show m.bits.map D.int ++ [.int t] = (m.bits ++ [t]).map D.int by simp, OA]
theorem Lc {ρ : Ev} {b : FE} {t : Nat × Nat} (F : m.opens.length < 1000000) (hb : b ρ (dY S0 bs m) = .ok (.dat (IG t)) (dY S0 bs m)) : vO b ρ (.cel (S0.length + 2)) (dY S0 bs m) = .ok (.dat .non) (dY S0 bs { m with opens := t :: m.opens }) := by
 rw [oD xZ, hb, eA, pP xZ (by rw [mV]; exact Ga (by omega)), <- rvD_cons, IL]
theorem LU {t : Nat × Nat} {r : List (Nat × Nat)} (h : m.opens = t :: r) : qY (.cel (S0.length + 2)) (dY S0 bs m) = .ok (.dat (IG t)) (dY S0 bs { m with opens := r }) := by
 have e := xZ (S0 := S0) (bs := bs) (m := m);rw [h, rvD_cons] at e;simp only [qY, e];rw [show (rK IG r ++ [IG t])[(rK IG r ++ [IG t]).length - 1]? = some (IG t) by simp]
 dsimp only;rw [kB, IL]
end
def strOf (l : List Stt) : Str := match D.py (.lst (cD l)) with
 | some p => p.shown
 | none => ""
theorem QX {many : Int} {a b : List Stt} {S : aQ} (hm : many <= 9) (h : SG many (.either a b)) : CQ (.dat (.lst (cD a))) S = .ok (.dat (.str (strOf a))) S := by
 obtain ⟨z, e⟩ := str_ok (S := S) hm h;have e' := e;unfold CQ at e';rw [show tJ S (.dat (.lst (cD a))) = D.py (.lst (cD a)) from rfl] at e'
 unfold strOf;split at e'
 ·rename_i p q
  try rw [q]
  try dsimp only
  split at e'
  ·cases e'; exact e
  ·cases e'
 ·cases e'
def Mp : Stt -> Int
 | .either a _ => if (!(Builtin.Str.occurrences (strOf a) "call" 0 (strOf a).length 1).isEmpty) = true then 1 else 0
 | _ => 0
theorem Mq (s : Stt) : Mp s = 0 \/ Mp s = 1 := by
 unfold Mp;split
 ·split
  ·exact .inr rfl
  ·exact .inl rfl
 ·exact .inl rfl
def qW (s : Stt) (m : Lm) : Option (Int × Lm) := if m.taken = m.bits.length then (match m.extra with
  | 0 => none
  | k + 1 => some (Mp s, { m with extra := k, bits := m.bits ++ [Mp s], taken := m.taken + 1 }))
 else match m.bits[m.taken]? with
  | some b => some (b, { m with taken := m.taken + 1 })
  | none => none
def asks : Stt -> Bool
 | .either _ _ => true
 | .again _ => true
 | _ => false
theorem SZ {S0 : aQ} {bs : List (List Stt)} {m : Lm} {s : Stt} {many : Int} (hm : many <= 9) (hs : SG many s) (ha : asks s = true) (ht : m.taken <= m.bits.length) (hl : m.bits.length < 100000) :
  An [lv S0, .dat s.d] (dY S0 bs m) = match qW s m with
   | none => .ok (.dat (.int 2)) (dY S0 bs m)
   | some (b, m') => .ok (.dat (.int b)) (dY S0 bs m') := by
 rw [Pm];unfold B0;unfold qW
 by_cases h1 : m.taken = m.bits.length
 ·rw [if_pos h1]
  simp! [rV, yB, lT, pO mZ, aN, decide_eq_true (show (m.taken : Int) = (m.bits.length : Int) by omega), FY]
  cases h2 : m.extra with
  | zero =>
   simp! [rV];rfl
  | succ k =>
   dsimp only;have i0 : ∀ {S : aQ}, bR (.dat s.d) (.dat (.int 0)) S = .ok (.dat (.str s.word)) S := Dr hs.noodd;have hap : ∀ {m : Lm}, (m1 pX (mO (aR fK (aR bR (aC 1) (mC (.int 0))) (mC (.str "either"))) (aR Ml (mC (.str "call")) (m1 CQ (aR bR (aC 1) (mC (.int 1))))))) [some (lv S0), some (.dat s.d), some (.cel S0.length)] (dY S0 bs m) = .ok (.dat (.int (Mp s))) (dY S0 bs m) := by
    intro m;cases s with
    | either a b =>
     simp! [rV, cK, eM, Stt.d, QX hm hs];rfl
    | again b =>
     simp! [rV, i0, Stt.word];rfl
    | _ => cases ha
   simp! [rV, decide_eq_false (show ¬ (((k + 1 : Nat) : Int) = 0) by omega), LP (k := k) h2, OC (m := { m with extra := k }) (t := Mp s) (by dsimp only; omega) hap, FU (m := { m with extra := k, bits := m.bits ++ [Mp s] }), lT]
   have i1 : bR (.cel S0.length) (.dat (.int (((m.taken + 1 : Nat) : Int) - 1))) (dY S0 bs { m with extra := k, bits := m.bits ++ [Mp s], taken := m.taken + 1 }) = .ok (.dat (.int (Mp s))) (dY S0 bs { m with extra := k, bits := m.bits ++ [Mp s], taken := m.taken + 1 }) := sI (n := m.taken) mZ (by omega) (by rw [h1]; simp)
   simp! [rV, i1];rfl
 ·rw [if_neg h1]
  obtain ⟨b, hb⟩ : ∃ b, m.bits[m.taken]? = some b := ⟨m.bits[m.taken]'(by omega), by simp [show m.taken < m.bits.length by omega]⟩
  rw [hb];simp! [rV, yB, lT, pO mZ, aN, decide_eq_false (show ¬ (m.taken : Int) = (m.bits.length : Int) by omega), FU]
  have i1 : bR (.cel S0.length) (.dat (.int (((m.taken + 1 : Nat) : Int) - 1))) (dY S0 bs { m with taken := m.taken + 1 }) = .ok (.dat (.int b)) (dY S0 bs { m with taken := m.taken + 1 }) := sI (n := m.taken) mZ (by omega) hb
  simp! [rV, i1];rfl
inductive LR where
 | ok (blk : List LT) (m : Lm) | non (m : Lm) | no
def kA : List LT -> Option (List Deed × fT × List LT)
 | [] => none
 | .out c _ :: r => some ([], c, r)
 | .shut :: r => (match kA r with
  | some (ds, c, q) => some (.cl :: ds, c, q)
  | none => none)
 | .st _ :: r => kA r
def Bl : LT -> Bool
 | .shut => true
 | _ => false
def Lu : LT -> Bool
 | .out _ _ => true
 | _ => false
theorem yM : ∀ {ts : List LT} {ds : List Deed} {c : fT} {r : List LT}, kA ts = some (ds, c, r) -> ∃ pre w, ts = pre ++ .out c w :: r /\ (∀ t ∈ pre, Lu t = false) /\ (pre.filter Bl).map LT.d = ds.map Deed.l /\ ds.length <= pre.length
 | [], ds, c, r, h => by cases h
 | .out c' w :: q, ds, c, r, h => by cases h; exact ⟨[], w, rfl, (fun t h => by cases h), rfl, bS _⟩
 | .shut :: q, ds, c, r, h => by
  simp only [kA] at h;cases e : kA q with
  | none => rw [e] at h; cases h
  | some x =>
   obtain ⟨ds', c', q'⟩ := x;rw [e] at h;cases h;obtain ⟨pre, w, h1, h2, h3, h4⟩ := yM e;refine ⟨.shut :: pre, w, by rw [h1]; rfl, fun t ht => ?_, ?_, by simp; omega⟩
   ·rcases bH.mp ht with rfl | ht
    ·rfl
    ·exact h2 t ht
   ·rw [mL rfl, aK, h3]
    rfl
 | .st s :: q, ds, c, r, h => by
  obtain ⟨pre, w, h1, h2, h3, h4⟩ := yM (ts := q) h;refine ⟨.st s :: pre, w, by rw [h1]; rfl, fun t ht => ?_, ?_, by simp; omega⟩
  ·rcases bH.mp ht with rfl | ht
   ·rfl
   ·exact h2 t ht
  ·rw [mM (by simp [Bl]), h3]
theorem Gy {t : LT} {many : Int} {S : aQ} (h : t.Ok many) : bR (.dat t.d) (.dat (.int 0)) S = .ok (.dat (.str t.word)) S := by
 cases t with
 | st s => exact Dr (SG.noodd h)
 | shut => exact cK
 | out c w => exact cK
theorem Cu {t : Tg} {mt : FT} {e : FE} {ρ : Ev} {S : aQ} {f g : LT -> D} {p : LT -> Bool} : ∀ {xs : List LT}, (∀ x ∈ xs, ∃ ρ1, oK t (.dat (f x)) ρ = some ρ1 /\ mt ρ1 S = .ok (p x) S /\ e ρ1 S = .ok (.dat (g x)) S) -> iP t mt e ρ (xs.map f) S = .ok ((xs.filter p).map g) S
 | [], _ => rfl
 | x :: xs, h => by
  obtain ⟨ρ1, h1, h2, h3⟩ := h x (aY ..);have ih := Cu (xs := xs) fun y hy => h y (aL _ hy)
  rw [aK, iP];simp only [h1, h2];cases q : p x with
  | true =>
   rw [mL q];simp only [if_true, h3, ih, aK]
  | false =>
   rw [mM (by rw [q]; decide)]
   simp only [A9, if_false, ih]
def allWords : List Str := ["go", "turn", "mirror", "scale", "aim", "place", "mark", "return", "exchange", "end", "keep", "again", "either", "call", "shut", "out"]
theorem KR {t : LT} {many : Int} (h : t.Ok many) : t.word ∈ allWords := by
 cases t with
 | shut => simp [allWords, LT.word]
 | out c w => simp [allWords, LT.word]
 | st s =>
  cases s with
  | cmd c => cases c <;> simp [allWords, LT.word, Stt.word, Cmd.word]
  | odd x => exact (by obtain ⟨k, _, h, _⟩ := h; exact h.elim)
  | bad => exact (by obtain ⟨k, _, h, _⟩ := h; exact h.elim)
  | _ => simp [allWords, LT.word, Stt.word]
theorem NT {t : LT} {many : Int} (h : t.Ok many) : PyData.strOk t.word = true := cF.mp (show allWords.all PyData.strOk = true by decide +kernel) _ (KR h)
theorem KQ {t : LT} {many : Int} (h : t.Ok many) : (t.word == ("out" : Str)) = Lu t := by
 cases t with
 | shut => rfl
 | out c w => rfl
 | st s =>
  cases s with
  | cmd c => cases c <;> rfl
  | odd x => exact (by obtain ⟨k, _, h, _⟩ := h; exact h.elim)
  | bad => rfl
  | _ => rfl
theorem J2 {t : LT} {many : Int} (h : t.Ok many) : decide (t.word = ("shut" : Str)) = Bl t := by
 cases t with
 | shut => rfl
 | out c w => rfl
 | st s =>
  cases s with
  | cmd c => cases c <;> rfl
  | odd x => exact (by obtain ⟨k, _, h, _⟩ := h; exact h.elim)
  | bad => rfl
  | _ => rfl
theorem EY {many : Int} : ∀ {ts : List LT}, (∀ t ∈ ts, t.Ok many) -> D.pys (ts.map fun t => .str t.word) = some (ts.map fun t => .str t.word) /\ PyData.canLayAll0 (ts.map fun t => PyData.str t.word) = true /\ PyData.depthAll (ts.map fun t => PyData.str t.word) = 0
 | [], _ => ⟨rfl, rfl, rfl⟩
 | t :: r, h => by
  obtain ⟨h1, h2, h3⟩ := EY (ts := r) fun t ht => h t (aL _ ht)
  refine ⟨?_, ?_, ?_⟩
  ·rw [aK, D.pys, h1]
   rfl
  ·rw [aK, PyData.canLayAll0, h2, zC]
   exact NT (h t (aY ..))
  ·rw [aK, PyData.depthAll, h3]
   rfl
theorem Lr {as bs : List PyData} {z d : PyData} (h1 : ∀ x ∈ as, PyData.eqv x d = false) (h2 : PyData.eqv z d = true) : Ls (as ++ z :: bs) d = some as.length := by
 unfold Ls;rw [CI];refine ⟨by simp [h2], aP as.length, (aP bs.length).map (as.length + 1 + ·), ?_, fun j hj => ?_⟩
 ·rw [bF, aJ, show as.length + (bs.length + 1) = as.length + 1 + bs.length by omega, List.range_add, vK, cV]
  rfl
 ·have hj := eD.mp hj
  rw [aM hj, bY hj];simp [h1 _ (oI hj)]
theorem Jk {pre r : List LT} {c : fT} {w : Int} {many : Int} {S : aQ} (h : ∀ t ∈ pre ++ .out c w :: r, t.Ok many) (hn : ∀ t ∈ pre, Lu t = false) : wK (.dat (.lst ((pre ++ .out c w :: r).map fun t => .str t.word))) (.dat (.str "out")) S = .ok (.dat (.int (pre.length : Int))) S := by
 obtain ⟨h1, h2, h3⟩ := EY h;have e : tJ S (.dat (.lst ((pre ++ .out c w :: r).map fun t => .str t.word))) = some (.list ((pre ++ .out c w :: r).map fun t => .str t.word)) := by
  show D.py (.lst _) = _
  rw [D.py, h1]
 unfold wK;rw [e];dsimp only [tJ, D.py];rw [if_pos ⟨by unfold SeqAt.shaped; rw [show PyData.canLay0 (.list ((pre ++ .out c w :: r).map fun t => .str t.word)) = true from h2, Bool.true_and]; exact decide_eq_true (by show PyData.depthAll _ + 1 <= 64; rw [h3]; decide), by decide +kernel⟩]
 rw [bN, aK, Lr (as := pre.map fun t => .str t.word)]
 ·simp
 ·intro x hx
  obtain ⟨t, ht, rfl⟩ := pY.mp hx
  show (t.word == ("out" : Str)) = false
  rw [KQ (h t (KJ _ ht)), hn t ht]
 ·show (("out" : Str) == "out") = true
  decide +kernel
def bX (bs : List (List Stt)) (t : LT) (m : Lm) : LR := match t with
 | .st (.cmd c) => .ok [] { m with deeds := m.deeds ++ [.cmd c] }
 | .st (.keep b) => .ok (gN b ++ [.shut]) { m with deeds := m.deeds ++ [.op] }
 | .st (.either x y) => (match qW (.either x y) m with
  | none => .non m
  | some (b, m') => .ok (gN (if b = 0 then x else y)) m')
 | .st (.again b) => (match qW (.again b) m with
  | none => .non m
  | some (c, m') => .ok (if c = 0 then [] else gN b ++ [.st (.again b)]) m')
 | .st (.call g f x y) => if (g.toNat, m.taken) ∈ m.opens then .non m else (match bs[g.toNat]? with
  | some b => .ok (gN b ++ [.out (g, f, x, y) 0]) { m with opens := (g.toNat, m.taken) :: m.opens, deeds := m.deeds ++ (if f then [.op] else []) }
  | none => .no)
 | .st (.fin w) => (match kA m.todo with
  | some (ds, c, r) => .ok [.out c w] { m with deeds := m.deeds ++ ds, todo := r }
  | none => .no)
 | .out c w => (match m.opens with
  | _ :: o => .ok (gN (if w = 0 then c.2.2.1 else c.2.2.2)) { m with opens := o, way := w, deeds := m.deeds ++ (if c.2.1 then [.cl] else []) }
  | [] => .no)
 | .shut => .ok [] { m with deeds := m.deeds ++ [.cl] }
 | _ => .no
def QP (r : Res Vl) (S0 : aQ) (bs : List (List Stt)) (x : LR) : Prop := match x with
 | .ok blk m => r = .ok (.dat (.lst (blk.map LT.d))) (dY S0 bs m)
 | .non m => r = .ok (.dat .non) (dY S0 bs m)
 | .no => True
theorem BC {l : List Stt} : (gN l).map LT.d = cD l := by
 rw [pT, gN, iU];rfl
structure Lm.Fit (m : Lm) : Prop where
 t : m.taken <= m.bits.length
 b : m.bits.length < 100000
 d : m.deeds.length < 400000
 o : m.opens.length < 100000
 q : m.todo.length < 400000
 bit : ∀ b ∈ m.bits, b = 0 \/ b = 1
theorem Bg {s : Stt} {m m' : Lm} {b : Int} (F : m.Fit) (h : qW s m = some (b, m')) : b = 0 \/ b = 1 := by
 unfold qW at h;split at h
 ·split at h
  ·cases h
  ·cases h; exact Mq s
 ·split at h
  ·rename_i q
   cases h;exact F.bit _ (bI q)
  ·cases h
theorem K2 {c : Cmd} : decide (c.word = ("either" : Str)) = false := by cases c <;> rfl
theorem Mw {c : Cmd} : decide (c.word = ("again" : Str)) = false := by cases c <;> rfl
theorem PQ {c : Cmd} : decide (c.word = ("keep" : Str)) = false := by cases c <;> rfl
theorem Ij {c : Cmd} : decide (c.word = ("call" : Str)) = false := by cases c <;> rfl
theorem PR {c : Cmd} : decide (c.word = ("end" : Str)) = false := by cases c <;> rfl
theorem SX {c : Cmd} : decide (c.word = ("out" : Str)) = false := by cases c <;> rfl
def Gn (o : Nat × Nat) : PyData := .tuple [.int (o.1 : Int), .int (o.2 : Int)]
theorem FF : ∀ {os : List (Nat × Nat)}, D.pys (os.map IG) = some (os.map Gn) /\ PyData.canLayAll0 (os.map Gn) = true /\ PyData.depthAll (os.map Gn) <= 1
 | [] => ⟨rfl, rfl, eL _⟩
 | o :: r => by
  obtain ⟨h1, h2, h3⟩ := FF (os := r);refine ⟨?_, ?_, ?_⟩
  ·rw [aK, D.pys, h1]
   rfl
  ·rw [aK, PyData.canLayAll0, h2]
   rfl
  ·rw [aK, PyData.depthAll]
   simp only [Gn, PyData.depth, PyData.depthAll];omega
theorem Fl {S0 : aQ} {bs : List (List Stt)} {m : Lm} {g : Nat} : fIn false (.dat (.tup [.int (g : Int), .int (m.taken : Int)])) (.cel (S0.length + 2)) (dY S0 bs m) = .ok (.dat (.bl (decide ((g, m.taken) ∈ m.opens)))) (dY S0 bs m) := by
 obtain ⟨h1, h2, h3⟩ := FF (os := m.opens.reverse);have e1 : tJ (dY S0 bs m) (.dat (.tup [.int (g : Int), .int (m.taken : Int)])) = some (Gn (g, m.taken)) := rfl;have e2 : tJ (dY S0 bs m) (.cel (S0.length + 2)) = some (.list (m.opens.reverse.map Gn)) := by
  unfold tJ;dsimp only;rw [xZ];dsimp only;rw [D.py, show rK IG m.opens = m.opens.reverse.map IG from rfl, h1]
 have hs : Nl (Gn (g, m.taken)) (.list (m.opens.reverse.map Gn)) = true := by
  unfold Nl SeqAt.shaped;rw [show PyData.canLay0 (.list (m.opens.reverse.map Gn)) = true from h2, show decide ((PyData.list (m.opens.reverse.map Gn)).depth <= 64) = true from decide_eq_true (by show PyData.depthAll _ + 1 <= 64; omega)]
  rfl
 have ha : ((m.opens.reverse.map Gn).any fun z => PyData.eqv z (Gn (g, m.taken))) = decide ((g, m.taken) ∈ m.opens) := by
  rw [Bool.eq_iff_iff, List.any_eq_true, decide_eq_true_iff]
  constructor
  ·rintro ⟨z, hz, he⟩
   obtain ⟨o, ho, rfl⟩ := pY.mp hz;simp only [Gn, PyData.eqv, PyData.eqvAll, zC, iO, beq_iff_eq] at he;have : o = (g, m.taken) := by
    obtain ⟨o1, o2⟩ := o;simp only at he;rw [show o1 = g by omega, show o2 = m.taken by omega]
   rw [<- this]
   simpa using ho
  ·intro h
   exact ⟨Gn (g, m.taken), KN (by simpa using h), by simp [Gn, PyData.eqv, PyData.eqvAll]⟩
 unfold fIn;rw [e1, e2];dsimp only;rw [if_pos hs, ha];rfl
theorem SY {xs : List D} {n : Nat} : cutD xs none (some (n : Int)) = xs.take n := by
 unfold cutD;rw [HT.sIx_none, HT.sIx_nat];simp
theorem QK {xs : List D} {n : Nat} : cutD xs (some (n : Int)) none = xs.drop n := by
 unfold cutD;rw [HT.sIx_none, HT.sIx_nat, Hk (by simp)]
 by_cases h : n <= xs.length
 ·rw [DU h]
 ·rw [Nat.min_eq_right (by omega), oH, Hl (by omega)]
theorem IX {x : Deed} {f : Bool} : cutD [x.l] none (some (if f = true then 1 else 0)) = (if f then [x] else []).map Deed.l := by
 cases f with
 | true => exact SY (n := 1)
 | false => exact SY (n := 0)
section
variable {S0 : aQ} {bs : List (List Stt)} {m : Lm} {many : Int}
theorem Kd {c : Cmd} (F : m.Fit) : QP (jE [lv S0, .dat (LT.st (.cmd c)).d] (dY S0 bs m)) S0 bs (bX bs (.st (.cmd c)) m) := by
 have Fd := F.d;have e1 := Bh (S0 := S0) (bs := bs) (m := m) (t := .cmd c) (ρ := [some (lv S0), some (.dat c.d), some (.dat (.str c.word)), none, none, none, none]) (b := aC 1) (by omega) rfl
 show _ = _
 rw [jH];unfold gK;simp! [rV, LT.d, Stt.d, Aw, K2, Mw, PQ, Ij, PR, SX, nR, e1];rfl
theorem J9 (F : m.Fit) : QP (jE [lv S0, .dat LT.shut.d] (dY S0 bs m)) S0 bs (bX bs .shut m) := by
 have Fd := F.d;have e1 := Bh (S0 := S0) (bs := bs) (m := m) (t := .cl) (ρ := [some (lv S0), some (.dat (.tup [.str "shut"])), some (.dat (.str "shut")), none, none, none, none]) (b := aC 1) (by omega) rfl
 show _ = _
 rw [jH];unfold gK;simp! [rV, LT.d, cK, nR, e1];rfl
theorem JA {b : List Stt} (F : m.Fit) (h : SG many (.keep b)) : QP (jE [lv S0, .dat (LT.st (.keep b)).d] (dY S0 bs m)) S0 bs (bX bs (.st (.keep b)) m) := by
 have Fd := F.d;have hb := h.keep.1;have e1 := Bh (S0 := S0) (bs := bs) (m := m) (t := .op) (ρ := [some (lv S0), some (.dat (.tup [.str "keep", .lst (cD b)])), some (.dat (.str "keep")), none, none, none, none]) (b := cC (aB (mC (.str "hold")) aO)) (by omega) rfl
 have ad : ∀ {S : aQ} {z : D}, dR false (.dat (.lst (cD b))) (.dat (.lst [z])) S = newL false (cD b ++ [z]) S := oE (by rw [fR]; exact sz (by simp; omega))
 show _ = _
 rw [jH];unfold gK;simp! [rV, LT.d, Stt.d, cK, eM, nR, e1, ad];rw [bN, BC];rfl
theorem Kb {c : fT} {w : Int} (F : m.Fit) (h : (LT.out c w).Ok many) : QP (jE [lv S0, .dat (LT.out c w).d] (dY S0 bs m)) S0 bs (bX bs (.out c w) m) := by
 have Fd := F.d;unfold bX;dsimp only;cases ho : m.opens with
 | nil => trivial
 | cons o r =>
  show _ = _
  obtain ⟨_, _, _, hw⟩ := h;have e1 := Bb (S0 := S0) (bs := bs) (m := { m with opens := r, way := w }) (ds := if c.2.1 then [.cl] else []) (ρ := [some (lv S0), some (.dat (LT.out c w).d), some (.dat (.str "out")), none, none, none, none]) (v := Ao false (dG false (aB (cC (aB (mC (.str "shut")) aO)) aO)) qU (hC (m1 pX (aR bR (aR bR (aC 1) (mC (.int 1))) (mC (.int 2)))))) (by dsimp only; split <;> simp <;> omega) (by
   simp! [rV, LT.d, eM, Lq, show D.tup [D.str (Str.ofString "shut")] = Deed.cl.l from rfl, IX])
  rw [jH];unfold gK;simp! [rV, LT.d, cK, eM, kL, Bc, LU ho, RA, HD];simp only [LT.d] at e1;simp! [rV, e1, eM, kL, HD];rcases hw with rfl | rfl
  ·simp! [rV, zU]
   rw [BC];rfl
  ·simp! [rV, AZ]
   rw [BC];rfl
theorem Em {s : Stt} (hm : many <= 9) (F : m.Fit) (h : SG many s) (ha : asks s = true) : QP (jE [lv S0, .dat (LT.st s).d] (dY S0 bs m)) S0 bs (bX bs (.st s) m) := by
 have eb := SZ (S0 := S0) (bs := bs) hm h ha F.t F.b;cases q : qW s m with
 | none =>
  rw [q] at eb;dsimp only at eb;cases s with
  | either x y =>
   unfold bX;dsimp only;rw [q]
   show _ = _
   rw [jH];unfold gK;simp only [Stt.d] at eb;simp! [rV, LT.d, Stt.d, cK, eb];rfl
  | again b =>
   unfold bX;dsimp only;rw [q]
   show _ = _
   rw [jH];unfold gK;simp only [Stt.d] at eb;simp! [rV, LT.d, Stt.d, cK, eb];rfl
  | _ => cases ha
 | some x =>
  obtain ⟨b, m'⟩ := x;have hbit := Bg F q;rw [q] at eb;dsimp only at eb;cases s with
  | either x y =>
   unfold bX;dsimp only;rw [q]
   show _ = _
   rw [jH];unfold gK;simp only [Stt.d] at eb;rcases hbit with rfl | rfl
   ·simp! [rV, LT.d, Stt.d, cK, eb, eM]
    rw [BC];rfl
   ·simp! [rV, LT.d, Stt.d, cK, eb, kL]
    rw [BC];rfl
  | again b =>
   have hb := h.again.1;unfold bX;dsimp only;rw [q]
   show _ = _
   rw [jH];unfold gK;simp only [Stt.d] at eb;have ad : ∀ {S : aQ}, dR false (.dat (.lst (cD b))) (.dat (.lst [.tup [.str "again", .lst (cD b)]])) S = newL false (cD b ++ [.tup [.str "again", .lst (cD b)]]) S := oE (by rw [fR]; exact sz (by simp; omega))
   rcases hbit with rfl | rfl
   ·simp! [rV, LT.d, Stt.d, cK, eb, eM, ad, zU]
    rfl
   ·simp! [rV, LT.d, Stt.d, cK, eb, eM, ad, AZ]
    rw [bN, BC];rfl
  | _ => cases ha
end
section
variable {S0 : aQ} {bs : List (List Stt)} {m : Lm} {many : Int}
theorem JB {g : Int} {f : Bool} {x y : List Stt} (F : m.Fit) (h : SG many (.call g f x y)) (hB : ∀ b ∈ bs, b.length <= 1000) : QP (jE [lv S0, .dat (LT.st (.call g f x y)).d] (dY S0 bs m)) S0 bs (bX bs (.st (.call g f x y)) m) := by
 have Fd := F.d;have Fo := F.o;obtain ⟨⟨g0, g1⟩, hx, hy⟩ := h.call;obtain ⟨n, rfl⟩ : ∃ n : Nat, g = (n : Int) := ⟨g.toNat, by omega⟩
 unfold bX;dsimp only;rw [jV]
 by_cases hin : (n, m.taken) ∈ m.opens
 ·rw [if_pos hin]
  show _ = _
  rw [jH];unfold gK;simp! [rV, LT.d, Stt.d, cK, eM, lT, Bc, Fl, decide_eq_true hin];rfl
 ·rw [if_neg hin]
  cases hb : bs[n]? with
  | none => trivial
  | some b =>
   have hbl := hB b (bI hb);have ib : ∀ {S : aQ}, bR (.dat (.lst (bls bs))) (.dat (.int (n : Int))) S = .ok (.dat (.lst (cD b))) S := fun {S} => HE (n := n) rfl (by rw [bls, bT, hb]; rfl)
   have e0 := Lc (S0 := S0) (bs := bs) (m := m) (t := (n, m.taken)) (ρ := [some (lv S0), some (.dat (Stt.call (n : Int) f x y).d), some (.dat (.str "call")), none, none, none, none]) (b := cC (aB (aR bR (aC 1) (mC (.int 1))) (aB (aR cX (aC 0) (mC (.str "taken"))) aO))) (by omega) (by
    simp! [rV, Stt.d, eM, lT];rfl)
   have e1 := Bb (S0 := S0) (bs := bs) (m := { m with opens := (n, m.taken) :: m.opens }) (ds := if f then [.op] else []) (ρ := [some (lv S0), some (.dat (Stt.call (n : Int) f x y).d), some (.dat (.str "call")), none, none, none, none]) (v := Ao false (dG false (aB (cC (aB (mC (.str "hold")) aO)) aO)) qU (hC (m1 pX (aR bR (aC 1) (mC (.int 2)))))) (by dsimp only; split <;> simp <;> omega) (by
    simp! [rV, Stt.d, kL, show D.tup [D.str (Str.ofString "hold")] = Deed.op.l from rfl, IX])
   have ad : ∀ {S : aQ} {z : D}, dR false (.dat (.lst (cD b))) (.dat (.lst [z])) S = newL false (cD b ++ [z]) S := oE (by rw [fR]; exact B6 (Ga (by simp; omega)))
   show _ = _
   simp only [Stt.d] at e0 e1;rw [jH];unfold gK;simp! [rV, LT.d, Stt.d, cK, eM, lT, Bc, Fl, decide_eq_false hin, e0, e1, Jf, ib, ad];rw [bN, BC];rfl
theorem KP {ts : List LT} {S : aQ} {a0 a1 a2 a3 a4 a5 : Option Vl} (h : ∀ t ∈ ts, t.Ok many) (hl : ts.length < 400000) : wH false (.nm 6) fP (aR bR (aC 6) (mC (.int 0))) [a0, a1, a2, a3, a4, a5, none] [6] (ts.map LT.d) S = .ok (.dat (.lst (ts.map fun t => .str t.word))) S := by
 unfold wH;rw [aN, if_pos (B6 (Ga (by omega))), yC (f := LT.d) (g := fun t => .str t.word) fun t ht => ⟨_, rfl, by
  have := Gy (S := S) (h t ht);simp! [rV, this]⟩]
 rfl
theorem Nk {ts : List LT} {S : aQ} {a0 a1 a2 a3 a4 a5 : Option Vl} (h : ∀ t ∈ ts, t.Ok many) (hl : ts.length < 400000) : wH false (.nm 6) (mB (aR fK (aR bR (aC 6) (mC (.int 0))) (mC (.str "shut")))) (aC 6) [a0, a1, a2, a3, a4, a5, none] [6] (ts.map LT.d) S = .ok (.dat (.lst ((ts.filter Bl).map LT.d))) S := by
 unfold wH;rw [aN, if_pos (B6 (Ga (by omega))), Cu (f := LT.d) (g := LT.d) (p := Bl) fun t ht => ⟨_, rfl, by
  have := Gy (S := S) (h t ht);simp! [rV, this, J2 (h t ht)], rfl⟩]
 rfl
theorem Kc {w : Int} (F : m.Fit) (hw : w = 0 \/ w = 1) (T : ∀ t ∈ m.todo, t.Ok many) : QP (jE [lv S0, .dat (LT.st (.fin w)).d] (dY S0 bs m)) S0 bs (bX bs (.st (.fin w)) m) := by
 have Fd := F.d;have Fq := F.q;unfold bX;dsimp only;cases hc : kA m.todo with
 | none => trivial
 | some z =>
  obtain ⟨ds, c, r⟩ := z;obtain ⟨pre, w', h1, h2, h3, h4⟩ := yM hc;have hpl : pre.length < 400000 := by rw [h1] at Fq; simp at Fq; omega
  have T' : ∀ t ∈ pre ++ .out c w' :: r, t.Ok many := by rw [<- h1]; exact T
  have Tp : ∀ t ∈ pre, t.Ok many := fun t ht => T' t (KJ _ ht)
  have hix := fun {S : aQ} => Jk (S := S) T' h2
  have hl := fun {S : aQ} {a0 a1 a2 a3 a4 a5 : Option Vl} => KP (S := S) (a0 := a0) (a1 := a1) (a2 := a2) (a3 := a3) (a4 := a4) (a5 := a5) T' (by rw [<- h1]; exact Fq)
  have hsh := fun {S : aQ} {a0 a1 a2 a3 a4 a5 : Option Vl} => Nk (S := S) (a0 := a0) (a1 := a1) (a2 := a2) (a3 := a3) (a4 := a4) (a5 := a5) Tp hpl
  have htk : (List.map LT.d (pre ++ .out c w' :: r)).take pre.length = pre.map LT.d := by simp
  have htd : (List.map LT.d (pre ++ .out c w' :: r)).drop (pre.length + 1) = r.map LT.d := by
   rw [bN, aK, List.drop_append];simp
  have hat : (List.map LT.d (pre ++ .out c w' :: r))[pre.length]? = some (LT.out c w').d := by simp
  have h5 : ∀ {S : aQ}, bR (.dat (.lst (List.map LT.d (pre ++ .out c w' :: r)))) (.dat (.int (pre.length : Int))) S = .ok (.dat (LT.out c w').d) S := fun {S} => HE (n := pre.length) rfl hat
  have h6 : cutD (List.map LT.d (pre ++ .out c w' :: r)) (some ((pre.length : Int) + 1)) none = r.map LT.d := by
   rw [show ((pre.length : Int) + 1) = ((pre.length + 1 : Nat) : Int) by omega, QK, htd]
  have h7 : cutD (List.map LT.d (pre ++ .out c w' :: r)) none (some (pre.length : Int)) = pre.map LT.d := by rw [SY, htk]
  have lgt := sG (S0 := S0) (bs := bs) (m := m);rw [h1] at lgt;have e1 := Bb (S0 := S0) (bs := bs) (m := m) (ds := ds) (ρ := [some (lv S0), some (.dat (Stt.fin w).d), some (.dat (.str "end")), none, some (.dat (.lst (List.map LT.d (pre ++ .out c w' :: r)))), some (.dat (.int (pre.length : Int))), none]) (v := (wR false (kK (Ao false (aC 4) qU (hC (aC 5)))) (.nm 6) (mB (aR fK (aR bR (aC 6) (mC (.int 0))) (mC (.str "shut")))) (aC 6) [6])) (by omega) (by
   simp! [rV, h7, hsh];rw [h3])
  show _ = _
  simp only [Stt.d] at e1;rw [jH];unfold gK;simp! [rV, LT.d, Stt.d, cK, lgt, hl, hix, e1, h6, xW, h5, eM];rfl
theorem NX {t : LT} (hm : many <= 9) (F : m.Fit) (h : t.Ok many) (T : ∀ t ∈ m.todo, t.Ok many) (hB : ∀ b ∈ bs, b.length <= 1000) : QP (jE [lv S0, .dat t.d] (dY S0 bs m)) S0 bs (bX bs t m) := by
 cases t with
 | shut => exact J9 F
 | out c w => exact Kb F h
 | st s =>
  cases s with
  | cmd c => exact Kd F
  | fin w => exact Kc F (SG.fin h) T
  | keep b => exact JA F h
  | again b => exact Em hm F h rfl
  | either a b => exact Em hm F h rfl
  | call g f x y => exact JB F h hB
  | bad => trivial
  | odd x => trivial
end
inductive LF where
 | fin (m : Lm) | long (m : Lm) | never (m : Lm) | short (m : Lm) | no (m : Lm)
def isCall : LT -> Bool
 | .st (.call _ _ _ _) => true
 | _ => false
def cP (bs : List (List Stt)) : Nat -> Lm -> LF
 | 0, m => if m.todo = [] then .fin m else .long m
 | k + 1, m => match m.todo with
  | [] => .fin m
  | t :: r => match bX bs t { m with todo := r } with
   | .ok blk m' => cP bs k { m' with todo := blk ++ m'.todo }
   | .non m' => if isCall t = true then .never m' else .short m'
   | .no => .no m
structure Lm.Inv (many : Int) (k : Nat) (m : Lm) : Prop where
 T : ∀ t ∈ m.todo, t.Ok many
 bit : ∀ b ∈ m.bits, b = 0 \/ b = 1
 t : m.taken <= m.bits.length
 b : m.bits.length + k < 90000
 o : m.opens.length + k < 90000
 d : m.deeds.length + m.todo.length + 12 * k < 400000
theorem Lm.Inv.fit {many : Int} {k : Nat} {m : Lm} (h : m.Inv many k) : m.Fit := ⟨h.t, by have := h.b; omega, by have := h.d; omega, by have := h.o; omega, by have := h.d; omega, h.bit⟩
theorem Lm.Inv.pop {many : Int} {k : Nat} {m : Lm} {t : LT} {r : List LT} (h : m.Inv many k) (e : m.todo = t :: r) : ({ m with todo := r } : Lm).Inv many k /\ t.Ok many := ⟨⟨fun t ht => h.T t (by rw [e]; exact aL _ ht), h.bit, h.t, h.b, h.o, by have := h.d; rw [e] at this; simp at this; simp; omega⟩, h.T t (by rw [e]; exact aY ..)⟩
theorem sH {s : Stt} {m m' : Lm} {b : Int} (h : qW s m = some (b, m')) : m'.todo = m.todo /\ m'.deeds = m.deeds /\ m'.opens = m.opens /\ m'.way = m.way /\ m'.taken = m.taken + 1 /\ m'.bits[m.taken]? = some b /\ (∃ x, m'.bits = m.bits ++ x /\ x.length <= 1 /\ ∀ y ∈ x, y = 0 \/ y = 1) := by
 unfold qW at h;split at h
 ·rename_i ht
  split at h
  ·cases h
  ·cases h
   exact ⟨rfl, rfl, rfl, rfl, rfl, by rw [ht]; simp, _, rfl, by simp, fun y hy => by rw [bU.mp hy]; exact Mq s⟩
 ·split at h
  ·rename_i q
   cases h;exact ⟨rfl, rfl, rfl, rfl, rfl, q, [], by simp, by simp, fun y hy => by cases hy⟩
  ·cases h
theorem Fb {many : Int} {k : Nat} {s : Stt} {m m' : Lm} {b : Int} {blk : List LT} (I : m.Inv many (k + 1)) (hb : ∀ t ∈ blk, t.Ok many) (hl : blk.length <= 9) (h : qW s m = some (b, m')) (hlt : m.taken < m'.bits.length) : ({ m' with todo := blk ++ m'.todo } : Lm).Inv many k := by
 obtain ⟨h1, h2, h3, _, h4, _, x, h5, h6, h7⟩ := sH h;have := I.b; have := I.o; have := I.d;refine ⟨fun t ht => ?_, fun y hy => ?_, ?_, ?_, ?_, ?_⟩
 ·simp only [h1] at ht
  rcases dD.mp ht with ht | ht
  ·exact hb t ht
  ·exact I.T t ht
 ·simp only [h5] at hy
  rcases dD.mp hy with hy | hy
  ·exact I.bit y hy
  ·exact h7 y hy
 ·simp only [h4]; omega
 ·simp only [h5, bF]; omega
 ·simp only [h3]; omega
 ·simp only [h1, h2, bF]; omega
theorem IR {s : Stt} {m m' : Lm} {b : Int} (h : qW s m = some (b, m')) : m.taken < m'.bits.length := by
 obtain ⟨_, _, _, _, _, h6, _⟩ := sH h;exact (aG.mp h6).1
theorem wZ {l : List Stt} {many : Int} (h : BG many l) : ∀ t ∈ gN l, t.Ok many := fun t ht => by
 obtain ⟨s, h1, rfl⟩ := pY.mp ht;exact h.2 s h1
theorem vB {l : List Stt} : (gN l).length = l.length := by simp [gN]
theorem gH {bs : List (List Stt)} {many : Int} {k : Nat} {m m' : Lm} {t : LT} {blk : List LT} (hB : ∀ b ∈ bs, BG many b) (I : m.Inv many (k + 1)) (ht : t.Ok many) (h : bX bs t m = .ok blk m') : ({ m' with todo := blk ++ m'.todo } : Lm).Inv many k := by
 have Ib := I.b; have Io := I.o; have Id := I.d;have app : ∀ {blk : List LT}, (∀ t ∈ blk, t.Ok many) -> ∀ t ∈ blk ++ m.todo, t.Ok many := fun {blk} hb t ht => by
  rcases dD.mp ht with ht | ht
  ·exact hb t ht
  ·exact I.T t ht
 cases t with
 | shut =>
  cases h;exact ⟨I.T, I.bit, I.t, by dsimp only; omega, by dsimp only; omega, by simp; omega⟩
 | out c w =>
  obtain ⟨hg, hx, hy, hw⟩ := ht;unfold bX at h;dsimp only at h;split at h
  ·rename_i q
   cases h;have hq := congrArg CH q;have hz : BG many (if w = 0 then c.2.2.1 else c.2.2.2) := by split <;> assumption
   have := hz.1;refine ⟨app (wZ hz), I.bit, I.t, by dsimp only; omega, by simp at hq; dsimp only; omega, ?_⟩
   have hcl : (if c.2.1 = true then [Deed.cl] else []).length <= 1 := by split <;> simp
   simp only [bF, vB];omega
  ·cases h
 | st s =>
  cases s with
  | bad => cases h
  | odd x => cases h
  | cmd c =>
   cases h;exact ⟨I.T, I.bit, I.t, by dsimp only; omega, by dsimp only; omega, by simp; omega⟩
  | keep b =>
   cases h;have hz := SG.keep ht;have := hz.1;refine ⟨app fun t ht => ?_, I.bit, I.t, by dsimp only; omega, by dsimp only; omega, by simp [vB]; omega⟩
   rcases dD.mp ht with ht | ht
   ·exact wZ hz t ht
   ·rw [bU.mp ht]; trivial
  | either x y =>
   obtain ⟨hx, hy⟩ := SG.either ht;unfold bX at h;dsimp only at h;split at h
   ·cases h
   ·rename_i b m1 q
    cases h;have hz : BG many (if b = 0 then x else y) := by split <;> assumption
    have := hz.1;exact Fb I (wZ hz) (by rw [vB]; omega) q (IR q)
  | again b =>
   have hz := SG.again ht;have := hz.1;unfold bX at h;dsimp only at h;split at h
   ·cases h
   ·rename_i c m1 q
    cases h;refine Fb I (fun t h => ?_) (by split <;> simp [vB]; omega) q (IR q)
    split at h
    ·cases h
    ·rcases dD.mp h with h | h
     ·exact wZ hz t h
     ·rw [bU.mp h]; exact ht
  | call g f x y =>
   obtain ⟨hg, hx, hy⟩ := SG.call ht;unfold bX at h;dsimp only at h;split at h
   ·cases h
   ·split at h
    ·rename_i b hb
     cases h;have hz := hB b (bI hb);have := hz.1;refine ⟨app fun t ht => ?_, I.bit, I.t, by dsimp only; omega, by simp; omega, ?_⟩
     ·rcases dD.mp ht with ht | ht
      ·exact wZ hz t ht
      ·rw [bU.mp ht]; exact ⟨hg, hx, hy, .inl rfl⟩
     ·have hcl : (if f = true then [Deed.op] else []).length <= 1 := by split <;> simp
      simp only [bF, vB, aJ, aZ];omega
    ·cases h
  | fin w =>
   have hw := SG.fin ht;unfold bX at h;dsimp only at h;split at h
   ·rename_i ds c r q
    cases h;obtain ⟨pre, w', h1, h2, h3, h4⟩ := yM q;have hc := I.T (.out c w') (by rw [h1]; simp)
    have hl := congrArg CH h1;simp only [bF, aJ] at hl;refine ⟨fun t ht => ?_, I.bit, I.t, by dsimp only; omega, by dsimp only; omega, by simp; omega⟩
    rcases dD.mp ht with ht | ht
    ·rw [bU.mp ht]; exact ⟨hc.1, hc.2.1, hc.2.2.1, hw⟩
    ·exact I.T t (by rw [h1]; exact List.mem_append_right _ (aL _ ht))
   ·cases h
def uM (w : Str) (i : Int) (m : Lm) : D := .tup [.str w, .int i, .lst (m.deeds.map Deed.l), .lst (m.bits.map D.int)]
theorem xX : ∀ {S0 : aQ} {bs : List (List Stt)} {m : Lm}, (dY S0 bs m).take S0.length = S0 := by
 intro S0 bs m;simp [dY]
theorem yA {S0 : aQ} {bs : List (List Stt)} {m : Lm} {c : Cell} : ((dY S0 bs m).set (S0.length + 1) c)[S0.length]? = some (.lst (m.bits.map D.int)) := by
 rw [aV, if_neg (by omega)]
 exact mZ
section
variable {S0 : aQ} {bs : List (List Stt)} {many : Int} {a0 a1 a2 a3 : Option Vl}
abbrev rE (S0 : aQ) (a0 a1 a2 a3 : Option Vl) : Ev := [a0, a1, a2, a3, some (lv S0), none, none, none]
theorem J6 {m : Lm} (h : m.todo = []) : eK [a0, a1, a2, a3, some (lv S0), some x, none, none] (dY S0 bs m) = .next (rE S0 a0 a1 a2 a3) (dY S0 bs m) := by
 rw [eK];simp! [rV, sG, h, bC]
theorem idle {m : Lm} (h : m.todo = []) : ∀ (n : Nat) (lo : Int), loop (.nm 5) eK (fJ lo n) (rE S0 a0 a1 a2 a3) (dY S0 bs m) = .next (rE S0 a0 a1 a2 a3) (dY S0 bs m)
 | 0, lo => rfl
 | n + 1, lo => by
  have ih := idle h n (lo + 1);rw [nM, loop];simp only [oK, iV, rE, cO, bO];rw [J6 h];exact ih
theorem Ej (hm : many <= 9) (hB : ∀ b ∈ bs, BG many b) : ∀ (n : Nat) (lo : Int) (m : Lm), m.Inv many n ->
  match cP bs n m with
  | .fin m' => loop (.nm 5) eK (fJ lo n) (rE S0 a0 a1 a2 a3) (dY S0 bs m) = .next (rE S0 a0 a1 a2 a3) (dY S0 bs m')
  | .long m' => m'.todo ≠ [] /\ loop (.nm 5) eK (fJ lo n) (rE S0 a0 a1 a2 a3) (dY S0 bs m) = .next (rE S0 a0 a1 a2 a3) (dY S0 bs m')
  | .never m' => ∃ S', loop (.nm 5) eK (fJ lo n) (rE S0 a0 a1 a2 a3) (dY S0 bs m) = .ret (.dat (uM "never" (-2) m')) S' /\ S'.take S0.length = S0
  | .short m' => ∃ S', loop (.nm 5) eK (fJ lo n) (rE S0 a0 a1 a2 a3) (dY S0 bs m) = .ret (.dat (uM "short" (m'.bits.length : Int) m')) S' /\ S'.take S0.length = S0
  | .no _ => True
 | 0, lo, m, I => by
  unfold cP
  by_cases h : m.todo = []
  ·rw [if_pos h]; rfl
  ·rw [if_neg h]; exact ⟨h, rfl⟩
 | n + 1, lo, m, I => by
  unfold cP;cases h : m.todo with
  | nil => exact idle h (n + 1) lo
  | cons t r =>
   dsimp only;obtain ⟨I1, ht⟩ := I.pop h;have tk := NX (S0 := S0) hm I1.fit ht I1.T (fun b hb => dF (hB b hb).1 (by decide))
   have ix0 : bR (.dat (.lst (t.d :: r.map LT.d))) (.dat (.int 0)) (dY S0 bs m) = .ok (.dat t.d) (dY S0 bs m) := zU;have lgt := sG (S0 := S0) (bs := bs) (m := m);rw [h, aK] at lgt;have hgt : decide ((0 : Int) < (((r.map LT.d).length + 1 : Nat) : Int)) = true := decide_eq_true (by omega)
   have hgt' : decide ((0 : Int) < ((r.length + 1 : Nat) : Int)) = true := decide_eq_true (by omega)
   have hnl : ∀ xs : List D, isNon (Vl.dat (D.lst xs)) = false := fun _ => rfl
   have hcut : cutD (t.d :: r.map LT.d) (some 1) none = r.map LT.d := QK (n := 1);have hw0 : ∀ {S : aQ}, bR (.dat t.d) (.dat (.int 0)) S = .ok (.dat (.str t.word)) S := Gy ht;rw [nM, loop];simp only [oK, iV, rE, cO, bO]
   revert tk
   cases q : bX bs t { m with todo := r } with
   | no => intro _; trivial
   | ok blk m' =>
    intro tk;have tk' : _ = _ := tk;have I2 := gH hB I1 ht q;have ih := Ej hm hB n (lo + 1) _ I2;have ad : ∀ {S : aQ}, dR false (.dat (.lst (blk.map LT.d))) (.dat (.lst (m'.todo.map LT.d))) S = newL false (blk.map LT.d ++ m'.todo.map LT.d) S := oE (by
     have := I2.d;simp at this ⊢;exact B6 (Ga (by omega)))
    have e : eK [a0, a1, a2, a3, some (lv S0), some (.dat (.int lo)), none, none] (dY S0 bs m) = .next (rE S0 a0 a1 a2 a3) (dY S0 bs { m' with todo := blk ++ m'.todo }) := by
     rw [eK];simp! [rV, lgt, hgt, ix0, hcut, xW (ts := r), tk', hnl, sG, ad, <- bN, xW]
    rw [e];exact ih
   | non m' =>
    intro tk;have tk' : _ = _ := tk;cases hc : isCall t with
    | true =>
     dsimp only;rw [if_pos rfl];have hw : t.word = ("call" : Str) := by
      cases t with
      | st s => cases s <;> first | rfl | cases hc
      | _ => cases hc
     refine ⟨((dY S0 bs m').set (S0.length + 1) .dead).set S0.length .dead, ?_, by rw [take_set (by omega), take_set (by omega), xX]⟩
     have e : eK [a0, a1, a2, a3, some (lv S0), some (.dat (.int lo)), none, none] (dY S0 bs m) = .ret (.dat (uM "never" (-2) m')) (((dY S0 bs m').set (S0.length + 1) .dead).set S0.length .dead) := by
      rw [eK];have lgb : cX (lv S0) (.dat (.str "bits")) ((dY S0 bs m').set (S0.length + 1) .dead) = .ok (.cel S0.length) ((dY S0 bs m').set (S0.length + 1) .dead) := lY (by rw [aV, if_neg (by omega)]; exact jX) rfl
      simp! [rV, lgt, hgt, ix0, hcut, xW (ts := r), tk', hw0, hw, nR, oC pL, lgb, oC yA];rfl
     rw [e]
    | false =>
     dsimp only;rw [if_neg (by decide)]
     have hw : decide (t.word = ("call" : Str)) = false := by
      cases t with
      | st s =>
       cases s with
       | call g f x y => cases hc
       | cmd c => exact Ij
       | odd x => exact (by obtain ⟨k, _, h, _⟩ := ht; exact h.elim)
       | _ => rfl
      | _ => rfl
     refine ⟨((dY S0 bs m').set (S0.length + 1) .dead).set S0.length .dead, ?_, by rw [take_set (by omega), take_set (by omega), xX]⟩
     have e : eK [a0, a1, a2, a3, some (lv S0), some (.dat (.int lo)), none, none] (dY S0 bs m) = .ret (.dat (uM "short" (m'.bits.length : Int) m')) (((dY S0 bs m').set (S0.length + 1) .dead).set S0.length .dead) := by
      rw [eK];have lgb : cX (lv S0) (.dat (.str "bits")) ((dY S0 bs m').set (S0.length + 1) .dead) = .ok (.cel S0.length) ((dY S0 bs m').set (S0.length + 1) .dead) := lY (by rw [aV, if_neg (by omega)]; exact jX) rfl
      simp! [rV, lgt, hgt', ix0, hcut, xW (ts := r), tk', hw0, hw, nR, yB, pO mZ, aN, oC pL, lgb, oC yA];rfl
     rw [e]
end
def fW (p : Nat) (bits : List Int) (ex : Nat) : Lm := ⟨bits, ex, 0, 0, [], [], [.st (.call (p : Int) false [] [])]⟩
theorem D2 {p : Nat} {bits : List Int} {ex k : Nat} {many : Int} (hp : (p : Int) < many) (hb : ∀ b ∈ bits, b = 0 \/ b = 1) (hl : bits.length < 40000) (hk : k <= 20001) : (fW p bits ex).Inv many k :=
 ⟨fun t ht => by
  rw [bU.mp ht];exact ⟨3, by decide, ⟨⟨by decide, by omega, hp⟩, trivial, trivial⟩, by simp [Stt.size, kE], ⟨⟨eL _, trivial⟩, eL _, trivial⟩⟩, hb, eL _, by simp [fW]; omega, by simp [fW]; omega, by simp [fW]; omega⟩
section
variable {S0 : aQ} {bs : List (List Stt)} {p : Nat} {bits : List Int} {ex : Nat}
theorem Mv {ρ : Ev} (h0 : aC 0 ρ = fun S => .ok (.dat (.lst (bls bs))) S) (h2 : aC 2 ρ = fun S => .ok (.dat (.lst (bits.map D.int))) S) (h3 : aC 3 ρ = fun S => .ok (.dat (.int (ex : Int))) S) :
  Jc [("bodies", (aC 0)), ("bits", (m1 (qD true) (aC 2))), ("extra", (aC 3)), ("taken", (mC (.int 0))), ("way", (mC (.int 0))), ("deeds", (dG true aO)), ("opens", (dG true aO))] ρ S0 = .ok (.cel (S0.length + 3)) (S0 ++ [.lst (bits.map D.int), .lst [], .lst [], .dct [("bodies", .dat (.lst (bls bs))), ("bits", .cel S0.length), ("extra", .dat (.int (ex : Int))), ("taken", .dat (.int 0)), ("way", .dat (.int 0)), ("deeds", .cel (S0.length + 1)), ("opens", .cel (S0.length + 2))]]) := by
 have e : lQ [("bodies", (aC 0)), ("bits", (m1 (qD true) (aC 2))), ("extra", (aC 3)), ("taken", (mC (.int 0))), ("way", (mC (.int 0))), ("deeds", (dG true aO)), ("opens", (dG true aO))] ρ S0 = .ok [("bodies", .dat (.lst (bls bs))), ("bits", .cel S0.length), ("extra", .dat (.int (ex : Int))), ("taken", .dat (.int 0)), ("way", .dat (.int 0)), ("deeds", .cel (S0.length + 1)), ("opens", .cel (S0.length + 2))] (S0 ++ [.lst (bits.map D.int), .lst [], .lst []]) := by
  have h2' : ∀ S, m1 (qD true) (aC 2) ρ S = .ok (.cel S.length) (S ++ [.lst (bits.map D.int)]) := fun S => by
   show ((aC 2 ρ) S).bind _ = _
   rw [h2];rfl
  have hl : ∀ S, dG true aO ρ S = .ok (.cel S.length) (S ++ [.lst []]) := fun S => rfl
  have hc : ∀ (d : D) S, mC d ρ S = .ok (.dat d) S := fun d S => rfl
  simp only [lQ, h0, h2', h3, hl, hc, Res.bind, bF, aJ, aZ, cV, bV, bL]
 unfold Jc;rw [e];dsimp only;rw [if_pos ⟨by
  show (["bodies", "bits", "extra", "taken", "way", "deeds", "opens"] : List Str).Nodup
  decide +kernel, by simp⟩]
 simp
def RC (n : Nat) (bs : List (List Stt)) (bits : List Int) (ex : Nat) : List (Str × Vl) := [("bodies", .dat (.lst (bls bs))), ("bits", .cel n), ("extra", .dat (.int (ex : Int))), ("taken", .dat (.int 0)), ("way", .dat (.int 0)), ("deeds", .cel (n + 1)), ("opens", .cel (n + 2))]
theorem L0 {ρ : Ev} : uH ρ (.dat (.lst [.tup [.str "call", .int (p : Int), .bl false, .lst [.lst [], .lst []]]])) (lv S0) (.dat (.str "todo")) (S0 ++ [.lst (bits.map D.int), .lst [], .lst [], .dct [("bodies", .dat (.lst (bls bs))), ("bits", .cel S0.length), ("extra", .dat (.int (ex : Int))), ("taken", .dat (.int 0)), ("way", .dat (.int 0)), ("deeds", .cel (S0.length + 1)), ("opens", .cel (S0.length + 2))]]) = .next ρ (dY S0 bs (fW p bits ex)) := by
 have hd : (S0 ++ [Cell.lst (bits.map D.int), .lst [], .lst [], .dct (RC S0.length bs bits ex)])[S0.length + 3]? = some (.dct (RC S0.length bs bits ex)) := by
  rw [aX (by omega), show S0.length + 3 - S0.length = 3 by omega]; rfl
 unfold uH;rw [show ([("bodies", .dat (.lst (bls bs))), ("bits", .cel S0.length), ("extra", .dat (.int (ex : Int))), ("taken", .dat (.int 0)), ("way", .dat (.int 0)), ("deeds", .cel (S0.length + 1)), ("opens", .cel (S0.length + 2))] : List (Str × Vl)) = RC S0.length bs bits ex from rfl]
 rw [zW hd (by show 7 < 1000; decide) (by show (["bodies", "bits", "extra", "taken", "way", "deeds", "opens"] : List Str).Nodup; decide +kernel)]
 rw [cY _ _ (by omega), show S0.length + 3 - S0.length = 3 by omega]
 rfl
def Bs (x : LF) (S : aQ) : Res Vl := match x with
 | .fin m => if m.taken < m.bits.length then .ok (.dat (uM "rest" (m.taken : Int) m)) S else .ok (.dat (uM "run" m.way m)) S
 | .long _ => .ok (.dat (.tup [.str "long", .int 0, .lst [], .lst []])) S
 | .never m => .ok (.dat (uM "never" (-2) m)) S
 | .short m => .ok (.dat (uM "short" (m.bits.length : Int) m)) S
 | .no _ => .stuck
theorem rD {T S : aQ} {d : D} {n : Nat} (ls : LS S) (h : T.take n = S) : trunc n (.ok (.dat d) T) = .ok (.dat d) S := by
 unfold trunc;dsimp only;rw [h, show (Vl.below n (Vl.dat d) && S.all fun c => c.below n) = true by rw [show (S.all fun c => c.below n) = true from cF.mpr fun c hc => ls c hc n]; rfl, if_pos rfl]
theorem O9 {many : Int} (ls : LS S0) (hm : many <= 9) (hB : ∀ b ∈ bs, BG many b) (hp : (p : Int) < many) (hb : ∀ b ∈ bits, b = 0 \/ b = 1) (hl : bits.length < 40000) (hn : ∀ m, cP bs 3000 (fW p bits ex) ≠ .no m) :
  sD [.dat (.lst (bls bs)), .dat (.int (p : Int)), .dat (.lst (bits.map D.int)), .dat (.int (ex : Int))] S0 = Bs (cP bs 3000 (fW p bits ex)) S0 := by
 have lp := Ej (S0 := S0) (a0 := some (.dat (.lst (bls bs)))) (a1 := some (.dat (.int (p : Int)))) (a2 := some (.dat (.lst (bits.map D.int)))) (a3 := some (.dat (.int (ex : Int)))) hm hB 3000 0 (fW p bits ex) (D2 hp hb hl (by decide))
 have e0 := Mv (S0 := S0) (bs := bs) (bits := bits) (ex := ex) (ρ := [some (.dat (.lst (bls bs))), some (.dat (.int (p : Int))), some (.dat (.lst (bits.map D.int))), some (.dat (.int (ex : Int))), none, none, none, none]) rfl rfl rfl;have hr : ∀ {S : aQ}, AF (.dat (.int 3000)) S = .ok (fJ 0 3000) S := fun {S} => by rw [nA (by decide) (by decide)]; rfl
 rw [Pj];unfold Ay;simp! [rV, e0, L0, hr]
 revert hn lp
 cases q : cP bs 3000 (fW p bits ex) with
 | no m => intro hn; exact absurd rfl (hn m)
 | never m =>
  intro _ lp;obtain ⟨S', h1, h2⟩ := lp;simp! [rV, h1];exact rD ls h2
 | short m =>
  intro _ lp;obtain ⟨S', h1, h2⟩ := lp;simp! [rV, h1];exact rD ls h2
 | long m =>
  intro _ lp;obtain ⟨h1, h2⟩ := lp;simp! [rV, h2, sG, aN, decide_eq_true (show (0 : Int) < (m.todo.length : Int) by have := List.length_pos_iff.mpr h1; omega)]
  exact rD ls xX
 | fin m =>
  intro _ lp;have lp' : _ = _ := lp;have ht : m.todo = [] := by
   have : ∀ (n : Nat) (m0 : Lm), cP bs n m0 = .fin m -> m.todo = [] := by
    intro n
    induction n with
    | zero =>
     intro m0 h;unfold cP at h;split at h
     ·cases h; assumption
     ·cases h
    | succ n ih =>
     intro m0 h;unfold cP at h;split at h
     ·cases h; assumption
     ·split at h
      ·exact ih _ h
      ·split at h <;> cases h
      ·cases h
   exact this _ _ q
  have lgb : ∀ {c : Cell}, cX (lv S0) (.dat (.str "bits")) ((dY S0 bs m).set (S0.length + 1) c) = .ok (.cel S0.length) ((dY S0 bs m).set (S0.length + 1) c) := lY (by rw [aV, if_neg (by omega)]; exact jX) rfl
  by_cases hr : m.taken < m.bits.length
  ·simp! [rV, lp', sG, ht, bC, lT, yB, pO mZ, aN, decide_eq_true (show (m.taken : Int) < (m.bits.length : Int) by omega), nR, oC pL, lgb, oC yA]
   unfold Bs;dsimp only;rw [if_pos hr];exact rD ls (by rw [take_set (by omega), take_set (by omega), xX])
  ·simp! [rV, lp', sG, ht, bC, lT, yB, pO mZ, aN, decide_eq_false (show ¬ (m.taken : Int) < (m.bits.length : Int) by omega), RE, nR, oC pL, lgb, oC yA]
   unfold Bs;dsimp only;rw [if_neg hr];exact rD ls (by rw [take_set (by omega), take_set (by omega), xX])
end
def lJ (q : Nat) : Option fT -> fT
 | none => ((q : Int), false, [], [])
 | some c => c
def flat : List Task -> List LT
 | [] => []
 | .lst l i :: r => gN (l.drop i) ++ flat r
 | .close :: r => .shut :: flat r
 | .again b :: r => .st (.again b) :: flat r
 | .call q st :: r => .out (lJ q st) 0 :: flat r
def callsOf : List Task -> List Nat
 | [] => []
 | .call q _ :: r => q :: callsOf r
 | _ :: r => callsOf r
def NP (p : Nat) : List Task -> Prop
 | [] => False
 | .call q none :: r => r = [] /\ q = p
 | .call _ (some _) :: r => NP p r
 | .lst _ _ :: r => NP p r
 | .close :: r => NP p r
 | .again _ :: r => NP p r
def tI (n : Nat) (os : List (Nat × Nat)) : List (List Nat) := (aP n).map fun q => (os.filter fun o => o.1 == q).map (·.2)
theorem lG {n q : Nat} {os : List (Nat × Nat)} (h : q < n) : (tI n os)[q]? = some ((os.filter fun o => o.1 == q).map (·.2)) := by
 rw [tI, bT, iA h];rfl
theorem pB {n : Nat} {os : List (Nat × Nat)} : (tI n os).length = n := by simp [tI]
theorem KC {n q t : Nat} {os : List (Nat × Nat)} {a : List Nat} (h : q < n) : (tI n ((q, t) :: os)).set q ((os.filter fun o => o.1 == q).map (·.2)) = tI n os := by
 apply gS
 intro i;rw [aV]
 by_cases e : q = i
 ·subst e
  rw [if_pos rfl, if_pos (by rw [pB]; exact h), lG h]
 ·rw [if_neg e]
  by_cases hi : i < n
  ·rw [lG hi, lG hi, mM (by simpa using e)]
  ·rw [cZ (by rw [pB]; omega), cZ (by rw [pB]; omega)]
theorem CB {n q t : Nat} {os : List (Nat × Nat)} (h : q < n) : tI n ((q, t) :: os) = (tI n os).set q (t :: (os.filter fun o => o.1 == q).map (·.2)) := by
 apply gS
 intro i;rw [aV]
 by_cases e : q = i
 ·subst e
  rw [if_pos rfl, if_pos (by rw [pB]; exact h), lG h, mL (by simp)]
  rfl
 ·rw [if_neg e]
  by_cases hi : i < n
  ·rw [lG hi, lG hi, mM (by simpa using e)]
  ·rw [cZ (by rw [pB]; omega), cZ (by rw [pB]; omega)]
structure Sim (bs : List (List Stt)) (B : List Int) (p : Nat) (m : Lm) (c : Mc) : Prop where
 hbs : c.bs = bs
 bits : c.bits = B
 taken : c.taken = m.taken
 deeds : c.deeds = m.deeds
 todo : m.todo = flat c.stk
 calls : callsOf c.stk = m.opens.map Prod.fst
 act : c.act = tI bs.length m.opens
 lt : ∀ o ∈ m.opens, o.1 < bs.length
 srt : m.opens.Pairwise fun a b => b.2 <= a.2
 le : ∀ o ∈ m.opens, o.2 <= m.taken
 bot : NP p c.stk \/ (c.stk = [] /\ c.ended = m.way)
def Goes (j : Nat) (c c' : Mc) : Prop := ∀ n, runM (n + j) c = runM n c'
theorem Goes.refl {c : Mc} : Goes 0 c c := fun n => rfl
theorem Goes.step {c c' : Mc} (hs : c.stk ≠ []) (h : eF c = .ok c') : Goes 1 c c' := fun n => by
 rw [runM];cases e : c.stk with
 | nil => exact absurd e hs
 | cons t r => dsimp only; rw [h]
theorem Goes.trans {i j : Nat} {a b c : Mc} (h : Goes i a b) (k : Goes j b c) : Goes (i + j) a c := fun n => by
 rw [show n + (i + j) = (n + j) + i by omega, h, k]
def Pf : List Task -> Prop
 | .lst l i :: _ => i < l.length
 | _ => True
theorem settle {bs : List (List Stt)} {B : List Int} {p : Nat} {m : Lm} : ∀ (stk : List Task) (c : Mc), c.stk = stk -> Sim bs B p m c -> ∃ j c', Goes j c c' /\ Sim bs B p m c' /\ j + c'.stk.length <= stk.length /\ Pf c'.stk
 | [], c, e, s => ⟨0, c, Goes.refl, s, by rw [e]; simp, by rw [e]; trivial⟩
 | .close :: r, c, e, s => ⟨0, c, Goes.refl, s, by rw [e]; simp, by rw [e]; trivial⟩
 | .again b :: r, c, e, s => ⟨0, c, Goes.refl, s, by rw [e]; simp, by rw [e]; trivial⟩
 | .call q st :: r, c, e, s => ⟨0, c, Goes.refl, s, by rw [e]; simp, by rw [e]; trivial⟩
 | .lst l i :: r, c, e, s => by
  by_cases hi : i < l.length
  ·exact ⟨0, c, Goes.refl, s, by rw [e]; simp, by rw [e]; exact hi⟩
  ·have st : eF c = .ok { c with stk := r } := by
    unfold eF;rw [e];dsimp only;rw [cZ (by omega)]
   have s' : Sim bs B p m { c with stk := r } := ⟨s.hbs, s.bits, s.taken, s.deeds, by
    have := s.todo;rw [e] at this;simp only [flat] at this;rw [Hl (by omega)] at this
    exact this, by have := s.calls; rw [e] at this; exact this, s.act, s.lt, s.srt, s.le, by
    rcases s.bot with h | ⟨h, _⟩
    ·rw [e] at h; exact .inl h
    ·rw [e] at h; cases h⟩
   obtain ⟨j, c', h1, h2, h3, h4⟩ := settle r _ rfl s';exact ⟨1 + j, c', (Goes.step (by rw [e]; simp) st).trans h1, h2, by simp; omega, h4⟩
theorem wX {p : Nat} : ∀ (stk : List Task) (d0 : List Deed), NP p stk -> ∃ ds q st r, wQ stk d0 = some (d0 ++ ds, q, st, r) /\ kA (flat stk) = some (ds, lJ q st, flat r) /\ callsOf stk = q :: callsOf r /\ (st = none -> r = []) /\ (st ≠ none -> NP p r) /\ r.length < stk.length
 | [], d0, h => h.elim
 | .close :: r, d0, h => by
  obtain ⟨ds, q, st, r', h1, h2, h3, h4, h5, h6⟩ := wX r (d0 ++ [.cl]) h;refine ⟨.cl :: ds, q, st, r', by rw [wQ, h1]; simp, by rw [flat, kA, h2], h3, h4, h5, by simp; omega⟩
 | .again b :: r, d0, h => by
  obtain ⟨ds, q, st, r', h1, h2, h3, h4, h5, h6⟩ := wX r d0 h;exact ⟨ds, q, st, r', h1, by rw [flat, kA]; exact h2, h3, h4, h5, by simp; omega⟩
 | .lst l i :: r, d0, h => by
  obtain ⟨ds, q, st, r', h1, h2, h3, h4, h5, h6⟩ := wX r d0 h;refine ⟨ds, q, st, r', h1, ?_, h3, h4, h5, by simp; omega⟩
  rw [flat];have : ∀ l : List Stt, kA (gN l ++ flat r) = kA (flat r) := by
   intro l
   induction l with
   | nil => rfl
   | cons s l ih => exact ih
  rw [this];exact h2
 | .call q none :: r, d0, h => by
  obtain ⟨rfl, rfl⟩ := h;exact ⟨[], q, none, [], by simp [wQ], rfl, rfl, fun _ => rfl, fun h => absurd rfl h, by simp⟩
 | .call q (some c) :: r, d0, h => ⟨[], q, some c, r, by simp [wQ], rfl, rfl, fun h => (by cases h), fun _ => h, by simp⟩
def LF.bits : LF -> List Int
 | .fin m => m.bits
 | .long m => m.bits
 | .never m => m.bits
 | .short m => m.bits
 | .no m => m.bits
theorem Ka {bs : List (List Stt)} {t : LT} {m m' : Lm} {blk : List LT} (h : bX bs t m = .ok blk m') : ∃ x, m'.bits = m.bits ++ x := by
 have nil : ∀ {m' : Lm}, m'.bits = m.bits -> ∃ x, m'.bits = m.bits ++ x := fun h => ⟨[], by simp [h]⟩
 have lb : ∀ {s : Stt} {b : Int} {m' : Lm}, qW s m = some (b, m') -> ∃ x, m'.bits = m.bits ++ x := fun h => by
  obtain ⟨_, _, _, _, _, _, x, hx, _⟩ := sH h;exact ⟨x, hx⟩
 cases t with
 | shut => cases h; exact nil rfl
 | out c w =>
  unfold bX at h;dsimp only at h;split at h
  ·cases h; exact nil rfl
  ·cases h
 | st s =>
  cases s with
  | bad => cases h
  | odd x => cases h
  | cmd c => cases h; exact nil rfl
  | keep b => cases h; exact nil rfl
  | either x y =>
   unfold bX at h;dsimp only at h;split at h
   ·cases h
   ·rename_i q; cases h; exact lb q
  | again b =>
   unfold bX at h;dsimp only at h;split at h
   ·cases h
   ·rename_i q; cases h; exact lb q
  | call g f x y =>
   unfold bX at h;dsimp only at h;split at h
   ·cases h
   ·split at h
    ·cases h; exact nil rfl
    ·cases h
  | fin w =>
   unfold bX at h;dsimp only at h;split at h
   ·cases h; exact nil rfl
   ·cases h
theorem FM {bs : List (List Stt)} {t : LT} {m m' : Lm} (h : bX bs t m = .non m') : m' = m := by
 cases t with
 | shut => cases h
 | out c w =>
  unfold bX at h;dsimp only at h;split at h <;> cases h
 | st s =>
  cases s with
  | bad => cases h
  | odd x => cases h
  | cmd c => cases h
  | keep b => cases h
  | either x y =>
   unfold bX at h;dsimp only at h;split at h
   ·cases h; rfl
   ·cases h
  | again b =>
   unfold bX at h;dsimp only at h;split at h
   ·cases h; rfl
   ·cases h
  | call g f x y =>
   unfold bX at h;dsimp only at h;split at h
   ·cases h; rfl
   ·split at h <;> cases h
  | fin w =>
   unfold bX at h;dsimp only at h;split at h <;> cases h
theorem Hy {bs : List (List Stt)} : ∀ (k : Nat) (m : Lm), ∃ x, (cP bs k m).bits = m.bits ++ x
 | 0, m => by
  unfold cP
  split <;> exact ⟨[], by simp [LF.bits]⟩
 | k + 1, m => by
  unfold cP;cases e : m.todo with
  | nil => exact ⟨[], by simp [LF.bits]⟩
  | cons t r =>
   dsimp only;cases q : bX bs t { m with todo := r } with
   | no => exact ⟨[], by simp [LF.bits]⟩
   | non m' =>
    dsimp only;have := FM q;subst this
    split <;> exact ⟨[], by simp [LF.bits]⟩
   | ok blk m' =>
    obtain ⟨x, hx⟩ := Ka q;obtain ⟨y, hy⟩ := Hy k { m' with todo := blk ++ m'.todo }
    refine ⟨x ++ y, ?_⟩
    dsimp only;rw [hy];dsimp only at hx ⊢;rw [hx, cV]
def Ends : LF -> SR -> Prop
 | .fin m', r => ∃ c', r = .ok c' /\ c'.taken = m'.taken /\ c'.deeds = m'.deeds /\ c'.ended = m'.way
 | .long _, _ => True
 | .never _, r => ∃ c', r = .err (-2) c'
 | .short m', r => ∃ c', r = .err (m'.bits.length : Int) c'
 | .no _, _ => False
section
variable {bs : List (List Stt)} {B : List Int} {p : Nat} {many : Int}
theorem Ct {m : Lm} {c : Mc} {q t : Nat} {os : List (Nat × Nat)} {st : Option fT} {w : Int} (h1 : c.bs = bs) (h2 : c.bits = B) (h3 : c.taken = m.taken) (h4 : c.deeds = m.deeds) (h5 : m.todo = flat c.stk) (h6 : callsOf c.stk = os.map Prod.fst) (ho : m.opens = (q, t) :: os) (h7 : c.act = tI bs.length m.opens) (h8 : ∀ o ∈ m.opens, o.1 < bs.length) (h9 : m.opens.Pairwise fun a b => b.2 <= a.2) (h10 : ∀ o ∈ m.opens, o.2 <= m.taken) (h11 : st = none -> c.stk = []) (h12 : st ≠ none -> NP p c.stk) :
  ∃ a, c.act[q]? = some (t :: a) /\ Sim bs B p { m with opens := os, way := w, deeds := m.deeds ++ (if (lJ q st).2.1 then [.cl] else []), todo := gN (if w = 0 then (lJ q st).2.2.1 else (lJ q st).2.2.2) ++ m.todo } (c.leave q a st w) /\ (c.leave q a st w).stk.length <= c.stk.length + 1 := by
 have hq : q < bs.length := h8 (q, t) (by rw [ho]; exact aY ..)
 have hac : c.act[q]? = some (t :: (os.filter fun o => o.1 == q).map (·.2)) := by
  rw [h7, ho, lG hq, mL (by simp)]
  rfl
 have hset : c.act.set q ((os.filter fun o => o.1 == q).map (·.2)) = tI bs.length os := by rw [h7, ho, KC (a := []) hq]
 have hlt : ∀ o ∈ os, o.1 < bs.length := fun o h => h8 o (by rw [ho]; exact aL _ h)
 have hsr : os.Pairwise fun a b => b.2 <= a.2 := by rw [ho] at h9; exact (AA.mp h9).2
 have hle : ∀ o ∈ os, o.2 <= m.taken := fun o h => h10 o (by rw [ho]; exact aL _ h)
 refine ⟨_, hac, ?_, ?_⟩
 ·cases st with
  | none =>
   have hn := h11 rfl;refine ⟨h1, h2, h3, ?_, ?_, h6, hset, hlt, hsr, hle, .inr ⟨hn, rfl⟩⟩
   ·simp [Mc.leave, lJ, h4]
   ·simp [Mc.leave, lJ, h5, gN]
  | some k =>
   have hb := h12 (by simp)
   refine ⟨h1, h2, h3, ?_, ?_, ?_, hset, hlt, hsr, hle, .inl hb⟩
   ·simp only [Mc.leave, lJ, h4]; rfl
   ·simp only [Mc.leave, lJ, flat, List.drop_zero, h5]
   ·simp only [Mc.leave, callsOf, h6]
 ·cases st with
  | none => simp [Mc.leave]
  | some k => simp [Mc.leave]
theorem Ak {c c' : Mc} {i : Int} (hs : c.stk ≠ []) (h : eF c = .err i c') : runM 1 c = .err i c' := by
 rw [runM];cases e : c.stk with
 | nil => exact absurd e hs
 | cons t r => dsimp only; rw [h]
theorem zQ {s : Stt} {m : Lm} (ht : m.taken <= m.bits.length) (h : qW s m = none) : m.taken = m.bits.length := by
 unfold qW at h;split at h
 ·assumption
 ·split at h
  ·cases h
  ·rename_i q
   have := gQ.mp q;omega
theorem drop_cons {l : List Stt} {i : Nat} {s : Stt} (h : l[i]? = some s) : l.drop i = s :: l.drop (i + 1) := by
 have hl := (aG.mp h).1;rw [gP hl]
 congr 1
 exact (aG.mp h).2
theorem EH {k : Nat} {s : Stt} {m m' : Lm} {b : Int} {blk : List LT} (h : qW s m = some (b, m')) (hB : (cP bs k { m' with todo := blk ++ m'.todo }).bits = B) : B[m.taken]? = some b := by
 obtain ⟨_, _, _, _, _, h6, _⟩ := sH h;obtain ⟨y, hy⟩ := Hy (bs := bs) k { m' with todo := blk ++ m'.todo }
 rw [hB] at hy;dsimp only at hy;rw [hy, aM (aG.mp h6).1];exact h6
theorem Sim.ask {s : Stt} {m m' : Lm} {c : Mc} {b : Int} {stk : List Task} {blk : List LT} (S : Sim bs B p m c) (h : qW s { m with todo := td } = some (b, m')) (hf : blk ++ td = flat stk) (hc : callsOf stk = callsOf c.stk) (hbot : NP p stk) : Sim bs B p { m' with todo := blk ++ m'.todo } { c with taken := c.taken + 1, stk := stk } := by
 obtain ⟨h1, h2, h3, h4, h5, _, _⟩ := sH h;dsimp only at h1 h2 h3 h4 h5;refine ⟨S.hbs, S.bits, ?_, ?_, ?_, ?_, ?_, ?_, ?_, ?_, .inl hbot⟩
 ·dsimp only; rw [h5, S.taken]
 ·dsimp only; rw [h2, S.deeds]
 ·dsimp only; rw [h1, hf]
 ·dsimp only; rw [hc, h3, S.calls]
 ·dsimp only; rw [h3, S.act]
 ·dsimp only; rw [h3]; exact S.lt
 ·dsimp only; rw [h3]; exact S.srt
 ·dsimp only; rw [h3, h5]; exact fun o ho => Nat.le_succ_of_le (S.le o ho)
theorem head_mem {m : Lm} {g : Nat} (hg : g < bs.length) (srt : m.opens.Pairwise fun a b => b.2 <= a.2) (le : ∀ o ∈ m.opens, o.2 <= m.taken) : ((m.opens.filter fun o => o.1 == g).map (·.2)).head? = some m.taken ↔ (g, m.taken) ∈ m.opens := by
 constructor
 ·intro h
  cases e : m.opens.filter fun o => o.1 == g with
  | nil => rw [e] at h; cases h
  | cons o r =>
   rw [e] at h;simp at h;have hm : o ∈ m.opens.filter fun o => o.1 == g := by rw [e]; exact aY ..
   obtain ⟨h1, h2⟩ := CW.mp hm;have h2 : o.1 = g := by simpa using h2
   obtain ⟨a, b⟩ := o;simp only at h h2;subst h2 h;exact h1
 ·intro h
  have hm : (g, m.taken) ∈ m.opens.filter fun o => o.1 == g := CW.mpr ⟨h, by simp⟩
  have hp := List.Pairwise.filter (fun o => o.1 == g) srt
  cases e : m.opens.filter fun o => o.1 == g with
  | nil => rw [e] at hm; cases hm
  | cons o r =>
   rw [e] at hm hp;have ho : o ∈ m.opens := (CW.mp (show o ∈ m.opens.filter fun o => o.1 == g by rw [e]; exact aY ..)).1
   have h1 := le o ho;have h2 : m.taken <= o.2 := by
    rcases bH.mp hm with h | h
    ·rw [<- h]; exact bS _
    ·exact (AA.mp hp).1 _ h
   simp;omega
theorem Nc (hm : (bs.length : Int) = many) (hG : ∀ b ∈ bs, BG many b) : ∀ (k : Nat) (m : Lm) (c : Mc), Sim bs B p m c -> m.Inv many k -> (cP bs k m).bits = B -> ∃ j, j <= 4 * k + c.stk.length + 1 /\ Ends (cP bs k m) (runM j c) := by
 intro k
 induction k using Nat.strongRecOn with
 | ind k ih =>
 intro m c S0 I hB;obtain ⟨j0, c1, g1, S, l1, st1⟩ := settle _ c rfl S0
 suffices h : ∃ j, j <= 4 * k + c1.stk.length + 1 /\ Ends (cP bs k m) (runM j c1) by
  obtain ⟨j, h1, h2⟩ := h;exact ⟨j + j0, by omega, by rw [g1]; exact h2⟩
 clear g1 S0 l1;cases hs : c1.stk with
 | nil =>
  have ht : m.todo = [] := by rw [S.todo, hs]; rfl
  have hl : cP bs k m = .fin m := by
   cases k with
   | zero => unfold cP; rw [if_pos ht]
   | succ k => unfold cP; rw [ht]
  rcases S.bot with h | ⟨_, h⟩
  ·rw [hs] at h; exact h.elim
  ·refine ⟨1, by omega, ?_⟩
   rw [hl];refine ⟨c1, ?_, S.taken, S.deeds, h⟩
   rw [runM, hs]
 | cons t r =>
  have hne : c1.stk ≠ [] := by rw [hs]; simp
  have hbot : NP p (t :: r) := by
   rcases S.bot with h | ⟨h, _⟩
   ·rw [hs] at h; exact h
   ·exact absurd h hne
  rw [hs] at st1;have htd := S.todo;have hcl := S.calls;rw [hs] at htd hcl
  -- with no turn left nothing is asked
  cases k with
  | zero =>
   have : m.todo ≠ [] := by
    rw [htd];cases t with
    | lst l i =>
     rw [flat];intro h;have := (List.append_eq_nil_iff.mp h).1;have h2 : (gN (l.drop i)).length = 0 := by rw [this]; rfl
     rw [vB, oJ] at h2;have : i < l.length := st1;omega
    | _ => simp [flat]
   refine ⟨0, by omega, ?_⟩
   unfold cP;rw [if_neg this]
   trivial
  | succ k =>
   -- one step of the machine, one turn of the law
   have go : ∀ {m2 : Lm} {c2 : Mc} {i : Nat}, Goes i c1 c2 -> Sim bs B p m2 c2 -> m2.Inv many k -> (cP bs k m2).bits = B -> i + c2.stk.length <= (t :: r).length + 4 -> ∃ j, j <= 4 * (k + 1) + (t :: r).length + 1 /\ Ends (cP bs k m2) (runM j c1) := fun {m2 c2 i} g s2 i2 b2 hi => by
    obtain ⟨j, h1, h2⟩ := ih k (by omega) m2 c2 s2 i2 b2
    exact ⟨j + i, by omega, by rw [g]; exact h2⟩
   cases t with
   | close =>
    rw [flat] at htd;have I2 := gH (t := .shut) hG (I.pop htd).1 trivial rfl;have hlr : cP bs (k + 1) m = cP bs k { m with todo := flat r, deeds := m.deeds ++ [.cl] } := by
     rw [cP, htd];rfl
    rw [hlr] at hB ⊢;have e : eF c1 = .ok { c1 with stk := r, deeds := c1.deeds ++ [.cl] } := by unfold eF; rw [hs]
    exact go (Goes.step hne e) ⟨S.hbs, S.bits, S.taken, by dsimp only; rw [S.deeds], rfl, hcl, S.act, S.lt, S.srt, S.le, .inl hbot⟩ I2 hB (by simp; omega)
   | call q st =>
    rw [flat] at htd;cases ho : m.opens with
    | nil => rw [ho] at hcl; cases hcl
    | cons o os =>
     obtain ⟨q', t'⟩ := o;rw [ho] at hcl;simp only [callsOf, aK, List.cons.injEq] at hcl;obtain ⟨rfl, hcl⟩ := hcl;obtain ⟨a, h1, h2, h3⟩ := Ct (p := p) (c := { c1 with stk := r }) (m := { m with todo := flat r }) (q := q) (t := t') (os := os) (st := st) (w := 0) S.hbs S.bits S.taken S.deeds rfl hcl ho S.act S.lt S.srt S.le (fun h => by subst h; exact hbot.1) (fun h => by cases st with
      | none => exact absurd rfl h
      | some z => exact hbot)
     have tq : bX bs (.out (lJ q st) 0) { m with todo := flat r } = .ok (gN (if (0 : Int) = 0 then (lJ q st).2.2.1 else (lJ q st).2.2.2)) { m with todo := flat r, opens := os, way := 0, deeds := m.deeds ++ (if (lJ q st).2.1 then [.cl] else []) } := by
      unfold bX;dsimp only;rw [ho]
     have I2 := gH hG (I.pop htd).1 (I.pop htd).2 tq;have hlr : cP bs (k + 1) m = cP bs k { m with opens := os, way := 0, deeds := m.deeds ++ (if (lJ q st).2.1 then [.cl] else []), todo := gN (if (0 : Int) = 0 then (lJ q st).2.2.1 else (lJ q st).2.2.2) ++ flat r } := by
      rw [cP, htd];dsimp only;rw [tq]
     rw [hlr] at hB ⊢;have e : eF c1 = .ok (({ c1 with stk := r } : Mc).leave q a st 0) := by
      unfold eF;rw [hs];dsimp only;rw [show c1.act[q]? = some (t' :: a) from h1]
     exact go (Goes.step hne e) h2 I2 hB (by simp at h3 ⊢; omega)
   | again b =>
    rw [flat] at htd;have hIp := I.pop htd;have hon := hIp.2;cases ql : qW (.again b) { m with todo := flat r } with
    | none =>
     have tq : bX bs (.st (.again b)) { m with todo := flat r } = .non { m with todo := flat r } := by unfold bX; dsimp only; rw [ql]
     have hlr : cP bs (k + 1) m = .short { m with todo := flat r } := by
      rw [cP, htd];dsimp only;rw [tq];rfl
     rw [hlr] at hB ⊢;have htk := zQ (m := { m with todo := flat r }) I.t ql
     have hbn : B = m.bits := hB.symm;have e : eF c1 = .err (c1.taken : Int) { c1 with stk := r } := by
      unfold eF;rw [hs];dsimp only;rw [S.bits, S.taken, hbn, cZ (by dsimp only at htk; omega)]
     refine ⟨1, by omega, ?_⟩
     rw [Ak hne e];exact ⟨_, by rw [S.taken, show m.taken = m.bits.length from htk]⟩
    | some z =>
     obtain ⟨x, m'⟩ := z;have hbit := Bg hIp.1.fit ql;have tq : bX bs (.st (.again b)) { m with todo := flat r } = .ok (if x = 0 then [] else gN b ++ [.st (.again b)]) m' := by unfold bX; dsimp only; rw [ql]
     have I2 := gH hG hIp.1 hIp.2 tq;have hlr : cP bs (k + 1) m = cP bs k { m' with todo := (if x = 0 then [] else gN b ++ [.st (.again b)]) ++ m'.todo } := by
      rw [cP, htd];dsimp only;rw [tq]
     rw [hlr] at hB ⊢;have hx := EH ql hB;dsimp only at hx;rcases hbit with rfl | rfl
     ·have e : eF c1 = .ok { c1 with taken := c1.taken + 1, stk := r } := by
       unfold eF;rw [hs];dsimp only;rw [S.bits, S.taken, hx];rfl
      exact go (Goes.step hne e) (S.ask ql rfl (by rw [hs]; rfl) hbot) I2 hB (by simp; omega)
     ·have e : eF c1 = .ok { c1 with taken := c1.taken + 1, stk := .lst b 0 :: .again b :: r } := by
       unfold eF;rw [hs];dsimp only;rw [S.bits, S.taken, hx];rfl
      exact go (Goes.step hne e) (S.ask ql (by simp [flat]) (by rw [hs]; rfl) hbot) I2 hB (by simp; omega)
   | lst l i =>
    obtain ⟨s, hsi⟩ : ∃ s, l[i]? = some s := ⟨l[i]'st1, bY st1⟩;rw [flat, drop_cons hsi] at htd;have htd : m.todo = .st s :: (gN (l.drop (i + 1)) ++ flat r) := htd;have hIp := I.pop htd;have hon : SG many s := hIp.2;have hst : ∀ {x : SR}, hL s { c1 with stk := .lst l (i + 1) :: r } = x -> eF c1 = x := fun {x} h => by
     unfold eF;rw [hs];dsimp only;rw [hsi];exact h
    have hbot' : NP p (.lst l (i + 1) :: r) := hbot;cases s with
    | bad => obtain ⟨_, _, h, _⟩ := hon; exact h.elim
    | odd x => obtain ⟨_, _, h, _⟩ := hon; exact h.elim
    | cmd z =>
     have I2 := gH (t := .st (.cmd z)) hG hIp.1 hon rfl;have hlr : cP bs (k + 1) m = cP bs k { m with todo := gN (l.drop (i + 1)) ++ flat r, deeds := m.deeds ++ [.cmd z] } := by
      rw [cP, htd];rfl
     rw [hlr] at hB ⊢;exact go (Goes.step hne (hst rfl)) ⟨S.hbs, S.bits, S.taken, by dsimp only; rw [S.deeds], rfl, hcl, S.act, S.lt, S.srt, S.le, .inl hbot'⟩ I2 hB (by simp; omega)
    | keep b =>
     have I2 := gH (t := .st (.keep b)) hG hIp.1 hon rfl;have hlr : cP bs (k + 1) m = cP bs k { m with todo := (gN b ++ [.shut]) ++ (gN (l.drop (i + 1)) ++ flat r), deeds := m.deeds ++ [.op] } := by
      rw [cP, htd];rfl
     rw [hlr] at hB ⊢;exact go (Goes.step hne (hst rfl)) ⟨S.hbs, S.bits, S.taken, by dsimp only; rw [S.deeds], by simp [flat], hcl, S.act, S.lt, S.srt, S.le, .inl hbot'⟩ I2 hB (by simp; omega)
    | either x y =>
     cases ql : qW (.either x y) { m with todo := gN (l.drop (i + 1)) ++ flat r } with
     | none =>
      have tq : bX bs (.st (.either x y)) { m with todo := gN (l.drop (i + 1)) ++ flat r } = .non { m with todo := gN (l.drop (i + 1)) ++ flat r } := by unfold bX; dsimp only; rw [ql]
      have hlr : cP bs (k + 1) m = .short { m with todo := gN (l.drop (i + 1)) ++ flat r } := by
       rw [cP, htd];dsimp only;rw [tq];rfl
      rw [hlr] at hB ⊢;have htk := zQ (m := { m with todo := gN (l.drop (i + 1)) ++ flat r }) I.t ql
      have hbn : B = m.bits := hB.symm;have e : eF c1 = .err (c1.taken : Int) { c1 with stk := .lst l (i + 1) :: r } := hst (by
       unfold hL;dsimp only;rw [S.bits, S.taken, hbn, cZ (by dsimp only at htk; omega)])
      refine ⟨1, by omega, ?_⟩
      rw [Ak hne e];exact ⟨_, by rw [S.taken, show m.taken = m.bits.length from htk]⟩
     | some z =>
      obtain ⟨b, m'⟩ := z;have tq : bX bs (.st (.either x y)) { m with todo := gN (l.drop (i + 1)) ++ flat r } = .ok (gN (if b = 0 then x else y)) m' := by unfold bX; dsimp only; rw [ql]
      have I2 := gH hG hIp.1 hIp.2 tq;have hlr : cP bs (k + 1) m = cP bs k { m' with todo := gN (if b = 0 then x else y) ++ m'.todo } := by
       rw [cP, htd];dsimp only;rw [tq]
      rw [hlr] at hB ⊢;have hx := EH ql hB;dsimp only at hx;have e : eF c1 = .ok { c1 with taken := c1.taken + 1, stk := .lst (if b = 0 then x else y) 0 :: .lst l (i + 1) :: r } := hst (by
       unfold hL;dsimp only;rw [S.bits, S.taken, hx])
      exact go (Goes.step hne e) (S.ask ql (by simp [flat]) (by rw [hs]; rfl) hbot') I2 hB (by simp; omega)
    | again b =>
     have g1 : Goes 1 c1 { c1 with stk := .again b :: .lst l (i + 1) :: r } := Goes.step hne (hst rfl)
     have hne2 : ({ c1 with stk := .again b :: .lst l (i + 1) :: r } : Mc).stk ≠ [] := by simp
     cases ql : qW (.again b) { m with todo := gN (l.drop (i + 1)) ++ flat r } with
     | none =>
      have tq : bX bs (.st (.again b)) { m with todo := gN (l.drop (i + 1)) ++ flat r } = .non { m with todo := gN (l.drop (i + 1)) ++ flat r } := by unfold bX; dsimp only; rw [ql]
      have hlr : cP bs (k + 1) m = .short { m with todo := gN (l.drop (i + 1)) ++ flat r } := by
       rw [cP, htd];dsimp only;rw [tq];rfl
      rw [hlr] at hB ⊢;have htk := zQ (m := { m with todo := gN (l.drop (i + 1)) ++ flat r }) I.t ql
      have hbn : B = m.bits := hB.symm;have e : eF { c1 with stk := .again b :: .lst l (i + 1) :: r } = .err (c1.taken : Int) { c1 with stk := .lst l (i + 1) :: r } := by
       unfold eF;dsimp only;rw [S.bits, S.taken, hbn, cZ (by dsimp only at htk; omega)]
      refine ⟨1 + 1, by omega, ?_⟩
      rw [g1, Ak hne2 e];exact ⟨_, by rw [S.taken, show m.taken = m.bits.length from htk]⟩
     | some z =>
      obtain ⟨x, m'⟩ := z;have hbit := Bg hIp.1.fit ql;have tq : bX bs (.st (.again b)) { m with todo := gN (l.drop (i + 1)) ++ flat r } = .ok (if x = 0 then [] else gN b ++ [.st (.again b)]) m' := by unfold bX; dsimp only; rw [ql]
      have I2 := gH hG hIp.1 hIp.2 tq;have hlr : cP bs (k + 1) m = cP bs k { m' with todo := (if x = 0 then [] else gN b ++ [.st (.again b)]) ++ m'.todo } := by
       rw [cP, htd];dsimp only;rw [tq]
      rw [hlr] at hB ⊢;have hx := EH ql hB;dsimp only at hx;rcases hbit with rfl | rfl
      ·have e : eF { c1 with stk := .again b :: .lst l (i + 1) :: r } = .ok { c1 with taken := c1.taken + 1, stk := .lst l (i + 1) :: r } := by
        unfold eF;dsimp only;rw [S.bits, S.taken, hx];rfl
       exact go (g1.trans (Goes.step hne2 e)) (S.ask ql (by simp [flat]) (by rw [hs]; rfl) hbot') I2 hB (by simp; omega)
      ·have e : eF { c1 with stk := .again b :: .lst l (i + 1) :: r } = .ok { c1 with taken := c1.taken + 1, stk := .lst b 0 :: .again b :: .lst l (i + 1) :: r } := by
        unfold eF;dsimp only;rw [S.bits, S.taken, hx];rfl
       exact go (g1.trans (Goes.step hne2 e)) (S.ask ql (by simp [flat]) (by rw [hs]; rfl) hbot') I2 hB (by simp; omega)
    | call g f x y =>
     obtain ⟨⟨g0, g1⟩, _⟩ := hon.call;have hgl : g.toNat < bs.length := by omega
     obtain ⟨b, hb⟩ : ∃ b, bs[g.toNat]? = some b := ⟨bs[g.toNat], bY hgl⟩;have hac : c1.act[g.toNat]? = some ((m.opens.filter fun o => o.1 == g.toNat).map (·.2)) := by rw [S.act, lG hgl]
     have hh := head_mem (m := m) hgl S.srt S.le
     by_cases hin : (g.toNat, m.taken) ∈ m.opens
     ·have tq : bX bs (.st (.call g f x y)) { m with todo := gN (l.drop (i + 1)) ++ flat r } = .non { m with todo := gN (l.drop (i + 1)) ++ flat r } := by unfold bX; dsimp only; rw [if_pos hin]
      have hlr : cP bs (k + 1) m = .never { m with todo := gN (l.drop (i + 1)) ++ flat r } := by
       rw [cP, htd];dsimp only;rw [tq];rfl
      rw [hlr];have e : eF c1 = .err (-2) { c1 with stk := .lst l (i + 1) :: r, deeds := c1.deeds ++ (if f then [.op] else []) } := hst (by
       unfold hL;dsimp only;rw [hac, S.hbs, hb];dsimp only;rw [if_pos (by rw [S.taken]; exact hh.mpr hin)])
      exact ⟨1, by omega, _, Ak hne e⟩
     ·have tq : bX bs (.st (.call g f x y)) { m with todo := gN (l.drop (i + 1)) ++ flat r } = .ok (gN b ++ [.out (g, f, x, y) 0]) { m with todo := gN (l.drop (i + 1)) ++ flat r, opens := (g.toNat, m.taken) :: m.opens, deeds := m.deeds ++ (if f then [.op] else []) } := by
       unfold bX;dsimp only;rw [if_neg hin, hb]
      have I2 := gH hG hIp.1 hIp.2 tq;have hlr : cP bs (k + 1) m = cP bs k { m with todo := (gN b ++ [.out (g, f, x, y) 0]) ++ (gN (l.drop (i + 1)) ++ flat r), opens := (g.toNat, m.taken) :: m.opens, deeds := m.deeds ++ (if f then [.op] else []) } := by
       rw [cP, htd];dsimp only;rw [tq]
      rw [hlr] at hB ⊢;have e : eF c1 = .ok (({ c1 with stk := .lst l (i + 1) :: r, deeds := c1.deeds ++ (if f then [.op] else []) } : Mc).enter g.toNat ((m.opens.filter fun o => o.1 == g.toNat).map (·.2)) b (some (g, f, x, y))) := hst (by
       unfold hL;dsimp only;rw [hac, S.hbs, hb];dsimp only;rw [if_neg (by rw [S.taken]; exact fun h => hin (hh.mp h))])
      refine go (Goes.step hne e) ⟨S.hbs, S.bits, S.taken, by simp only [Mc.enter, S.deeds], by simp [Mc.enter, flat, lJ], ?_, ?_, ?_, ?_, ?_, .inl hbot'⟩ I2 hB (by simp [Mc.enter]; omega)
      ·simp only [Mc.enter, callsOf, aK]
       rw [<- hcl];rfl
      ·simp only [Mc.enter]
       rw [CB hgl, S.act, S.taken]
      ·intro o ho
       rcases bH.mp ho with rfl | ho
       ·exact hgl
       ·exact S.lt o ho
      ·exact AA.mpr ⟨fun o ho => S.le o ho, S.srt⟩
      ·intro o ho
       rcases bH.mp ho with rfl | ho
       ·exact bS _
       ·exact S.le o ho
    | fin w =>
     obtain ⟨ds, q, st, r', h1, h2, h3, h4, h5, h6⟩ := wX (p := p) (.lst l (i + 1) :: r) c1.deeds hbot';have h2' : kA (gN (l.drop (i + 1)) ++ flat r) = some (ds, lJ q st, flat r') := h2;have tq : bX bs (.st (.fin w)) { m with todo := gN (l.drop (i + 1)) ++ flat r } = .ok [.out (lJ q st) w] { m with todo := flat r', deeds := m.deeds ++ ds } := by
      unfold bX;dsimp only;rw [h2']
     have I2 := gH hG hIp.1 hIp.2 tq;have hlr : cP bs (k + 1) m = cP bs k { m with todo := .out (lJ q st) w :: flat r', deeds := m.deeds ++ ds } := by
      rw [cP, htd];dsimp only;rw [tq];rfl
     rw [hlr] at hB ⊢;cases k with
     | zero =>
      refine ⟨0, by omega, ?_⟩
      unfold cP;rw [if_neg (by simp)]
      trivial
     | succ k =>
      have hcl' : callsOf (.lst l (i + 1) :: r) = m.opens.map Prod.fst := hcl;rw [h3] at hcl';obtain ⟨q', t', os, ho⟩ : ∃ q' t' os, m.opens = (q', t') :: os := by
       cases ho : m.opens with
       | nil => rw [ho] at hcl'; cases hcl'
       | cons o os => exact ⟨o.1, o.2, os, rfl⟩
      ·rw [ho] at hcl'
       simp only [aK, List.cons.injEq] at hcl';obtain ⟨rfl, hcl'⟩ := hcl';obtain ⟨a, e1, e2, e3⟩ := Ct (p := p) (c := { c1 with stk := r', deeds := c1.deeds ++ ds }) (m := { m with todo := flat r', deeds := m.deeds ++ ds }) (q := q) (t := t') (os := os) (st := st) (w := w) S.hbs S.bits S.taken (by dsimp only; rw [S.deeds]) rfl hcl' ho S.act S.lt S.srt S.le h4 h5
       have tq2 : bX bs (.out (lJ q st) w) { m with todo := flat r', deeds := m.deeds ++ ds } = .ok (gN (if w = 0 then (lJ q st).2.2.1 else (lJ q st).2.2.2)) { m with todo := flat r', opens := os, way := w, deeds := m.deeds ++ ds ++ (if (lJ q st).2.1 then [.cl] else []) } := by
        unfold bX;dsimp only;rw [ho]
       have I2' : ({ m with todo := .out (lJ q st) w :: flat r', deeds := m.deeds ++ ds } : Lm).Inv many (k + 1) := I2
       have I3 := gH hG (I2'.pop rfl).1 (I2'.pop rfl).2 tq2;have hlr2 : cP bs (k + 1) { m with todo := .out (lJ q st) w :: flat r', deeds := m.deeds ++ ds } = cP bs k { m with opens := os, way := w, deeds := m.deeds ++ ds ++ (if (lJ q st).2.1 then [.cl] else []), todo := gN (if w = 0 then (lJ q st).2.2.1 else (lJ q st).2.2.2) ++ flat r' } := by
        rw [cP];dsimp only;rw [tq2]
       rw [hlr2] at hB ⊢;have e : eF c1 = .ok (({ c1 with stk := r', deeds := c1.deeds ++ ds } : Mc).leave q a st w) := hst (by
        unfold hL;dsimp only;rw [h1];dsimp only;rw [show c1.act[q]? = some (t' :: a) from e1])
       obtain ⟨j, h7, h8⟩ := ih k (by omega) _ _ e2 I3 hB
       refine ⟨j + 1, ?_, by rw [Goes.step hne e]; exact h8⟩
       simp at h6 e3 h7 ⊢;omega
end
def nest : List LT -> Nat
 | [] => 0
 | .shut :: r => nest r + 1
 | .out c _ :: r => nest r + (if c.2.1 then 1 else 0)
 | .st _ :: r => nest r
theorem nP {r : List LT} : ∀ {l : List Stt}, nest (gN l ++ r) = nest r
 | [] => rfl
 | s :: l => nP (l := l)
structure Bal (n : Nat) (m : Lm) : Prop where
 len : m.deeds.length + nest m.todo <= n
 ok : ∀ d ∈ m.deeds, d.Ok
 nest : ∃ s, jZ m.deeds ⟨unitM, []⟩ = some s /\ s.stk.length = nest m.todo
theorem sP : ∀ {a b : List Deed} {s : Ms}, jZ (a ++ b) s = (jZ a s).bind (jZ b)
 | [], b, s => rfl
 | d :: a, b, s => by
  simp only [bV, jZ];cases uQ d s with
  | none => rfl
  | some s' => exact sP
theorem GF : ∀ {n : Nat} {s : Ms}, n <= s.stk.length -> ∃ s', jZ (bQ n Deed.cl) s = some s' /\ s'.stk.length + n = s.stk.length
 | 0, s, h => ⟨s, rfl, rfl⟩
 | n + 1, s, h => by
  obtain ⟨m, stk⟩ := s;cases stk with
  | nil => simp at h
  | cons P k =>
   obtain ⟨s', h1, h2⟩ := GF (n := n) (s := ⟨qI P (qB m), k⟩) (by simpa using h)
   exact ⟨s', h1, by simp at h2 ⊢; omega⟩
theorem C4 : ∀ {ts : List LT} {ds : List Deed} {c : fT} {r : List LT}, kA ts = some (ds, c, r) -> ds = bQ ds.length .cl /\ nest ts = ds.length + (nest r + (if c.2.1 then 1 else 0))
 | [], ds, c, r, h => by cases h
 | .out c' w :: q, ds, c, r, h => by cases h; exact ⟨rfl, by simp [nest]⟩
 | .shut :: q, ds, c, r, h => by
  simp only [kA] at h;cases e : kA q with
  | none => rw [e] at h; cases h
  | some x =>
   obtain ⟨ds', c', q'⟩ := x;rw [e] at h;cases h;obtain ⟨h1, h2⟩ := C4 e;refine ⟨by rw [aJ, List.replicate_succ, <- h1], ?_⟩
   simp only [nest, h2, aJ];omega
 | .st s :: q, ds, c, r, h => C4 (ts := q) h
theorem vI {N : Nat} {m : Lm} {n : Nat} {td : List LT} (b : Bal N m) (h : nest m.todo = n + nest td) : ({ m with deeds := m.deeds ++ bQ n .cl, todo := td } : Lm) |> Bal N := by
 obtain ⟨len, ok, s, h1, h2⟩ := b;obtain ⟨s', h3, h4⟩ := GF (n := n) (s := s) (by omega)
 refine ⟨by simp; omega, fun d hd => ?_, s', by rw [sP, h1]; exact h3, by dsimp only; omega⟩
 rcases dD.mp hd with hd | hd
 ·exact ok d hd
 ·rw [(List.mem_replicate.mp hd).2]; trivial
theorem Sa {N : Nat} {m : Lm} {f : Bool} {td : List LT} (b : Bal N m) (h : nest m.todo = (if f then 1 else 0) + nest td) : ({ m with deeds := m.deeds ++ (if f then [.cl] else []), todo := td } : Lm) |> Bal N := by
 cases f with
 | true => exact vI (n := 1) b h
 | false => exact vI (n := 0) b h
theorem N7 {N : Nat} {m : Lm} {f : Bool} {td : List LT} (b : Bal N m) (h : nest td = nest m.todo + (if f then 1 else 0)) : ({ m with deeds := m.deeds ++ (if f then [.op] else []), todo := td } : Lm) |> Bal (N + 2) := by
 obtain ⟨len, ok, s, h1, h2⟩ := b;cases f with
 | true =>
  refine ⟨by simp at h ⊢; omega, fun d hd => ?_, ⟨unitM, s.m :: s.stk⟩, by rw [sP, h1]; rfl, by simp at h ⊢; omega⟩
  rcases dD.mp hd with hd | hd
  ·exact ok d hd
  ·rw [bU.mp hd]; trivial
 | false => exact ⟨by simp at h ⊢; omega, by simpa using ok, s, by simpa using h1, by simp at h ⊢; omega⟩
theorem Bal.le {N M : Nat} {m : Lm} (b : Bal N m) (h : N <= M) : Bal M m := ⟨by have := b.len; omega, b.ok, b.nest⟩
theorem yN {N : Nat} {m m' : Lm} (b : Bal N m) (h1 : m'.deeds = m.deeds) (h2 : nest m'.todo = nest m.todo) : Bal N m' := ⟨by rw [h1, h2]; exact b.len, by rw [h1]; exact b.ok, by
 obtain ⟨s, h3, h4⟩ := b.nest;exact ⟨s, by rw [h1]; exact h3, by rw [h2]; exact h4⟩⟩
theorem N6 {N : Nat} {bs : List (List Stt)} {many : Int} {m m' : Lm} {t : LT} {r blk : List LT} (ht : t.Ok many) (b : Bal N m) (e : m.todo = t :: r) (h : bX bs t { m with todo := r } = .ok blk m') : Bal (N + 2) { m' with todo := blk ++ m'.todo } := by
 cases t with
 | shut =>
  cases h;refine Bal.le (N := N) ?_ (by omega)
  exact vI (n := 1) (td := r) b (by rw [e, nest]; omega)
 | out c w =>
  unfold bX at h;dsimp only at h;split at h
  ·cases h
   have := Sa (f := c.2.1) (td := gN (if w = 0 then c.2.2.1 else c.2.2.2) ++ r) b (by rw [e, nest, nP]; omega)
   refine Bal.le (N := N) ?_ (by omega)
   exact yN this rfl rfl
  ·cases h
 | st s =>
  cases s with
  | bad => cases h
  | odd x => cases h
  | cmd c =>
   cases h;obtain ⟨len, ok, s, h1, h2⟩ := b;rw [e, nest] at len;refine ⟨by simp; omega, fun d hd => ?_, ⟨qI s.m c.mat, s.stk⟩, by rw [sP, h1]; rfl, by rw [e, nest] at h2; exact h2⟩
   rcases dD.mp hd with hd | hd
   ·exact ok d hd
   ·rw [bU.mp hd]; exact SG.cmd ht
  | keep b' =>
   cases h;have := N7 (f := true) (td := gN b' ++ [.shut] ++ r) b (by rw [e, cV, nP]; simp [nest])
   exact this
  | either x y =>
   unfold bX at h;dsimp only at h;split at h
   ·cases h
   ·rename_i q
    cases h;obtain ⟨h1, h2, _⟩ := sH q;refine Bal.le (N := N) ?_ (by omega)
    exact yN b h2 (by dsimp only; rw [nP, h1, e, nest])
  | again b' =>
   unfold bX at h;dsimp only at h;split at h
   ·cases h
   ·rename_i q
    cases h;obtain ⟨h1, h2, _⟩ := sH q;refine Bal.le (N := N) (yN b h2 ?_) (by omega)
    dsimp only;rw [h1, e];split
    ·rfl
    ·rw [cV, nP]; rfl
  | call g f x y =>
   unfold bX at h;dsimp only at h;split at h
   ·cases h
   ·split at h
    ·rename_i z hz
     cases h;have := N7 (f := f) (td := gN z ++ [.out (g, f, x, y) 0] ++ r) b (by rw [e, cV, nP]; simp [nest])
     exact yN this rfl rfl
    ·cases h
  | fin w =>
   unfold bX at h;dsimp only at h;split at h
   ·rename_i ds c r' q
    cases h;obtain ⟨h1, h2⟩ := C4 q;rw [h1];refine Bal.le (N := N) ?_ (by omega)
    exact vI (n := ds.length) (td := [.out c w] ++ r') b (by rw [e]; simp only [bV, bL, nest]; exact h2)
   ·cases h
theorem IB {bs : List (List Stt)} {many : Int} (hG : ∀ b ∈ bs, BG many b) : ∀ (k : Nat) (m : Lm) (N : Nat), m.Inv many k -> Bal N m -> ∀ m', cP bs k m = .fin m' -> Bal (N + 2 * k) m' /\ m'.Inv many 0 /\ m'.todo = []
 | 0, m, N, I, b, m', h => by
  unfold cP at h;split at h
  ·cases h; exact ⟨b, I, by assumption⟩
  ·cases h
 | k + 1, m, N, I, b, m', h => by
  unfold cP at h;split at h
  ·rename_i q
   cases h;exact ⟨b.le (by omega), ⟨I.T, I.bit, I.t, by have := I.b; omega, by have := I.o; omega, by have := I.d; omega⟩, q⟩
  ·rename_i t r q
   split at h
   ·rename_i q2
    have := IB hG k _ (N + 2) (gH hG (I.pop q).1 (I.pop q).2 q2) (N6 (I.pop q).2 b q q2) _ h;exact ⟨this.1.le (by omega), this.2⟩
   ·split at h <;> cases h
   ·cases h
structure Ran (N : Nat) (m : Lm) : Prop where
 ok : ∀ d ∈ m.deeds, d.Ok
 len : m.deeds.length <= N
 mat : ∃ s, jZ m.deeds ⟨unitM, []⟩ = some s /\ s.stk = []
 bit : ∀ b ∈ m.bits, b = 0 \/ b = 1
 bits : m.bits.length < 90000
 tk : m.taken <= m.bits.length
def Says (N : Nat) (bs : List (List Stt)) (p : Nat) : LF -> Prop
 | .fin m => Ran N m /\ ∀ S, LS S -> cH [.dat (iZ bs), .dat (.int (p : Int)), .dat (.lst (m.bits.map D.int))] S = if m.taken < m.bits.length then .err (uC (m.taken : Int)) S else .ok (.dat (.tup [.int m.way, .lst (m.deeds.map Deed.d)])) S
 | .never m => ∀ S, LS S -> cH [.dat (iZ bs), .dat (.int (p : Int)), .dat (.lst (m.bits.map D.int))] S = .err (uC (-2)) S
 | .short m => ∀ S, LS S -> cH [.dat (iZ bs), .dat (.int (p : Int)), .dat (.lst (m.bits.map D.int))] S = .err (uC (m.bits.length : Int)) S
 | .long _ => True
 | .no _ => False
theorem Ran.le {N M : Nat} {m : Lm} (h : Ran N m) (k : N <= M) : Ran M m := ⟨h.ok, dF h.len k, h.mat, h.bit, h.bits, h.tk⟩
theorem Says.le {N M : Nat} {bs : List (List Stt)} {p : Nat} {x : LF} (h : Says N bs p x) (k : N <= M) : Says M bs p x := by
 cases x with
 | fin m => exact ⟨h.1.le k, h.2⟩
 | _ => exact h
theorem I7 {bs : List (List Stt)} {many : Int} (hG : ∀ b ∈ bs, BG many b) : ∀ (k : Nat) (m : Lm), m.Inv many k -> ∀ b ∈ (cP bs k m).bits, b = 0 \/ b = 1
 | 0, m, I => by
  unfold cP
  split <;> exact I.bit
 | k + 1, m, I => by
  unfold cP;split
  ·exact I.bit
  ·rename_i t r q
   split
   ·rename_i q2
    exact I7 hG k _ (gH hG (I.pop q).1 (I.pop q).2 q2)
   ·rename_i q2
    have := FM q2;subst this
    split <;> exact I.bit
   ·exact I.bit
theorem FC {z : Pen} {w n : Int} : (D.tup [.int w, z.d, .int n]).Pl /\ (D.tup [.int w, z.d, .int n]).ht < 20 := ⟨⟨by simp, trivial, ⟨by simp [Pen.ds], trivial, trivial, trivial, trivial, trivial, trivial, trivial⟩, trivial, trivial⟩, by simp only [D.ht, D.hts]; decide⟩
theorem LJ {M : List Int} {w n : Int} (h : M.length = 49) : (D.tup [.int w, mD M, .int n]).Pl /\ (D.tup [.int w, mD M, .int n]).ht < 20 := ⟨⟨by simp, trivial, ⟨by simp [h], (Aq M).1⟩, trivial, trivial⟩, by simp only [D.ht, D.hts, mD, (Aq M).2]; decide⟩
structure RunOf (N : Nat) (m : Lm) (p' : Pen -> Ps) (M : List Int) : Prop where
 ok : ∀ d ∈ m.deeds, d.Ok
 len : m.deeds.length <= N
 big : N <= 90000
 mat : ∃ s, jZ m.deeds ⟨unitM, []⟩ = some s /\ s.stk = [] /\ s.m = M
 pens : ∀ z, jY m.deeds ⟨[], z, []⟩ = some (p' z)
 of : MatOf (fun z => (p' z).z) M
 num : ∀ z, (p' z).pens.length = mS m.deeds
theorem Ran.all {N : Nat} {m : Lm} (R : Ran N m) (hN : N <= 90000 := by decide) : ∃ p' M, RunOf N m p' M := by
 obtain ⟨s, hm, hk⟩ := R.mat;obtain ⟨p', hp, hM, hn⟩ := K0 R.ok hm hk;exact ⟨p', s.m, R.ok, R.len, hN, ⟨s, hm, hk, rfl⟩, hp, hM, hn⟩
section
variable {N : Nat} {m : Lm} {p' : Pen -> Ps} {M : List Int} {S : aQ} {x0 x1 x2 : Vl}
theorem RunOf.ran (R : RunOf N m p' M) (ls : LS S) (ex : cH [x0, x1, x2] S = .ok (.dat (.tup [.int m.way, .lst (m.deeds.map Deed.d)])) S) (z : Pen) : FQ [x0, x1, x2, .dat z.d] S = .ok (.dat (.tup [.int m.way, (p' z).z.d, .int (mS m.deeds : Int)])) S := by
 have := R.len;have := R.big;rw [Qn (z := z) ls ex R.ok (R.pens z) (by omega), R.num]
theorem RunOf.lpens (R : RunOf N m p' M) (ls : LS S) (z : Pen) : pH [.dat (.lst (m.deeds.map Deed.l)), .dat z.d] S = .ok (.dat (.lst [.lst ((p' z).pens.map Pen.d), (p' z).z.d])) S := by
 have := R.len;have := R.big;exact FV ls R.ok (R.pens z) (by omega)
theorem RunOf.rm (R : RunOf N m p' M) (ls : LS S) (ex : cH [x0, x1, x2] S = .ok (.dat (.tup [.int m.way, .lst (m.deeds.map Deed.d)])) S) : lN [x0, x1, x2] S = .ok (.dat (.tup [.int m.way, mD M, .int (mS m.deeds : Int)])) S := by
 have := R.len;have := R.big;obtain ⟨s, h1, h2, rfl⟩ := R.mat;exact rm_ok ls ex R.ok h1 (by omega)
theorem RunOf.probe (R : RunOf N m p' M) (ls : LS S) : rL [.dat (.lst (m.deeds.map Deed.l))] S = .ok (.dat (mD M)) S := by
 have := R.len;have := R.big;rw [L1 ls R.ok R.pens (by omega), L3 R.of]
end
theorem O8 {k : List Int} : LS [PL k] := fun c hc n => by rw [bU.mp hc]; rfl
theorem PX {S : aQ} {ks : List Int} {p : Nat} (h : PoolAt S p ks) : fF (.cel p) S = .ok (.dat (.int (ks.length : Int))) S := by rw [pO h.1, aN]
structure Bk4 (bs : List (List Stt)) : Prop where
 l1 : 1 <= bs.length
 l3 : bs.length <= 3
 ok : ∀ b ∈ bs, OkL (bs.length : Int) b 3
 bg : ∀ b ∈ bs, BG (bs.length : Int) b
theorem Mn {S0 : aQ} {bs : List (List Stt)} {bits : List Int} {p k : Nat} {b : List Stt} (ls : LS S0) (G : Bk4 bs) (hb : bs[p]? = some b) (hbits : ∀ b ∈ bits, b = 0 \/ b = 1) (hk : k <= 100000) (hr : runM k (startM bs bits p b) ≠ .no) :
  cH [.dat (iZ bs), .dat (.int (p : Int)), .dat (.lst (bits.map D.int))] S0 = NB (runM k (startM bs bits p b)) S0 := by
 have hp := (aG.mp hb).1;have hl3 := G.l3;have hl : bs.length <= 10 := by omega
 have lsb : (S0.all fun c => c.below S0.length) = true := cF.mpr fun c hc => ls c hc _
 have e1 := G3 (S0 := S0) (m := vN bs bits) (p := p) (a := []) (b := b) (st := none) ⟨by simp [vN], by simp [vN], fun a h => by simp [vN] at h; obtain ⟨_, rfl⟩ := h; simp⟩ (by simp [vN, hp]) hb (fun a k h => by simp [vN, hp] at h)
 have hB : ∀ b ∈ bs, NG (bs.length : Int) b := fun b hb => (G.ok b hb).b
 have hi := yE (S0 := S0) (m := vN bs bits) (f := "enter") (by decide)
 have hib : ∀ S, pM S "Book" "bodies" (.dat (iZ bs)) = true := fun _ => rfl
 have lp := F4 (S0 := S0) (many := (bs.length : Int)) (a := some (.dat (iZ bs))) (b := some (.dat (.int (p : Int)))) (c := some (.dat (.lst (bits.map D.int)))) (d := none) (e := none) k 1000000 (startM bs bits p b) (by omega) hB (fun t ht => by
  simp only [startM, Mc.enter, vN, bH, List.not_mem_nil, or_false] at ht;rcases ht with rfl | rfl
  ·exact hB b (bI hb)
  ·trivial) ⟨eL _, hbits⟩ (by simp [startM, Mc.enter, vN]; omega) (fun a ha => by
  have ha' : a ∈ (bQ bs.length ([] : List Nat)).set p [0] := ha;rcases ET ha' with h | h
  ·rw [(List.mem_replicate.mp h).2]; simp; omega
  ·rw [h]; simp; omega)
 rw [CF];unfold mF;simp! [Lx hl, decide_eq_true (show (0 : Int) <= (p : Int) by omega), decide_eq_true (show (p : Int) < (bs.length : Int) by omega), DP bits 0 hbits, iI (hib S0), KA G.ok (show 3 <= 9 by omega) hl, ON hl, iI hi, show D.non = Ht none from rfl, e1, zO]
 rw [show eB S0 ((vN bs bits).enter p [] b none) = eB S0 (startM bs bits p b) from rfl]
 revert lp hr
 cases q : runM k (startM bs bits p b) with
 | no => intro hr; exact absurd rfl hr
 | err i m' =>
  intro _ lp;obtain ⟨ρ', e2⟩ := lp;simp! [e2];dsimp only [cL, trunc, NB];rw [EB, if_pos lsb]
 | ok m' =>
  intro _ e2;have e2' : _ = _ := e2;have hbits' : m'.bits = bits := (BP q).1;simp! [e2', nW, aN]
  by_cases ht : m'.taken < m'.bits.length
  ·simp! [decide_eq_true (show ((m'.taken : Nat) : Int) < (bits.length : Int) by rw [<- hbits']; omega), nW]
   dsimp only [cL, trunc, NB];rw [EB, if_pos lsb, if_pos ht];rfl
  ·simp! [decide_eq_false (show ¬ ((m'.taken : Nat) : Int) < (bits.length : Int) by rw [<- hbits']; omega), Ma, pR, oC (Bv (S0 := S0) (m := m'))]
   dsimp only [cL, trunc, NB];rw [take_set (by omega), EB, if_neg ht, show (Vl.below S0.length (Vl.dat (D.tup [D.int m'.ended, D.lst (m'.deeds.map Deed.d)])) && S0.all fun c => c.below S0.length) = true by rw [lsb]; rfl, if_pos rfl]
theorem JP {bs : List (List Stt)} {p ex K : Nat} {bits : List Int} (G : Bk4 bs) (hp : p < bs.length) (hb : ∀ b ∈ bits, b = 0 \/ b = 1) (hl : bits.length < 40000) (hK : K <= 20000) :
  (∀ m, cP bs (K + 1) (fW p bits ex) ≠ .no m) /\ Says (2 * K) bs p (cP bs (K + 1) (fW p bits ex)) := by
 have hG := G.bg;have h3 := G.l3;obtain ⟨b, hpb⟩ : ∃ b, bs[p]? = some b := ⟨bs[p], bY hp⟩;have I := D2 (ex := ex) (many := (bs.length : Int)) (p := p) (k := K + 1) (by omega) hb hl (by omega)
 have tq : bX bs (.st (.call (p : Int) false [] [])) { (fW p bits ex) with todo := [] } = .ok (gN b ++ [.out ((p : Int), false, [], []) 0]) { (fW p bits ex) with todo := [], opens := [(p, 0)] } := by
  unfold bX;dsimp only;rw [jV, hpb];rfl
 have I1 := gH hG (I.pop rfl).1 (I.pop rfl).2 tq;have hlr : cP bs (K + 1) (fW p bits ex) = cP bs K { (fW p bits ex) with todo := (gN b ++ [.out ((p : Int), false, [], []) 0]) ++ [], opens := [(p, 0)] } := by
  rw [cP]
  show (match bX bs (.st (.call (p : Int) false [] [])) { (fW p bits ex) with todo := [] } with
   | .ok blk m' => cP bs K { m' with todo := blk ++ m'.todo }
   | .non m' => if isCall (.st (.call (p : Int) false [] [])) = true then .never m' else .short m'
   | .no => .no (fW p bits ex)) = _
  rw [tq]
 have S1 : Sim bs (cP bs (K + 1) (fW p bits ex)).bits p { (fW p bits ex) with todo := (gN b ++ [.out ((p : Int), false, [], []) 0]) ++ [], opens := [(p, 0)] } (startM bs (cP bs (K + 1) (fW p bits ex)).bits p b) := by
  refine ⟨rfl, rfl, rfl, rfl, ?_, rfl, ?_, ?_, ?_, ?_, .inl ⟨rfl, rfl⟩⟩
  ·simp [startM, Mc.enter, vN, flat, lJ]
  ·rw [CB hp]
   simp [startM, Mc.enter, vN, tI]
   congr 1
   apply gS
   intro i
   by_cases hi : i < bs.length <;> simp [hi]
  ·intro o ho
   rw [bU.mp ho];exact hp
  ·exact List.pairwise_singleton _ _
  ·intro o ho
   rw [bU.mp ho];exact eL _
 obtain ⟨j, hj, he⟩ := Nc rfl hG K _ _ S1 I1 (by rw [<- hlr])
 rw [<- hlr] at he;have hj' : j <= 100000 := by
  have : (startM bs (cP bs (K + 1) (fW p bits ex)).bits p b).stk.length = 2 := rfl;omega
 have hbit := I7 hG (K + 1) _ I;have B1 : Bal 0 { (fW p bits ex) with todo := (gN b ++ [.out ((p : Int), false, [], []) 0]) ++ [], opens := [(p, 0)] } := ⟨by dsimp only; rw [cS, nP]; exact bS _, fun d hd => (by cases hd), ⟨unitM, []⟩, rfl, by dsimp only; rw [cS, nP]; rfl⟩
 have hbal := IB hG K _ 0 I1 B1;rw [<- hlr] at hbal;have xq := fun (S : aQ) (ls : LS S) h => Mn (S0 := S) (k := j) (bits := (cP bs (K + 1) (fW p bits ex)).bits) ls G hpb hbit hj' h
 have key : (∀ m, cP bs (K + 1) (fW p bits ex) ≠ .no m) /\ Says (2 * K) bs p (cP bs (K + 1) (fW p bits ex)) := by
  revert he xq hbit hbal
  generalize cP bs (K + 1) (fW p bits ex) = x;intro he hbit hbal xq;cases x with
  | no m => exact he.elim
  | long m => exact ⟨fun m h => (by cases h), trivial⟩
  | never m =>
   obtain ⟨c', e⟩ := he;refine ⟨fun m h => (by cases h), fun S ls => ?_⟩
   have := xq S ls (by simp only [LF.bits] at e ⊢; rw [e]; intro h; cases h)
   simp only [LF.bits] at this e;rw [e] at this;exact this
  | short m =>
   obtain ⟨c', e⟩ := he;refine ⟨fun m h => (by cases h), fun S ls => ?_⟩
   have := xq S ls (by simp only [LF.bits] at e ⊢; rw [e]; intro h; cases h)
   simp only [LF.bits] at this e;rw [e] at this;exact this
  | fin m =>
   obtain ⟨c', e, e1, e2, e3⟩ := he;obtain ⟨b1, i1, t1⟩ := hbal _ rfl;obtain ⟨s, hs1, hs2⟩ := b1.nest;refine ⟨fun m h => (by cases h), ⟨b1.ok, by have := b1.len; omega, ⟨s, hs1, by rw [t1] at hs2; exact List.length_eq_zero_iff.mp hs2⟩, hbit, by have := i1.b; simp at this; omega, i1.t⟩, fun S ls => ?_⟩
   have h := xq S ls (by simp only [LF.bits] at e ⊢; rw [e]; intro h; cases h)
   simp only [LF.bits] at h e;rw [e] at h;rw [h];have hb' := (BP e).1;unfold NB;dsimp only;rw [hb', e1, e2, e3];rfl
 exact key
theorem Gh {S : aQ} {bs : List (List Stt)} {p ex : Nat} {bits : List Int} (ls : LS S) (G : Bk4 bs) (hp : p < bs.length) (hb : ∀ b ∈ bits, b = 0 \/ b = 1) (hl : bits.length < 40000) :
  sD [.dat (.lst (bls bs)), .dat (.int (p : Int)), .dat (.lst (bits.map D.int)), .dat (.int (ex : Int))] S = Bs (cP bs 3000 (fW p bits ex)) S /\ Says 6000 bs p (cP bs 3000 (fW p bits ex)) := by
 have h3 := G.l3;have key := JP (ex := ex) (K := 2999) G hp hb hl (by decide)
 exact ⟨O9 ls (by omega) G.bg (by omega) hb hl key.1, key.2.le (by decide)⟩
def Turns (bs : List (List Stt)) (j : Nat) (m m' : Lm) : Prop := ∀ k, cP bs (k + j) m = cP bs k m'
theorem Turns.refl {bs : List (List Stt)} {m : Lm} : Turns bs 0 m m := fun k => rfl
theorem Turns.trans {bs : List (List Stt)} {i j : Nat} {a b c : Lm} (h : Turns bs i a b) (k : Turns bs j b c) : Turns bs (i + j) a c := fun n => by
 rw [show n + (i + j) = (n + j) + i by omega, h, k]
theorem Turns.one {bs : List (List Stt)} {m m' : Lm} {t : LT} {r blk : List LT} (e : m.todo = t :: r) (h : bX bs t { m with todo := r } = .ok blk m') : Turns bs 1 m { m' with todo := blk ++ m'.todo } := fun k => by
 rw [cP, e];dsimp only;rw [h]
theorem LQ {bs : List (List Stt)} {k : Nat} {m : Lm} (e : m.todo = []) : cP bs k m = .fin m := by
 cases k with
 | zero => unfold cP; rw [if_pos e]
 | succ k => unfold cP; rw [e]
theorem OB {s : Stt} {m : Lm} {b : Int} (h : m.bits[m.taken]? = some b) : qW s m = some (b, { m with taken := m.taken + 1 }) := by
 have := (aG.mp h).1;unfold qW;rw [if_neg (by omega), h]
def gD (c0 c1 c2 : Cmd) (s0 : Bool) (e : Int) : List Stt := [.cmd c0, .call 0 s0 [.cmd c1] [.cmd c2], .fin e]
def gC (c3 c4 c5 : Cmd) (s1 : Bool) : List Stt := [.cmd c3, .call 0 s1 [] [.cmd c4], .cmd c5]
def oW (one oth : List Stt) : List (List Stt) := [[.either [] [.either one oth]]]
def eC : List Int -> List Int
 | [] => [0]
 | d :: r => 1 :: d :: eC r
theorem C7 : ∀ ds, (eC ds).length = 2 * ds.length + 1
 | [] => rfl
 | d :: r => by
  have := C7 r
  show (eC r).length + 1 + 1 = 2 * (r.length + 1) + 1
  omega
theorem C8 : ∀ {ds : List Int}, (∀ d ∈ ds, d = 0 \/ d = 1) -> ∀ b ∈ eC ds, b = 0 \/ b = 1
 | [], _, b, hb => .inl (bU.mp hb)
 | d :: r, h, b, hb => by
  rcases bH.mp hb with rfl | hb
  ·exact .inr rfl
  ·rcases bH.mp hb with rfl | hb
   ·exact h _ (aY ..)
   ·exact C8 (fun d hd => h d (aL _ hd)) b hb
section
variable {bs : List (List Stt)} {B : List Int} {u : Nat} {w w1 : Int} {D : List Deed} {O : List (Nat × Nat)} {tail : List LT}
theorem GE {c : Cmd} : Turns bs 1 ⟨B, 0, u, w, D, O, .st (.cmd c) :: tail⟩ ⟨B, 0, u, w, D ++ [.cmd c], O, tail⟩ :=
 Turns.one (m := ⟨B, 0, u, w, D, O, .st (.cmd c) :: tail⟩) (blk := []) (m' := ⟨B, 0, u, w, D ++ [.cmd c], O, tail⟩) rfl rfl
theorem L7 {q : Nat × Nat} {g : Int} {f : Bool} {x y : List Stt} : Turns bs 1 ⟨B, 0, u, w1, D, q :: O, .out (g, f, x, y) w :: tail⟩ ⟨B, 0, u, w, D ++ (if f then [.cl] else []), O, gN (if w = 0 then x else y) ++ tail⟩ :=
 Turns.one (m := ⟨B, 0, u, w1, D, q :: O, .out (g, f, x, y) w :: tail⟩) rfl rfl
theorem fin_t {c : fT} {e : Int} : Turns bs 1 ⟨B, 0, u, w1, D, O, .st (.fin e) :: .out c w :: tail⟩ ⟨B, 0, u, w1, D, O, .out c e :: tail⟩ := by
 have := Turns.one (bs := bs) (m := ⟨B, 0, u, w1, D, O, .st (.fin e) :: .out c w :: tail⟩) (t := .st (.fin e)) (r := .out c w :: tail) (blk := [.out c e]) (m' := ⟨B, 0, u, w1, D ++ [], O, tail⟩) rfl rfl;rw [cS] at this;exact this
theorem Bx {a c : List Stt} {d : Int} (h : B[u]? = some d) : Turns bs 1 ⟨B, 0, u, w, D, O, .st (.either a c) :: tail⟩ ⟨B, 0, u + 1, w, D, O, gN (if d = 0 then a else c) ++ tail⟩ := by
 have tq : bX bs (.st (.either a c)) ⟨B, 0, u, w, D, O, tail⟩ = .ok (gN (if d = 0 then a else c)) ⟨B, 0, u + 1, w, D, O, tail⟩ := by
  unfold bX;dsimp only;rw [OB (m := ⟨B, 0, u, w, D, O, tail⟩) h]
 exact Turns.one (m := ⟨B, 0, u, w, D, O, .st (.either a c) :: tail⟩) rfl tq
theorem Mz {b : List Stt} {f : Bool} {x y : List Stt} (hb : bs[0]? = some b) (hO : ∀ q ∈ O, q.2 < u) : Turns bs 1 ⟨B, 0, u, w, D, O, .st (.call 0 f x y) :: tail⟩ ⟨B, 0, u, w, D ++ (if f then [.op] else []), (0, u) :: O, gN b ++ .out (0, f, x, y) 0 :: tail⟩ := by
 have tq : bX bs (.st (.call 0 f x y)) ⟨B, 0, u, w, D, O, tail⟩ = .ok (gN b ++ [.out (0, f, x, y) 0]) ⟨B, 0, u, w, D ++ (if f then [.op] else []), (0, u) :: O, tail⟩ := by
  unfold bX;dsimp only;rw [show (0 : Int).toNat = 0 from rfl, if_neg (fun hh => by have := hO _ hh; simp at this), hb]
 have := Turns.one (m := ⟨B, 0, u, w, D, O, .st (.call 0 f x y) :: tail⟩) rfl tq
 simpa using this
end
theorem Dl (f : Bool) (x : Deed) : (if f then [x] else []).length <= 1 := by cases f <;> simp
theorem deep {c0 c1 c2 c3 c4 c5 : Cmd} {s0 s1 : Bool} {e : Int} (he : e = 0 \/ e = 1) : ∀ (ds : List Int), (∀ d ∈ ds, d = 0 \/ d = 1) -> ∀ (B pre post : List Int) (u : Nat) (w0 : Int) (D : List Deed) (O : List (Nat × Nat)) (f : Bool) (x y : List Stt) (tail : List LT), B = pre ++ (eC ds ++ post) -> u = pre.length -> (∀ q ∈ O, q.2 < u) ->
  ∃ (j : Nat) (w : Int) (E : List Deed), j <= 7 * ds.length + 3 /\ (w = 0 \/ w = 1) /\ E.length <= 5 * ds.length + 2 /\ Turns (oW (gD c0 c1 c2 s0 e) (gC c3 c4 c5 s1)) j ⟨B, 0, u, w0, D, O, .st (.call 0 f x y) :: tail⟩ ⟨B, 0, u + (eC ds).length, w, D ++ E, O, gN (if w = 0 then x else y) ++ tail⟩
 | [], _, B, pre, post, u, w0, D, O, f, x, y, tail, hB, hu, hO => by
  have b0 : B[u]? = some 0 := by rw [hB, hu]; simp [eC]
  have t1 := Mz (bs := oW (gD c0 c1 c2 s0 e) (gC c3 c4 c5 s1)) (B := B) (w := w0) (D := D) (f := f) (x := x) (y := y) (tail := tail) rfl hO;have t2 := Bx (bs := oW (gD c0 c1 c2 s0 e) (gC c3 c4 c5 s1)) (w := w0) (D := D ++ (if f then [.op] else [])) (O := (0, u) :: O) (a := []) (c := [.either (gD c0 c1 c2 s0 e) (gC c3 c4 c5 s1)]) (tail := .out (0, f, x, y) 0 :: tail) b0
  have t3 := L7 (bs := oW (gD c0 c1 c2 s0 e) (gC c3 c4 c5 s1)) (B := B) (u := u + 1) (w := 0) (w1 := w0) (D := D ++ (if f then [.op] else [])) (O := O) (q := (0, u)) (g := 0) (f := f) (x := x) (y := y) (tail := tail)
  refine ⟨3, 0, (if f then [.op] else []) ++ (if f then [.cl] else []), by show 3 <= 0 + 3; omega, .inl rfl, ?_, ?_⟩
  ·rw [bF]
   have := Dl f .op;have := Dl f .cl
   show _ <= 0 + 2
   omega
  ·rw [<- cV]
   exact (t1.trans t2).trans t3
 | d :: ds, hd, B, pre, post, u, w0, D, O, f, x, y, tail, hB, hu, hO => by
  have hd' := fun z hz => hd z (aL _ hz)
  have b1 : B[u]? = some 1 := by rw [hB, hu]; simp [eC]
  have b2 : B[u + 1]? = some d := by rw [hB, hu, aX (by omega), show pre.length + 1 - pre.length = 1 by omega]; rfl
  have t1 := Mz (bs := oW (gD c0 c1 c2 s0 e) (gC c3 c4 c5 s1)) (B := B) (w := w0) (D := D) (f := f) (x := x) (y := y) (tail := tail) rfl hO;have t2 := Bx (bs := oW (gD c0 c1 c2 s0 e) (gC c3 c4 c5 s1)) (w := w0) (D := D ++ (if f then [.op] else [])) (O := (0, u) :: O) (a := []) (c := [.either (gD c0 c1 c2 s0 e) (gC c3 c4 c5 s1)]) (tail := .out (0, f, x, y) 0 :: tail) b1
  have t3 := Bx (bs := oW (gD c0 c1 c2 s0 e) (gC c3 c4 c5 s1)) (w := w0) (D := D ++ (if f then [.op] else [])) (O := (0, u) :: O) (a := gD c0 c1 c2 s0 e) (c := gC c3 c4 c5 s1) (tail := .out (0, f, x, y) 0 :: tail) b2
  have hB2 : B = (pre ++ [1, d]) ++ (eC ds ++ post) := by rw [hB]; simp [eC]
  have hu2 : u + 1 + 1 = (pre ++ [1, d]).length := by rw [hu]; simp
  have hO2 : ∀ q ∈ (0, u) :: O, q.2 < u + 1 + 1 := fun q hq => by
   rcases bH.mp hq with rfl | hq
   ·show u < u + 1 + 1; omega
   ·have := hO q hq; omega
  have o1 := Dl f .op;have o2 := Dl f .cl;have lb : u + (eC (d :: ds)).length = u + 1 + 1 + (eC ds).length := by show u + ((eC ds).length + 1 + 1) = _; omega
  rcases hd d (aY ..) with rfl | rfl
  ·-- the first choice
   have t4 := GE (bs := oW (gD c0 c1 c2 s0 e) (gC c3 c4 c5 s1)) (B := B) (u := u + 1 + 1) (w := w0) (D := D ++ (if f then [.op] else [])) (O := (0, u) :: O) (c := c0) (tail := .st (.call 0 s0 [.cmd c1] [.cmd c2]) :: .st (.fin e) :: .out (0, f, x, y) 0 :: tail)
   obtain ⟨j, w, E, hj, hw, hE, t5⟩ := deep (c0 := c0) (c1 := c1) (c2 := c2) (c3 := c3) (c4 := c4) (c5 := c5) (s0 := s0) (s1 := s1) he ds hd' B (pre ++ [1, 0]) post (u + 1 + 1) w0 (D ++ (if f then [.op] else []) ++ [.cmd c0]) ((0, u) :: O) s0 [.cmd c1] [.cmd c2] (.st (.fin e) :: .out (0, f, x, y) 0 :: tail) hB2 hu2 hO2
   obtain ⟨cc, hcc⟩ : ∃ cc : Cmd, (if w = 0 then [Stt.cmd c1] else [Stt.cmd c2]) = [.cmd cc] := by
    rcases hw with rfl | rfl
    ·exact ⟨c1, rfl⟩
    ·exact ⟨c2, rfl⟩
   rw [hcc] at t5;have t6 := GE (bs := oW (gD c0 c1 c2 s0 e) (gC c3 c4 c5 s1)) (B := B) (u := u + 1 + 1 + (eC ds).length) (w := w) (D := D ++ (if f then [.op] else []) ++ [.cmd c0] ++ E) (O := (0, u) :: O) (c := cc) (tail := .st (.fin e) :: .out (0, f, x, y) 0 :: tail)
   have t7 := fin_t (bs := oW (gD c0 c1 c2 s0 e) (gC c3 c4 c5 s1)) (B := B) (u := u + 1 + 1 + (eC ds).length) (w1 := w) (w := 0) (D := D ++ (if f then [.op] else []) ++ [.cmd c0] ++ E ++ [.cmd cc]) (O := (0, u) :: O) (c := (0, f, x, y)) (e := e) (tail := tail)
   have t8 := L7 (bs := oW (gD c0 c1 c2 s0 e) (gC c3 c4 c5 s1)) (B := B) (u := u + 1 + 1 + (eC ds).length) (w := e) (w1 := w) (D := D ++ (if f then [.op] else []) ++ [.cmd c0] ++ E ++ [.cmd cc]) (O := O) (q := (0, u)) (g := 0) (f := f) (x := x) (y := y) (tail := tail)
   refine ⟨1 + 1 + 1 + 1 + j + 1 + 1 + 1, e, (if f then [.op] else []) ++ [.cmd c0] ++ E ++ [.cmd cc] ++ (if f then [.cl] else []), by rw [aJ]; omega, he, ?_, ?_⟩
   ·simp only [bF, aJ, aZ]
    omega
   ·rw [lb]
    have := ((((((t1.trans t2).trans t3).trans t4).trans t5).trans t6).trans t7).trans t8;rw [show D ++ ((if f then [.op] else []) ++ [.cmd c0] ++ E ++ [.cmd cc] ++ (if f then [.cl] else [])) = D ++ (if f then [.op] else []) ++ [.cmd c0] ++ E ++ [.cmd cc] ++ (if f then [.cl] else []) by simp]
    exact this
  ·have t4 := GE (bs := oW (gD c0 c1 c2 s0 e) (gC c3 c4 c5 s1)) (B := B) (u := u + 1 + 1) (w := w0) (D := D ++ (if f then [.op] else [])) (O := (0, u) :: O) (c := c3) (tail := .st (.call 0 s1 [] [.cmd c4]) :: .st (.cmd c5) :: .out (0, f, x, y) 0 :: tail)
   obtain ⟨j, w, E, hj, hw, hE, t5⟩ := deep (c0 := c0) (c1 := c1) (c2 := c2) (c3 := c3) (c4 := c4) (c5 := c5) (s0 := s0) (s1 := s1) he ds hd' B (pre ++ [1, 1]) post (u + 1 + 1) w0 (D ++ (if f then [.op] else []) ++ [.cmd c3]) ((0, u) :: O) s1 [] [.cmd c4] (.st (.cmd c5) :: .out (0, f, x, y) 0 :: tail) hB2 hu2 hO2
   obtain ⟨i, F, hi, hF, t6⟩ : ∃ (i : Nat) (F : List Deed), i <= 1 /\ F.length <= 1 /\ Turns (oW (gD c0 c1 c2 s0 e) (gC c3 c4 c5 s1)) i ⟨B, 0, u + 1 + 1 + (eC ds).length, w, D ++ (if f then [.op] else []) ++ [.cmd c3] ++ E, (0, u) :: O, gN (if w = 0 then [] else [.cmd c4]) ++ .st (.cmd c5) :: .out (0, f, x, y) 0 :: tail⟩ ⟨B, 0, u + 1 + 1 + (eC ds).length, w, D ++ (if f then [.op] else []) ++ [.cmd c3] ++ E ++ F, (0, u) :: O, .st (.cmd c5) :: .out (0, f, x, y) 0 :: tail⟩ := by
    rcases hw with rfl | rfl
    ·exact ⟨0, [], by omega, eL _, by rw [cS]; exact Turns.refl⟩
    ·exact ⟨1, [.cmd c4], bS _, bS _, GE⟩
   have t7 := GE (bs := oW (gD c0 c1 c2 s0 e) (gC c3 c4 c5 s1)) (B := B) (u := u + 1 + 1 + (eC ds).length) (w := w) (D := D ++ (if f then [.op] else []) ++ [.cmd c3] ++ E ++ F) (O := (0, u) :: O) (c := c5) (tail := .out (0, f, x, y) 0 :: tail)
   have t8 := L7 (bs := oW (gD c0 c1 c2 s0 e) (gC c3 c4 c5 s1)) (B := B) (u := u + 1 + 1 + (eC ds).length) (w := 0) (w1 := w) (D := D ++ (if f then [.op] else []) ++ [.cmd c3] ++ E ++ F ++ [.cmd c5]) (O := O) (q := (0, u)) (g := 0) (f := f) (x := x) (y := y) (tail := tail)
   refine ⟨1 + 1 + 1 + 1 + j + i + 1 + 1, 0, (if f then [.op] else []) ++ [.cmd c3] ++ E ++ F ++ [.cmd c5] ++ (if f then [.cl] else []), by rw [aJ]; omega, .inl rfl, ?_, ?_⟩
   ·simp only [bF, aJ, aZ]
    omega
   ·rw [lb]
    have := ((((((t1.trans t2).trans t3).trans t4).trans t5).trans t6).trans t7).trans t8;rw [show D ++ ((if f then [.op] else []) ++ [.cmd c3] ++ E ++ F ++ [.cmd c5] ++ (if f then [.cl] else [])) = D ++ (if f then [.op] else []) ++ [.cmd c3] ++ E ++ F ++ [.cmd c5] ++ (if f then [.cl] else []) by simp]
    exact this
theorem Mr {c0 c1 c2 c3 c4 c5 : Cmd} {s0 s1 : Bool} {e : Int} (he : e = 0 \/ e = 1) {ds : List Int} (hd : ∀ d ∈ ds, d = 0 \/ d = 1) (hl : ds.length <= 100) : ∃ m : Lm, cP (oW (gD c0 c1 c2 s0 e) (gC c3 c4 c5 s1)) 3000 (fW 0 (eC ds) 0) = .fin m /\ m.bits = eC ds /\ m.taken = (eC ds).length /\ m.deeds.length <= 502 := by
 obtain ⟨j, w, E, hj, hw, hE, t⟩ := deep (c0 := c0) (c1 := c1) (c2 := c2) (c3 := c3) (c4 := c4) (c5 := c5) (s0 := s0) (s1 := s1) he ds hd (eC ds) [] [] 0 0 [] [] false [] [] [] (by simp) rfl (fun q h => by cases h)
 have := t (3000 - j);rw [show 3000 - j + j = 3000 by omega] at this
 refine ⟨_, this.trans (LQ (by show gN (if w = 0 then [] else []) ++ [] = []; split <;> rfl)), rfl, ?_, ?_⟩
 ·show 0 + (eC ds).length = _
  omega
 ·show ([] ++ E : List Deed).length <= 502
  rw [bL];omega
theorem Pa {c0 c1 c2 c3 c4 c5 : Cmd} {s0 s1 : Bool} {e : Int} (he : e = 0 \/ e = 1) (k0 : c0.Ok) (k1 : c1.Ok) (k2 : c2.Ok) (k3 : c3.Ok) (k4 : c4.Ok) (k5 : c5.Ok) : Bk4 (oW (gD c0 c1 c2 s0 e) (gC c3 c4 c5 s1)) := by
 have gd : GdL 1 [Stt.either [] [.either (gD c0 c1 c2 s0 e) (gC c3 c4 c5 s1)]] 3 := ⟨⟨by decide, trivial, ⟨by decide, ⟨k0, ⟨⟨by decide, by decide, by decide⟩, ⟨k1, trivial⟩, ⟨k2, trivial⟩⟩, ⟨by omega, by omega⟩, trivial⟩, ⟨k3, ⟨⟨by decide, by decide, by decide⟩, trivial, ⟨k4, trivial⟩⟩, k5, trivial⟩⟩, trivial⟩, trivial⟩
 have lb : NH [Stt.either [] [.either (gD c0 c1 c2 s0 e) (gC c3 c4 c5 s1)]] := ⟨⟨⟨by decide, trivial⟩, (by show 1 <= 8; omega), ⟨⟨(by show 3 <= 8; omega), trivial, ⟨⟨(by show 1 <= 8; omega), trivial, trivial⟩, (by show 1 <= 8; omega), trivial, trivial⟩, trivial, trivial⟩, (by show 3 <= 8; omega), trivial, ⟨⟨(by show 0 <= 8; omega), trivial⟩, (by show 1 <= 8; omega), trivial, trivial⟩, trivial, trivial⟩, trivial⟩, trivial⟩
 refine ⟨by show 1 <= 1; omega, by show 1 <= 3; omega, fun b hb => ?_, fun b hb => ?_⟩
 ·rw [bU.mp hb]
  exact GdL.okb gd lb (by show 1 <= 10; omega)
 ·rw [bU.mp hb]
  exact BG.of gd (by omega) (by show 1 <= 8; omega) (by show 0 + (1 + (1 + 0 + (1 + 0) + 1 + (1 + 0)) + (1 + (0 + (1 + 0) + 1 + (1 + 0))) + 1 + 0) + 1 + 0 <= 12; omega) lb
theorem R1 {c0 c1 c2 c3 c4 c5 : Cmd} {s0 s1 : Bool} {e : Int} {S : aQ} (ls : LS S) (he : e = 0 \/ e = 1) (G : Bk4 (oW (gD c0 c1 c2 s0 e) (gC c3 c4 c5 s1))) : Bi false "Book" jF [.dat (.lst (bls (oW (gD c0 c1 c2 s0 e) (gC c3 c4 c5 s1))))] S = .ok (.dat (iZ (oW (gD c0 c1 c2 s0 e) (gC c3 c4 c5 s1)))) S := by
 have bn : AV 0 (oW (gD c0 c1 c2 s0 e) (gC c3 c4 c5 s1)) = none := by
  rcases he with rfl | rfl <;> rfl
 rw [O6 ls G.ok (by omega) rfl G.l1 G.l3, bn]
inductive Ed where
 | cmd (m : List Int) (q : Nat) | bit (b : Int) (q : Nat) | unit (es : List Nat) (sv : Bool) (ts : List Nat)
structure Us where
 p : Nat
 sv : Bool
 t : Nat
structure Gr where
 ps : List (List Ed × List Us)
 st : List Nat
end PH
namespace LA
abbrev Vc := Nat -> Int
def S : Nat -> (Nat -> Int) -> Int
 | 0, _ => 0
 | n + 1, f => S n f + f n
def lin (a : Int) (v : Vc) (b : Int) (w : Vc) : Vc := fun x => a * v x + b * w x
def zv : Vc := fun _ => 0
inductive Sp (G : Vc -> Prop) : Vc -> Prop
 | gen {v : Vc} : G v -> Sp G v
 | zero : Sp G zv
 | lin {v w : Vc} (a b : Int) : Sp G v -> Sp G w -> Sp G (lin a v b w)
 | div {v : Vc} (k : Int) : k ≠ 0 -> Sp G (fun x => k * v x) -> Sp G v
end LA
namespace LA
def fn (l : List Int) : Vc := fun x => l.getD x 0
def De : List Int -> Nat
 | [] => 0
 | x :: r => if x = 0 then De r + 1 else 0
def gcdN (l : List Int) : Nat := l.foldl (fun g x => Nat.gcd g x.natAbs) 0
end LA
namespace LA
def mulS (row base : List Int) (m : Int) : Int := if fn row (De base) = 0 then m else Int.fdiv (m * fn base (De base)) (gcdN [m, fn base (De base)])
def mulL (B : List (List Int)) (row : List Int) : Int := B.foldl (fun m base => mulS row base m) 1
end LA
namespace LA
def Bd (b : Nat) (r : List Int) : Prop := ∀ x ∈ r, x.natAbs < 2 ^ b
end LA
namespace PH
open PySem PySem.Spec PyProof PyProof.Rows L2
abbrev Ql (r : List Int) : PH.D := .lst (r.map PH.D.int)
end PH
namespace LA
def Gr (R : Nat) : Nat -> List (List Int) -> Prop
 | _, [] => True
 | i, b :: B => Bd (2 ^ i * (R + 1) - 1) b /\ Gr R (i + 1) B
end LA
namespace PH
open PySem PySem.Spec PyProof PyProof.Rows L2
theorem Je {t : Tg} {mb : FS} {d : PH.D} {r : List PH.D} {ρ ρ1 ρ2 : Ev} {S S2 : aQ} (h1 : oK t (.dat d) ρ = some ρ1) (h2 : mb ρ1 S = .next ρ2 S2) : loop t mb (d :: r) ρ S = loop t mb r ρ2 S2 := by
 rw [loop, h1];dsimp only;rw [h2]
def rwP (r : List Int) : PyData := .list (r.map PyData.int)
theorem IV : ∀ r : List Int, D.pys (r.map PH.D.int) = some (r.map PyData.int)
 | [] => rfl
 | x :: r => by
  rw [aK, aK, D.pys, IV r];rfl
theorem Gi (r : List Int) : D.py (Ql r) = some (rwP r) := by
 show D.py (.lst (r.map PH.D.int)) = _
 rw [D.py, IV r];rfl
theorem Bm : ∀ r : List Int, D.Pls (r.map PH.D.int) /\ D.hts (r.map PH.D.int) = 0
 | [] => ⟨trivial, rfl⟩
 | x :: r => by
  obtain ⟨h1, h2⟩ := Bm r;refine ⟨⟨trivial, h1⟩, ?_⟩
  rw [aK, D.hts, h2];rfl
theorem Qm {r : List Int} (h : r.length <= 1000) : (Ql r).Pl /\ (Ql r).ht = 1 := by
 obtain ⟨h1, h2⟩ := Bm r;refine ⟨⟨by rw [aN]; exact h, h1⟩, ?_⟩
 show D.hts (r.map PH.D.int) + 1 = 1
 rw [h2]
theorem AK : ∀ a b : List Int, PyData.eqvAll (a.map PyData.int) (b.map PyData.int) = decide (a = b)
 | [], [] => by simp [PyData.eqvAll]
 | [], y :: b => by simp [PyData.eqvAll]
 | x :: a, [] => by simp [PyData.eqvAll]
 | x :: a, y :: b => by
  rw [aK, aK, PyData.eqvAll, AK a b];simp only [PyData.eqv, List.cons.injEq, Bool.decide_and]
  congr 1
theorem PF (a b : List Int) : PyData.eqv (rwP a) (rwP b) = decide (a = b) := by
 unfold rwP;rw [PyData.eqv, AK]
theorem Qb {d e : PH.D} {p q : PyData} (h1 : d.Pl) (h2 : d.ht <= 64) (h3 : d.py = some p) (k1 : e.Pl) (k2 : e.ht <= 64) (k3 : e.py = some q) : Nl p q = true := by
 unfold Nl;rw [Cm h1 h2 h3, Cm k1 k2 k3];rfl
def exF2 (i n : Nat) : List (Nat × Nat) := (eI i n).map fun i => (2 * i, 2 * i + 1)
def exs (n : Nat) : List (Nat × Nat) := exF2 0 n
structure En where
 len : Int
 bits : List Int
 mat : List Int
structure Cand where
 p : Nat
 bits : List Int
 more : List Int
 mat : List Int
abbrev Wt := List (Int × List Cand)
abbrev Wi := List (Int × Nat × List Cand)
structure SSt where
 E : List (List En)
 B : List (List (List Int))
 A : Wt
abbrev OkP := Nat -> Int -> List Int -> List Int -> Prop
abbrev Prc := Nat -> Nat -> Int -> List Int -> List Int -> Prop
abbrev RSet := Int -> List Int -> List Int -> Prop
def putF (F : OkP) (p : Nat) (a : RSet) : OkP := fun q => if q = p then a else F q
def tg (af : Nat) (ex : Nat × Nat) (o : Nat) : Nat := if o = 0 then af else if o = 1 then ex.1 else ex.2
def cE (m : Nat) : Ed -> Nat
 | .cmd _ _ => 1
 | .bit _ _ => 1
 | .unit _ _ _ => 3 * (m + 1)
def pw (m : Nat) (x : List Ed × List Us) : Nat := (x.1.map (cE m)).sum + x.2.length * (m + 1)
def tot (m : Nat) (G : Gr) : Nat := (G.ps.map (pw m)).sum
inductive Frm where
 | blk (l : List Stt) (i : Nat) | kp (zs : List Pen) | cl (f : Bool) (zs : List Pen) (a b : List Stt) | ag (a : List Stt)
abbrev R4 := Nat × Nat × (Pen -> Pen) × List Int
abbrev EP := Nat -> List Int -> Option R4
structure PSt where
 fs : List Frm
 zs : List Pen
 u : Nat
 n : Nat
 w : Nat
inductive PO where
 | go (s : PSt) | more | loop
section
variable {bs : List (List Stt)} {B : List Int}
def Pos (B : List Int) (u : Nat) (b : List Int) : Prop := u + b.length = B.length /\ B.drop u = b
end
inductive Pce where
 | kp (c : Cmd) | cl (f : Bool)
def chF (row : List Nat) (k : Nat) : Bool := match row.getLast? with
 | none => true
 | some a => decide (a < k)
def nxt (n : Nat) (lev : List (List Nat)) : List (List Nat) := lev.flatMap fun row => ((aP n).filter (chF row)).map fun k => row ++ [k]
def lvl (n : Nat) : Nat -> List (List Nat)
 | 0 => [[]]
 | k + 1 => nxt n (lvl n k)
def kps : List Pce -> Nat
 | [] => 0
 | .kp _ :: r => kps r + 1
 | .cl _ :: r => kps r
def cls : List Pce -> Nat
 | [] => 0
 | .kp _ :: r => cls r
 | .cl _ :: r => cls r + 1
section
variable {bs : List (List Stt)} {T : Nat -> Nat} {S : aQ} {g : Nat}
abbrev R3 := Nat × Nat × List Int
end
theorem Nw (z : Pen) : z.d = .tup (z.ns.map PH.D.int) := rfl
theorem Qr (z : Pen) : (z.d).Pl /\ (z.d).ht = 1 := by
 rw [Nw];obtain ⟨h1, h2⟩ := Bm z.ns;refine ⟨⟨by rw [aN]; show 6 <= 1000; omega, h1⟩, ?_⟩
 show D.hts (z.ns.map PH.D.int) + 1 = 1
 rw [h2]
theorem Qx {z w : Pen} (h : z.ns = w.ns) : z = w := by
 obtain ⟨a1, a2, a3, a4, a5, a6⟩ := z;obtain ⟨b1, b2, b3, b4, b5, b6⟩ := w;simp only [Pen.ns, List.cons.injEq, and_true] at h;obtain ⟨rfl, rfl, rfl, rfl, rfl, rfl⟩ := h;rfl
instance : DecidableEq Pen := fun z w => if h : z.ns = w.ns then .isTrue (Qx h) else .isFalse fun e => h (by rw [e])
structure Eqn where
 vars : List (Nat × Nat)
 left : List Nat
 right : List Nat
 parts : List Nat
def PW {α : Type} : List α -> List (List α) -> Prop
 | [], [] => True
 | x :: xs, r :: rs => x ∈ r /\ PW xs rs
 | _, _ => False
def l3 (c1 c2 : Cmd) : List Stt := [.either [.cmd c1, .fin 1] [.cmd c2]]
abbrev Plc := Int × List Int
section
variable {bs : List (List Stt)} {T' : Nat -> Nat} {X g w n : Nat}
open Classical in
def r3 (w : Nat) (p : En) : R3 := (p.len.toNat, w, p.bits)
end
def TT (x y : Nat) : Nat -> Nat := fun g => if g = 1 then y else x
section
variable {S : aQ} {p : Nat} {ks : List Int}
theorem JT (hP : PoolAt S p ks) : S.set p (PL ks) = S := by
 apply gS
 intro i;rw [aV]
 by_cases h : p = i
 ·subst h
  rw [if_pos rfl, if_pos (aG.mp hP.1).1];exact hP.1.symm
 ·rw [if_neg h]
theorem Cv {α : Type} {e : FE} {t : Tg} {f : α -> PH.D} {Q : α -> Prop} {ρ : Ev} (hmd : ∀ (S : aQ) (ks : List Int) (d : PH.D), PoolAt S p ks -> ∃ ρ1, oK t (.dat d) ρ = some ρ1 /\ ∃ (x : α) (ks' : List Int), e ρ1 S = .ok (.dat (f x)) (S.set p (PL ks')) /\ Q x /\ ks'.length = ks.length) : ∀ (ds : List PH.D) (S : aQ) (ks : List Int), PoolAt S p ks -> ∃ (xs : List α) (ks' : List Int), iP t fP e ρ ds S = .ok (xs.map f) (S.set p (PL ks')) /\ xs.length = ds.length /\ (∀ x ∈ xs, Q x) /\ ks'.length = ks.length
 | [], S, ks, h => ⟨[], ks, by rw [JT h]; rfl, rfl, (fun x h => by cases h), rfl⟩
 | d :: r, S, ks, h => by
  obtain ⟨ρ1, h1, x, k1, e1, hx, l1⟩ := hmd S ks d h;obtain ⟨xs, k2, e2, z1, z2, z3⟩ := Cv hmd r _ k1 (h.next l1);rw [iT] at e2;refine ⟨x :: xs, k2, ?_, by simp [z1], fun y hy => ?_, by omega⟩
  ·simp only [iP, h1, fP, e1, e2, if_true]
   rfl
  ·rcases bH.mp hy with rfl | hy
   ·exact hx
   ·exact z2 y hy
theorem Lg {α : Type} {e : FE} {t : Tg} {f : α -> PH.D} {Q : α -> Prop} {ρ : Ev} {vs : List Nat} (hmd : ∀ (S : aQ) (ks : List Int) (d : PH.D), PoolAt S p ks -> ∃ ρ1, oK t (.dat d) (wipeE ρ vs) = some ρ1 /\ ∃ (x : α) (ks' : List Int), e ρ1 S = .ok (.dat (f x)) (S.set p (PL ks')) /\ Q x /\ ks'.length = ks.length) (hP : PoolAt S p ks) {n : Nat} (hn : n <= 900) : ∃ (xs : List α) (ks' : List Int), wH false t fP e ρ vs (fJ 0 n) S = .ok (.dat (.lst (xs.map f))) (S.set p (PL ks')) /\ xs.length = n /\ (∀ x ∈ xs, Q x) /\ ks'.length = ks.length := by
 obtain ⟨xs, k1, e1, z1, z2, z3⟩ := Cv hmd (fJ 0 n) S ks hP;have rl : (fJ 0 n).length = n := by unfold fJ; simp
 refine ⟨xs, k1, ?_, by omega, z2, z3⟩
 unfold wH;rw [if_pos (by rw [rl]; exact sz (by omega)), e1]
 rfl
end
theorem g_kgs {n : NL} {ρ : Ev} {S : aQ} : Q8 n (.next ρ S) = n ρ S := rfl
theorem KY {S : aQ} {x0 x1 x2 : Vl} {w : Int} {ds : List Deed} {z : Pen} {s' : Ps} (ls : LS S) (he : cH [x0, x1, x2] S = .ok (.dat (.tup [.int w, .lst (ds.map Deed.d)])) S) (ok : ∀ d ∈ ds, d.Ok) (h : jY ds ⟨[], z, []⟩ = some s') (hl : ds.length <= 900000) (hp : s'.pens.length <= 1000) :
  xR [x0, x1, x2, .dat z.d] S = .ok (s'.pens.map Pen.d) S := by
 have yf : kYf (.dat (.lst (s'.pens.map Pen.d))) S = .ok (s'.pens.map Pen.d) S := if_pos (by rw [aN]; omega)
 rw [Pi];unfold Ax;simp! [Ry, g_kgs, g_yf, he, Fi, Py ls ok h hl, yf]
theorem Mm {a : List Int} {S : aQ} (h : a.length <= 1000) : fK (.dat (Ql a)) (.dat (Ql a)) S = .ok (.dat (.bl true)) S := by
 obtain ⟨a1, a2⟩ := Qm h
 show (match D.py (Ql a), D.py (Ql a) with
  | some p, some q => if Nl p q = true then Res.ok (Vl.dat (.bl (PyData.eqv p q))) S else .stuck
  | _, _ => .stuck) = _
 rw [Gi];dsimp only;rw [if_pos (Qb a1 (by omega) (Gi a) a1 (by omega) (Gi a)), PF]
 simp
theorem FB : ∀ l : List Pen, D.Pls (l.map Pen.d) /\ D.hts (l.map Pen.d) <= 1
 | [] => ⟨trivial, eL _⟩
 | z :: r => by
  obtain ⟨h1, h2⟩ := FB r;obtain ⟨k1, k2⟩ := Qr z;refine ⟨⟨k1, h1⟩, ?_⟩
  show max (z.d).ht (D.hts (r.map Pen.d)) <= 1
  omega
theorem Av : ∀ ds : List Deed, mS ds <= ds.length
 | [] => bS _
 | .cmd c :: r => by have := Av r; show mS r + 1 <= r.length + 1; omega
 | .op :: r => by have := Av r; show mS r <= r.length + 1; omega
 | .cl :: r => by have := Av r; show mS r <= r.length + 1; omega
def lH : List Int -> List Int
 | [] => []
 | d :: r => 1 :: d :: lH r
theorem Iw : ∀ (a b : List Int), lH (a ++ b) = lH a ++ lH b
 | [], b => rfl
 | d :: r, b => by show 1 :: d :: lH (r ++ b) = _; rw [Iw r b]; rfl
theorem GP : ∀ ds, lH ds ++ [0] = eC ds
 | [] => rfl
 | d :: r => by show 1 :: d :: (lH r ++ [0]) = _; rw [GP r]; rfl
theorem EK : ∀ ds, (lH ds).length = 2 * ds.length
 | [] => rfl
 | d :: r => by have := EK r; show (lH r).length + 1 + 1 = 2 * (r.length + 1); omega
section
variable {bs : List (List Stt)} {S : aQ} {z : Pen} {v0 v1 v2 v3 v5 v6 v7 v8 v10 : Option Vl} {bits : List Int} {m : Lm} {N : Nat} {p' : Pen -> Ps} {M : List Int}
theorem QT {p : Nat} (G : Bk4 bs) (hp : p < bs.length) (ls : LS S) (hbit : ∀ b ∈ bits, b = 0 \/ b = 1) (hl : bits.length < 40000) (hr : cP bs 3000 (fW p bits 0) = .fin m) (mb : m.bits = bits) (mt : m.taken = bits.length) :
  sD [.dat (.lst (bls bs)), .dat (.int (p : Int)), .dat (.lst (bits.map D.int)), .dat (.int 0)] S = .ok (.dat (.tup [.str "run", .int m.way, .lst (m.deeds.map Deed.l), .lst (m.bits.map D.int)])) S /\ cH [.dat (iZ bs), .dat (.int (p : Int)), .dat (.lst (bits.map D.int))] S = .ok (.dat (.tup [.int m.way, .lst (m.deeds.map Deed.d)])) S /\ ∃ p' M, RunOf 6000 m p' M := by
 obtain ⟨r1, r2⟩ := Gh (ex := 0) ls G hp hbit hl;rw [hr] at r1 r2;refine ⟨?_, ?_, r2.1.all⟩
 ·refine r1.trans ?_
  unfold Bs;dsimp only;rw [if_neg (by rw [mb, mt]; omega)]
  rfl
 ·have ex := r2.2 S ls
  rw [if_neg (by rw [mb, mt]; omega), mb] at ex
  exact ex
theorem end23 (ls : LS S) {T : aQ} (hT : T = S) (r1 : sD [.dat (.lst (bls bs)), .dat (.int 0), .dat (.lst (bits.map D.int)), .dat (.int 0)] S = .ok (.dat (.tup [.str "run", .int m.way, .lst (m.deeds.map Deed.l), .lst (m.bits.map D.int)])) S) (ex : cH [.dat (iZ bs), .dat (.int 0), .dat (.lst (bits.map D.int))] S = .ok (.dat (.tup [.int m.way, .lst (m.deeds.map Deed.d)])) S) (R : RunOf N m p' M) (ml : m.deeds.length <= 1000) (hlen : bits.length <= 1000)
  (cp : pI [.dat (.lst (bls bs))] S = .ok (.dat (.lst (bls bs))) S) (mk : Bi false "Book" jF [.dat (.lst (bls bs))] S = .ok (.dat (iZ bs)) S) {acc : List D} (ad : dR false (.dat (.lst acc)) (.dat (.lst [.int 0])) S = .ok (.dat (.lst (bits.map D.int))) S) :
  lD [v0, v1, v2, v3, some (.dat z.d), v5, v6, v7, v8, some (.dat (.lst (bls bs))), v10, some (.dat (.lst acc)), none, none, none, none, none, none, none] S = .ret (.dat (.bl true)) S := by
 have cl := Av m.deeds;have pl := R.num z;have lp := R.lpens ls z;have ra := R.ran ls ex z;have rm := R.rm ls ex;have pr := R.probe ls;have tr := KY ls ex R.ok (R.pens z) (by omega) (by omega)
 obtain ⟨pens, hpens⟩ : ∃ pens, pens = (p' z).pens := ⟨_, rfl⟩;obtain ⟨z', hz'⟩ : ∃ z', z' = (p' z).z := ⟨_, rfl⟩;obtain ⟨dl, hdl⟩ : ∃ dl, dl = m.deeds.map Deed.l := ⟨_, rfl⟩;obtain ⟨bl, hbl⟩ : ∃ bl, bl = bits.map D.int := ⟨_, rfl⟩;obtain ⟨ml', hml⟩ : ∃ ml', ml' = m.bits.map D.int := ⟨_, rfl⟩;obtain ⟨B, hB⟩ : ∃ B, B = iZ bs := ⟨_, rfl⟩;obtain ⟨bb, hbb⟩ : ∃ bb, bb = bls bs := ⟨_, rfl⟩;obtain ⟨w, hw⟩ : ∃ w, w = m.way := ⟨_, rfl⟩;obtain ⟨n, hn⟩ : ∃ n : Int, n = (mS m.deeds : Int) := ⟨_, rfl⟩;have sm1 := Da 20 (S := S) (FC (z := z') (w := w) (n := n)).1 (FC (z := z') (w := w) (n := n)).2;have hM : M.length = 49 := R.of.1;have sm2 := Da 20 (S := S) (LJ (M := M) (w := w) (n := n) hM).1 (LJ (M := M) (w := w) (n := n) hM).2;have sm3 : lO 20 [.dat (.lst (pens.map Pen.d)), .dat (.lst (pens.map Pen.d))] S = .ok (.dat (.bl true)) S := by
  obtain ⟨q1, q2⟩ := FB pens;refine Da 20 ⟨by rw [aN, hpens]; omega, q1⟩ ?_
  show D.hts (pens.map Pen.d) + 1 < 20
  omega
 have fe : fK (.dat (.lst bl)) (.dat (.lst bl)) S = .ok (.dat (.bl true)) S := by
  rw [hbl];exact Mm (a := bits) hlen
 have fl : qD false (.dat (.lst bl)) S = .ok (.dat (.lst bl)) S := rfl;have ln : fF (.dat (.lst (pens.map Pen.d))) S = .ok (.dat (.int n)) S := by
  show Res.ok (Vl.dat (.int ((pens.map Pen.d).length : Int))) S = _
  rw [aN, hpens, pl, hn]
 obtain ⟨pd, hpd⟩ : ∃ pd, pd = pens.map Pen.d := ⟨_, rfl⟩;rw [<- hpens, <- hz'] at lp;rw [<- hz', <- hw, <- hn, <- hB, <- hbl] at ra;rw [<- hw, <- hn, <- hB, <- hbl] at rm;rw [<- hdl] at lp pr;rw [<- hB, <- hbl, <- hpens] at tr;rw [<- hbb, <- hbl, <- hw, <- hdl, <- hml] at r1;rw [<- hbb] at cp;rw [<- hbb, <- hB] at mk;rw [<- hbl] at ad;rw [<- hbb];rw [<- hpd] at lp tr ln sm3;have tg : yD xR [.dat B, .dat (.int 0), .dat (.lst bl)] (.dat z.d) S = .ok (.dat (.lst pd)) S := by
  unfold yD;rw [show ([.dat B, .dat (.int 0), .dat (.lst bl)] : List Vl) ++ [.dat z.d] = [.dat B, .dat (.int 0), .dat (.lst bl), .dat z.d] from rfl, tr]
 clear hpens hz' hdl hbl hml hB hbb hw hn hpd;unfold lD tU tV tW;simp! [ad, r1, cK, eM, kL, zU, AZ, cp, mk, lp, fl, Ia, D5, D6, bV, bL, ra, ln, sm1, rm, pr, sm2, OT, Jv, tg, sm3, fe]
end
section
variable {c0 c1 c2 c3 c4 c5 : Cmd} {s0 s1 : Bool} {e : Int} {ds : List Int} {S : aQ} {z : Pen} {v0 v1 v2 v3 v5 v6 v7 v8 v10 : Option Vl}
theorem QU (he : e = 0 \/ e = 1) (k0 : c0.Ok) (k1 : c1.Ok) (k2 : c2.Ok) (k3 : c3.Ok) (k4 : c4.Ok) (k5 : c5.Ok) (hd : ∀ d ∈ ds, d = 0 \/ d = 1) (hl : ds.length <= 100) (ls : LS S) :
  lD [v0, v1, v2, v3, some (.dat z.d), v5, v6, v7, v8, some (.dat (.lst (bls (oW (gD c0 c1 c2 s0 e) (gC c3 c4 c5 s1))))), v10, some (.dat (.lst ((lH ds).map D.int))), none, none, none, none, none, none, none] S = .ret (.dat (.bl true)) S := by
 have G := Pa (s0 := s0) (s1 := s1) he k0 k1 k2 k3 k4 k5;have mk := R1 (S := S) ls he G;obtain ⟨m, hr, mb, mt, ml⟩ := Mr (c0 := c0) (c1 := c1) (c2 := c2) (c3 := c3) (c4 := c4) (c5 := c5) (s0 := s0) (s1 := s1) he hd hl;have hbit := C8 hd;have hlen := C7 ds;have cp := NI (S := S) G.ok (by omega) (show 1 <= 10 by omega)
 have ad : dR false (.dat (.lst ((lH ds).map D.int))) (.dat (.lst [.int 0])) S = .ok (.dat (.lst ((eC ds).map D.int))) S := by
  rw [<- GP, bN];exact oE (sz (by rw [aN, EK]; show 2 * ds.length + 1 <= 1000; omega))
 have hp : 0 < (oW (gD c0 c1 c2 s0 e) (gC c3 c4 c5 s1)).length := by show 0 < 1; omega
 generalize oW (gD c0 c1 c2 s0 e) (gC c3 c4 c5 s1) = bs at G mk hr cp hp ⊢;generalize eC ds = bits at hr mb mt hbit hlen ad;obtain ⟨r1, ex, p', M, R⟩ := QT G hp ls hbit (by omega) hr mb mt
 exact end23 ls rfl r1 ex R (by omega) (by omega) cp mk ad
end
abbrev SS (v0 v2 v3 v4 v5 v6 v7 v8 v9 v10 : Option Vl) (acc : List Int) : Ev := [v0, some (.cel 0), v2, v3, v4, v5, v6, v7, v8, v9, v10, some (.dat (.lst (acc.map D.int))), none, none, none, none, none, none, none]
theorem LV {v0 v2 v3 v4 v5 v6 v7 v8 v9 v10 : Option Vl} : ∀ (ls : List PH.D) (ks ds : List Int), 2 <= ks.length -> (∀ d ∈ ds, d = 0 \/ d = 1) -> ds.length + ls.length <= 100 ->
  ∃ (ds' ks' : List Int), loop (.nm 12) kZ ls (SS v0 v2 v3 v4 v5 v6 v7 v8 v9 v10 (lH ds)) [PL ks] = .next (SS v0 v2 v3 v4 v5 v6 v7 v8 v9 v10 (lH ds')) [PL ks'] /\ (∀ d ∈ ds', d = 0 \/ d = 1) /\ ds'.length = ds.length + ls.length /\ ks'.length = ks.length
 | [], ks, ds, h2, hd, hl => ⟨ds, ks, rfl, hd, rfl, rfl⟩
 | x :: r, ks, ds, h2, hd, hl => by
  rw [aJ] at hl;obtain ⟨d, k1, e1, d0, d1, l1⟩ := jP (S := [PL ks]) (p := 0) ⟨rfl, h2⟩ (k := 2) (by decide) (by decide)
  rw [bO] at e1;have e1 : dE [.cel 0, .dat (.int 2)] [PL ks] = .ok (.dat (.int d)) [PL k1] := e1;have ad : dR false (.dat (.lst ((lH ds).map D.int))) (.dat (.lst [.int 1, .int d])) [PL k1] = .ok (.dat (.lst ((lH (ds ++ [d])).map D.int))) [PL k1] := by
   rw [Iw, bN];exact oE (sz (by rw [aN, EK]; show 2 * ds.length + 2 <= 1000; omega))
  have turn : kZ [v0, some (.cel 0), v2, v3, v4, v5, v6, v7, v8, v9, v10, some (.dat (.lst ((lH ds).map D.int))), some (.dat x), none, none, none, none, none, none] [PL ks] = .next (SS v0 v2 v3 v4 v5 v6 v7 v8 v9 v10 (lH (ds ++ [d]))) [PL k1] := by
   unfold kZ;simp! [e1, ad]
  obtain ⟨ds', k2, e2, z1, z2, z3⟩ := LV (v0 := v0) (v2 := v2) (v3 := v3) (v4 := v4) (v5 := v5) (v6 := v6) (v7 := v7) (v8 := v8) (v9 := v9) (v10 := v10) r k1 (ds ++ [d]) (by omega) (fun y hy => by
   rcases dD.mp hy with hy | hy
   ·exact hd y hy
   ·rw [bU.mp hy]; omega) (by simp; omega)
  refine ⟨ds', k2, ?_, z1, by rw [z2]; simp; omega, by omega⟩
  rw [<- e2];exact Je (ρ1 := [v0, some (.cel 0), v2, v3, v4, v5, v6, v7, v8, v9, v10, some (.dat (.lst ((lH ds).map D.int))), some (.dat x), none, none, none, none, none, none]) rfl turn
theorem law_true_k23 : ∀ ns : List Int, ns.length <= 63 -> ∃ S, m_law_k23 [.scr ns] [] = .ok (.dat (.bl true)) S := by
 intro ns hn;refine ⟨[], ?_⟩
 rw [KE];obtain ⟨k0, e0, h0⟩ := Nv (S := []) hn;have P0 : PoolAt [PL k0] 0 k0 := ⟨rfl, h0⟩;simp only [bL] at e0;obtain ⟨f, k1, e1, f0, f1, l1⟩ := jP P0 (k := 30) (by decide) (by decide)
 rw [bO] at e1;have e1 : dE [.cel 0, .dat (.int 30)] [PL k0] = .ok (.dat (.int f)) [PL k1] := e1;obtain ⟨a, k2, e2, a0, a1, l2⟩ := jP (S := [PL k1]) (p := 0) ⟨rfl, by omega⟩ (k := 3) (by decide) (by decide)
 rw [bO] at e2;have e2 : dE [.cel 0, .dat (.int 3)] [PL k1] = .ok (.dat (.int a)) [PL k2] := e2;obtain ⟨b, k3, e3, b0, b1, l3⟩ := jP (S := [PL k2]) (p := 0) ⟨rfl, by omega⟩ (k := 3) (by decide) (by decide)
 rw [bO] at e3;have e3 : dE [.cel 0, .dat (.int 3)] [PL k2] = .ok (.dat (.int b)) [PL k3] := e3;obtain ⟨z, k4, e4, _, l4⟩ := Qs (S := [PL k3]) (p := 0) ⟨rfl, by omega⟩
 rw [bO] at e4;have rg6 : ∀ T, AF (.dat (.int 6)) T = .ok (fJ 0 6) T := fun T => rfl
 obtain ⟨cs, k5, e5, z1, z2, l5⟩ := Lg (p := 0) (f := Cmd.d) (Q := Cmd.Ok) (t := .nm 18) (e := bM fY (aB (aC 1) aO)) (ρ := [some (.scr ns), some (.cel 0), some (.dat (.int (1 + f))), some (.dat (.lst [.bl (decide (a = 0)), .bl (decide (b = 0))])), some (.dat z.d), none, none, none, none, none, none, none, none, none, none, none, none, none, none]) (vs := [18]) (fun T k d h => ⟨[some (.scr ns), some (.cel 0), some (.dat (.int (1 + f))), some (.dat (.lst [.bl (decide (a = 0)), .bl (decide (b = 0))])), some (.dat z.d), none, none, none, none, none, none, none, none, none, none, none, none, none, some (.dat d)], rfl, by
   obtain ⟨c, k', e, hc, l⟩ := Hb h;refine ⟨c, k', ?_, hc, l⟩
   simp! [e]⟩) (S := [PL k4]) ⟨rfl, by omega⟩ (n := 6) (by omega)
 rw [bO] at e5;obtain ⟨en, k6, e6, en0, en1, l6⟩ := jP (S := [PL k5]) (p := 0) ⟨rfl, by omega⟩ (k := 2) (by decide) (by decide)
 rw [bO] at e6;have e6 : dE [.cel 0, .dat (.int 2)] [PL k5] = .ok (.dat (.int en)) [PL k6] := e6
 match cs, z1, z2, e5 with
 | [c0, c1, c2, c3, c4, c5], _, z2, e5 =>
  have ok0 : c0.Ok := z2 c0 (by simp)
  have ok1 : c1.Ok := z2 c1 (by simp)
  have ok2 : c2.Ok := z2 c2 (by simp)
  have ok3 : c3.Ok := z2 c3 (by simp)
  have ok4 : c4.Ok := z2 c4 (by simp)
  have ok5 : c5.Ok := z2 c5 (by simp)
  have e5 : wH false (.nm 18) fP (bM fY (aB (aC 1) aO)) [some (.scr ns), some (.cel 0), some (.dat (.int (1 + f))), some (.dat (.lst [.bl (decide (a = 0)), .bl (decide (b = 0))])), some (.dat z.d), none, none, none, none, none, none, none, none, none, none, none, none, none, none] [18] (fJ 0 6) [PL k4] = .ok (.dat (.lst [c0.d, c1.d, c2.d, c3.d, c4.d, c5.d])) [PL k5] := e5;have i0 : ∀ T, bR (.dat (.lst [c0.d, c1.d, c2.d, c3.d, c4.d, c5.d])) (.dat (.int 0)) T = .ok (.dat c0.d) T := fun T => rfl
  have i1 : ∀ T, bR (.dat (.lst [c0.d, c1.d, c2.d, c3.d, c4.d, c5.d])) (.dat (.int 1)) T = .ok (.dat c1.d) T := fun T => rfl
  have i2 : ∀ T, bR (.dat (.lst [c0.d, c1.d, c2.d, c3.d, c4.d, c5.d])) (.dat (.int 2)) T = .ok (.dat c2.d) T := fun T => rfl
  have i3 : ∀ T, bR (.dat (.lst [c0.d, c1.d, c2.d, c3.d, c4.d, c5.d])) (.dat (.int 3)) T = .ok (.dat c3.d) T := fun T => rfl
  have i4 : ∀ T, bR (.dat (.lst [c0.d, c1.d, c2.d, c3.d, c4.d, c5.d])) (.dat (.int 4)) T = .ok (.dat c4.d) T := fun T => rfl
  have i5 : ∀ T, bR (.dat (.lst [c0.d, c1.d, c2.d, c3.d, c4.d, c5.d])) (.dat (.int 5)) T = .ok (.dat c5.d) T := fun T => rfl
  have j0 : ∀ T, bR (.dat (.lst [.bl (decide (a = 0)), .bl (decide (b = 0))])) (.dat (.int 0)) T = .ok (.dat (.bl (decide (a = 0)))) T := fun T => rfl
  have j1 : ∀ T, bR (.dat (.lst [.bl (decide (a = 0)), .bl (decide (b = 0))])) (.dat (.int 1)) T = .ok (.dat (.bl (decide (b = 0)))) T := fun T => rfl
  have fl : fF (.cel 0) [PL k6] = .ok (.dat (.int (k6.length : Int))) [PL k6] := PX (S := [PL k6]) (p := 0) ⟨rfl, by omega⟩
  have mu : nX (.dat (.int (1 + f))) (.dat (.int ((k6.length : Int) - 1))) [PL k6] = .ok (.dat (.int ((1 + f) * ((k6.length : Int) - 1)))) [PL k6] := lX (mulL (by omega) (by omega))
  obtain ⟨n, hn90, hmin⟩ : ∃ n : Nat, n <= 90 /\ D9 (.dat (.int 90)) (.dat (.int ((1 + f) * ((k6.length : Int) - 1)))) [PL k6] = .ok (.dat (.int (n : Int))) [PL k6] := by
   have pos : 0 <= (1 + f) * ((k6.length : Int) - 1) := Int.mul_nonneg (by omega) (by omega)
   rw [MB];generalize (1 + f) * ((k6.length : Int) - 1) = y at pos
   by_cases hy : y < 90
   ·exact ⟨y.toNat, by omega, by rw [Int.toNat_of_nonneg pos]; congr 3; split <;> omega⟩
   ·exact ⟨90, by omega, by congr 3; split <;> omega⟩
  have rg : ∀ T, AF (.dat (.int (n : Int))) T = .ok (fJ 0 n) T := fun T => by rw [nA (by omega) (by omega), jV]
  have rl : (fJ 0 n).length = n := by unfold fJ; simp
  obtain ⟨ds, k7, e7, hd, dl, l7⟩ := LV (v0 := some (.scr ns)) (v2 := some (.dat (.int (1 + f)))) (v3 := some (.dat (.lst [.bl (decide (a = 0)), .bl (decide (b = 0))]))) (v4 := some (.dat z.d)) (v5 := some (.dat (.lst [c0.d, c1.d, c2.d, c3.d, c4.d, c5.d]))) (v6 := some (.dat (.int en))) (v7 := some (.dat (.lst [c0.d, .tup [.str "call", .int 0, .bl (decide (a = 0)), .lst [.lst [c1.d], .lst [c2.d]]], .tup [.str "end", .int en]]))) (v8 := some (.dat (.lst [c3.d, .tup [.str "call", .int 0, .bl (decide (b = 0)), .lst [.lst [], .lst [c4.d]]], c5.d]))) (v9 := some (.dat (.lst [.lst [.tup [.str "either", .lst [], .lst [.tup [.str "either", .lst [c0.d, .tup [.str "call", .int 0, .bl (decide (a = 0)), .lst [.lst [c1.d], .lst [c2.d]]], .tup [.str "end", .int en]], .lst [c3.d, .tup [.str "call", .int 0, .bl (decide (b = 0)), .lst [.lst [], .lst [c4.d]]], c5.d]]]]]]))) (v10 := some (.dat (.int (n : Int)))) (fJ 0 n) k6 [] (by omega) (fun d h => by cases h) (by rw [rl]; show 0 + n <= 100; omega)
  have tl := QU (c0 := c0) (c1 := c1) (c2 := c2) (c3 := c3) (c4 := c4) (c5 := c5) (s0 := decide (a = 0)) (s1 := decide (b = 0)) (e := en) (ds := ds) (S := [PL k7]) (z := z) (v0 := some (.scr ns)) (v1 := some (.cel 0)) (v2 := some (.dat (.int (1 + f)))) (v3 := some (.dat (.lst [.bl (decide (a = 0)), .bl (decide (b = 0))]))) (v5 := some (.dat (.lst [c0.d, c1.d, c2.d, c3.d, c4.d, c5.d]))) (v6 := some (.dat (.int en))) (v7 := some (.dat (.lst [c0.d, .tup [.str "call", .int 0, .bl (decide (a = 0)), .lst [.lst [c1.d], .lst [c2.d]]], .tup [.str "end", .int en]]))) (v8 := some (.dat (.lst [c3.d, .tup [.str "call", .int 0, .bl (decide (b = 0)), .lst [.lst [], .lst [c4.d]]], c5.d]))) (v10 := some (.dat (.int (n : Int)))) (by omega) ok0 ok1 ok2 ok3 ok4 ok5 hd (by rw [dl, rl]; show 0 + n <= 100; omega) O8
  have e7 : loop (.nm 12) kZ (fJ 0 n) [some (.scr ns), some (.cel 0), some (.dat (.int (1 + f))), some (.dat (.lst [.bl (decide (a = 0)), .bl (decide (b = 0))])), some (.dat z.d), some (.dat (.lst [c0.d, c1.d, c2.d, c3.d, c4.d, c5.d])), some (.dat (.int en)), some (.dat (.lst [c0.d, .tup [.str "call", .int 0, .bl (decide (a = 0)), .lst [.lst [c1.d], .lst [c2.d]]], .tup [.str "end", .int en]])), some (.dat (.lst [c3.d, .tup [.str "call", .int 0, .bl (decide (b = 0)), .lst [.lst [], .lst [c4.d]]], c5.d])), some (.dat (.lst [.lst [.tup [.str "either", .lst [], .lst [.tup [.str "either", .lst [c0.d, .tup [.str "call", .int 0, .bl (decide (a = 0)), .lst [.lst [c1.d], .lst [c2.d]]], .tup [.str "end", .int en]], .lst [c3.d, .tup [.str "call", .int 0, .bl (decide (b = 0)), .lst [.lst [], .lst [c4.d]]], c5.d]]]]]])), some (.dat (.int (n : Int))), some (.dat (.lst [])), none, none, none, none, none, none, none] [PL k6] = .next [some (.scr ns), some (.cel 0), some (.dat (.int (1 + f))), some (.dat (.lst [.bl (decide (a = 0)), .bl (decide (b = 0))])), some (.dat z.d), some (.dat (.lst [c0.d, c1.d, c2.d, c3.d, c4.d, c5.d])), some (.dat (.int en)), some (.dat (.lst [c0.d, .tup [.str "call", .int 0, .bl (decide (a = 0)), .lst [.lst [c1.d], .lst [c2.d]]], .tup [.str "end", .int en]])), some (.dat (.lst [c3.d, .tup [.str "call", .int 0, .bl (decide (b = 0)), .lst [.lst [], .lst [c4.d]]], c5.d])), some (.dat (.lst [.lst [.tup [.str "either", .lst [], .lst [.tup [.str "either", .lst [c0.d, .tup [.str "call", .int 0, .bl (decide (a = 0)), .lst [.lst [c1.d], .lst [c2.d]]], .tup [.str "end", .int en]], .lst [c3.d, .tup [.str "call", .int 0, .bl (decide (b = 0)), .lst [.lst [], .lst [c4.d]]], c5.d]]]]]])), some (.dat (.int (n : Int))), some (.dat (.lst ((lH ds).map D.int))), none, none, none, none, none, none, none] [PL k7] := e7;have tl : lD [some (.scr ns), some (.cel 0), some (.dat (.int (1 + f))), some (.dat (.lst [.bl (decide (a = 0)), .bl (decide (b = 0))])), some (.dat z.d), some (.dat (.lst [c0.d, c1.d, c2.d, c3.d, c4.d, c5.d])), some (.dat (.int en)), some (.dat (.lst [c0.d, .tup [.str "call", .int 0, .bl (decide (a = 0)), .lst [.lst [c1.d], .lst [c2.d]]], .tup [.str "end", .int en]])), some (.dat (.lst [c3.d, .tup [.str "call", .int 0, .bl (decide (b = 0)), .lst [.lst [], .lst [c4.d]]], c5.d])), some (.dat (.lst [.lst [.tup [.str "either", .lst [], .lst [.tup [.str "either", .lst [c0.d, .tup [.str "call", .int 0, .bl (decide (a = 0)), .lst [.lst [c1.d], .lst [c2.d]]], .tup [.str "end", .int en]], .lst [c3.d, .tup [.str "call", .int 0, .bl (decide (b = 0)), .lst [.lst [], .lst [c4.d]]], c5.d]]]]]])), some (.dat (.int (n : Int))), some (.dat (.lst ((lH ds).map D.int))), none, none, none, none, none, none, none] [PL k7] = .ret (.dat (.bl true)) [PL k7] := tl;unfold rS;simp! [e0, e1, e2, e3, e4, rg6, e5, e6, i0, i1, i2, i3, i4, i5, j0, j1, fl, mu, hmin, rg, e7, tl];exact QS
end PH
open PySem PySem.W PySem.Calls PyProof.Rows
set_option maxHeartbeats 0 in
theorem PySem.Challenge.cw_penhome_k23_whole_deep_recursion_holds : PySem.Challenge.rw_penhome_k23_whole_deep_recursion.Holds := by
 w_on; o_law
 refine HandSHeadRun.head_any (r := OpenLaw.row PySem.Challenge.rw_penhome_k23_whole_deep_recursion) (q := view (OpenLaw.row PySem.Challenge.rw_penhome_k23_whole_deep_recursion).prog [60]) (H := PHZ.hk) (ob := PHZ.ob) (M := 8000) (loose := PHZ.loose) (d := HandSHeadRun.topDef (OpenLaw.row PySem.Challenge.rw_penhome_k23_whole_deep_recursion).prog 60) (kwd := []) PHZ.ob_eq
  (by kernel_rfl) (fun s => by kernel_rfl) PHZ.run_ (by kernel_rfl) (by kernel_rfl) (by kernel_rfl) (by rfl) (by first | assumption | decide +kernel) (by decide +kernel) ⟨rfl, rfl, rfl, rfl, rfl, by decide +kernel⟩ ?hw ?hc
 case hw => w_witness2
 case hc =>
  refine PH.walk_g (l := PySem.Challenge.rw_penhome_k23_whole_deep_recursion) (n := 63) (k := 29) (x := "_law_script") rfl (by decide) (by kernel_rfl) ⟨rfl, by decide, by decide⟩ ?F
  intro w mg fa h Y G hmg0;obtain ⟨K, KX, c⟩ := Y;have hmg : mg ("law" : PySem.Str) = some (.ref fa) := by
   have e : (HandSHeadRun.topDef (OpenLaw.row PySem.Challenge.rw_penhome_k23_whole_deep_recursion).prog 60).name = ("law" : PySem.Str) := by kernel_rfl
   rw [<- e];exact hmg0
  have T := PHZ.txt (w := w) KX G c;have e := hmg.symm.trans T.G_law_k23;cases e;obtain ⟨fd, b, F⟩ := PHZ.law_fn (P := (PySem.Challenge.rw_penhome_k23_whole_deep_recursion).prog) T;exact ⟨K, fd, PH.spF K PH.m_law_k23, KX, fun s v => b s [v] rfl, fun H a ns hl hO hS => PH.law_start PH.law_true_k23 H a ns hl hO hS, fun base _ _ => F base⟩
